import PyProof.Rows.All
import Wide.All
import OpenK.AllK
import Wide.FinOn
import HandS.ForMost
import HandS.ForExc
import HandS.IsInst
import HandS.Style
import HandS.TupAny
import HandS.TupMul
import HandS.TupLe
import HandS.Wide
import HandS.Conv
import HandS.Flow
import HandS.RaiseMore
import HandS.HeadHook1
import HandS.Defaults
import HandS.Ends
import KE.KUnpackStar
import HandS.Head0
import HandS.Head1
import HandS.Head2
import HandS.HeadEnd
import HandS.HeadHook2
import HandS.Text
import HandS.Replace
import HandS.MakeKwOnly
import PyProof.Rows.NestShow
import KE.IntTextLaws
import PyProof.ReprLen
import KE.GoesNew
import KE.GoesMore
import KE.GoesEnum
import HandS.HeadHook4
import HandS.Codes
import HandS.ListItems
import HandS.SetBool
import HandS.Strs
import HandS.ExcInit
import HandS.ExcIs
import PyProof.ReprRoads
import PyProof.ReprDict
import PyProof.ExcRepr
import PySem.Challenge.RW_rulesplay_k01_kinds_of_any_thing
import KE.KStateDown
set_option Elab.async false
set_option linter.all false
set_option maxRecDepth 100000
set_option maxHeartbeats 1000000
namespace U
open PySem L2
/-! ### data, the store of what may change, answers -/
inductive D where
  | non | bl (b : Bool) | int (i : Int) | str (s : Str)
  | tup (xs : List D) | lst (xs : List D) | kls (xs : List D) | dic (kvs : List (Key × D))
  | ptr (n : Nat) | cst (v : V)
  | ins (c : Str) (fs : List (Str × D))
  | fn (x : Str)
  | exc (c t : Str) (fs : List (Str × D))
inductive MO where
  | lst (xs : List D) | dic (kvs : List (Key × D)) | dead
  | ins (c : Str) (fs : List (Str × D))
abbrev ST := List MO
inductive Rs (α : Type) where
  | ok (a : α) | ex (c : Str) (fs : List (Str × D))
abbrev Fr := PySem.W.Frag

/-- a list that is never written again -/
def FzL (K : Fr) (H : Hp) (a : Addr) (xs : List V) : Prop :=
  (∃ o, H a = some (.frz o (.lst xs))) ∨
    ∃ (o : Obj) (its : Array Value) (n : Nat), K.lookup a = some o ∧ o.cls = .type "list" ∧ o.dict = none ∧ o.data = .seq its n ∧ its.size ≤ sizeLine ∧ Vals xs its.toList
theorem FzL.sq {K : Fr} {H : Hp} {a : Addr} {xs : List V} (h : FzL K H a xs) : SqL K H a xs := by
  rcases h with ⟨o, h⟩ | h
  · exact .inl (.inr ⟨o, h⟩)
  · exact .inr h

/-- an exception of the class at C, its dict, its args -/
abbrev exR (C : Addr) (d : Option Addr) (t : Addr) : Obj := { cls := .ref C, dict := d, data := .fields #[.ref t, .none, .none, .none, .bool false, .none] }
mutual
inductive Dt (K : Fr) (q : Nat → Addr) (n : Nat) (H : Hp) : V → D → Prop
  | non : Dt K q n H .non .non
  | bl (b : Bool) : Dt K q n H (.bl b) (.bl b)
  | int (i : Int) : Dt K q n H (.int i) (.int i)
  | str (x : Str) : Dt K q n H (.str x) (.str x)
  | tup {a : Addr} {vs : List V} {ds : List D} : SqT K H a vs → Dts K q n H vs ds → Dt K q n H (.ref a) (.tup ds)
  | lst {a : Addr} {o : Obj} {vs : List V} {ds : List D} : H a = some (.frz o (.lst vs)) → Dts K q n H vs ds → Dt K q n H (.ref a) (.lst ds)
  | kls {a : Addr} {vs : List V} {ds : List D} : FzL K H a vs → Dts K q n H vs ds → Dt K q n H (.ref a) (.kls ds)
  | dic {a : Addr} {o : Obj} {kv : List (Key × V)} {kvs : List (Key × D)} : H a = some (.frz o (.dK kv)) → Dkv K q n H kv kvs → Dt K q n H (.ref a) (.dic kvs)
  | ptr {m : Nat} : m < n → Dt K q n H (.ref (q m)) (.ptr m)
  | cst {v : V} : Dt K q n H v (.cst v)
  | ins {a dx : Addr} {o : Obj} {c : Str} {fv : List (Str × V)} {fs : List (Str × D)} : H a = some (.frz o (.ins (He.ga K c) dx fv)) → Dfv K q n H fv fs → Dt K q n H (.ref a) (.ins c fs)
  | fn {x : Str} : Dt K q n H (.ref (He.ga K x)) (.fn x)
  | exc {a t1 dx : Addr} {od : Obj} {c t : Str} {fv : List (Str × V)} {fs : List (Str × D)} : H a = some (.frz (exR (He.ga K c) (some dx) t1) (.ext fun _ => True)) → SqT K H t1 [.str t] → H dx = some (.frz od (.xd fv)) → Dfv K q n H fv fs → Dt K q n H (.ref a) (.exc c t fs)
inductive Dts (K : Fr) (q : Nat → Addr) (n : Nat) (H : Hp) : List V → List D → Prop
  | nil : Dts K q n H [] []
  | cons {v : V} {d : D} {vs : List V} {ds : List D} : Dt K q n H v d → Dts K q n H vs ds → Dts K q n H (v :: vs) (d :: ds)
inductive Dkv (K : Fr) (q : Nat → Addr) (n : Nat) (H : Hp) : List (Key × V) → List (Key × D) → Prop
  | nil : Dkv K q n H [] []
  | cons {k : Key} {v : V} {d : D} {vs : List (Key × V)} {ds : List (Key × D)} : Dt K q n H v d → Dkv K q n H vs ds → Dkv K q n H ((k, v) :: vs) ((k, d) :: ds)
inductive Dfv (K : Fr) (q : Nat → Addr) (n : Nat) (H : Hp) : List (Str × V) → List (Str × D) → Prop
  | nil : Dfv K q n H [] []
  | cons {k : Str} {v : V} {d : D} {vs : List (Str × V)} {ds : List (Str × D)} : Dt K q n H v d → Dfv K q n H vs ds → Dfv K q n H ((k, v) :: vs) ((k, d) :: ds)
end

/-- the heap goes on: what is never written stays, the store grows -/
structure Ge (q : Nat → Addr) (n : Nat) (H : Hp) (q' : Nat → Addr) (n' : Nat) (H' : Hp) : Prop where
  ag : ∀ m, m < n → q' m = q m
  le : n ≤ n'
  tp : ∀ a xs, H a = some (.tup xs) → H' a = some (.tup xs)
  fz : ∀ a o u, H a = some (.frz o u) → H' a = some (.frz o u)
/-- .. and what stands beside the store stays as it is, what comes into the store is new -/
structure Gr (q : Nat → Addr) (n : Nat) (H : Hp) (q' : Nat → Addr) (n' : Nat) (H' : Hp) : Prop where
  ge : Ge q n H q' n' H'
  fr : ∀ a u, H a = some u → (∀ m, m < n → q m ≠ a) → H' a = some u
  nw : ∀ m, n ≤ m → m < n' → H (q' m) = none
  tk : ∀ a u, H a = some u → ∃ u', H' a = some u'
section
variable {K : Fr} {q q1 q2 : Nat → Addr} {n n1 n2 : Nat} {H H1 H2 : Hp}
theorem Ge.refl : Ge q n H q n H := ⟨fun _ _ => rfl, Nat.le_refl _, fun _ _ h => h, fun _ _ _ h => h⟩
theorem Ge.trans (a : Ge q n H q1 n1 H1) (b : Ge q1 n1 H1 q2 n2 H2) : Ge q n H q2 n2 H2 :=
  ⟨fun m h => (b.ag m (Nat.lt_of_lt_of_le h a.le)).trans (a.ag m h), Nat.le_trans a.le b.le, fun x y h => b.tp x y (a.tp x y h), fun x y z h => b.fz x y z (a.fz x y z h)⟩
theorem Gr.refl : Gr q n H q n H := ⟨.refl, fun _ _ h _ => h, fun m h h' => absurd h (Nat.not_le_of_lt h'), fun _ u h => ⟨u, h⟩⟩
theorem Gr.out (a : Gr q n H q1 n1 H1) {p : Addr} {u : HO} (h : H p = some u) (ho : ∀ m, m < n → q m ≠ p) : ∀ m, m < n1 → q1 m ≠ p := fun m hm e => by
  by_cases hn : m < n
  · exact ho m hn ((a.ge.ag m hn).symm.trans e)
  · have := a.nw m (by omega) hm
    rw [e, h] at this
    cases this
theorem Gr.free (a : Gr q n H q1 n1 H1) {p : Addr} (h : H1 p = none) : H p = none := by
  cases e : H p with
  | none => rfl
  | some u =>
    obtain ⟨u', e'⟩ := a.tk p u e
    rw [h] at e'
    cases e'
theorem Gr.trans (a : Gr q n H q1 n1 H1) (b : Gr q1 n1 H1 q2 n2 H2) : Gr q n H q2 n2 H2 := by
  refine ⟨a.ge.trans b.ge, fun p u h ho => b.fr p u (a.fr p u h ho) (a.out h ho), fun m h h' => ?_, fun p u h => ?_⟩
  · by_cases hn : m < n1
    · rw [b.ge.ag m hn]; exact a.nw m h hn
    · exact a.free (b.nw m (by omega) h')
  · obtain ⟨u', h1⟩ := a.tk p u h
    exact b.tk p u' h1
theorem Ge.sqT (g : Ge q n H q1 n1 H1) {a : Addr} {xs : List V} (h : SqT K H a xs) : SqT K H1 a xs := by
  rcases h with (h | ⟨o, h⟩) | h
  · exact .inl (.inl (g.tp _ _ h))
  · exact .inl (.inr ⟨o, g.fz _ _ _ h⟩)
  · exact .inr h
theorem Ge.fzl (g : Ge q n H q1 n1 H1) {a : Addr} {xs : List V} (h : FzL K H a xs) : FzL K H1 a xs := by
  rcases h with ⟨o, h⟩ | h
  · exact .inl ⟨o, g.fz _ _ _ h⟩
  · exact .inr h
mutual
theorem Dt.mono (g : Ge q n H q1 n1 H1) : ∀ {v : V} {d : D}, Dt K q n H v d → Dt K q1 n1 H1 v d
  | _, _, .non => .non
  | _, _, .bl b => .bl b
  | _, _, .int b => .int b
  | _, _, .str b => .str b
  | _, _, .tup h hs => .tup (g.sqT h) (Dts.mono g hs)
  | _, _, .lst h hs => .lst (g.fz _ _ _ h) (Dts.mono g hs)
  | _, _, .kls h hs => .kls (g.fzl h) (Dts.mono g hs)
  | _, _, .dic h hs => .dic (g.fz _ _ _ h) (Dkv.mono g hs)
  | _, _, .ptr (m := m) h => by
    rw [← g.ag m h]
    exact .ptr (Nat.lt_of_lt_of_le h g.le)
  | _, _, .cst => .cst
  | _, _, .ins h hs => .ins (g.fz _ _ _ h) (Dfv.mono g hs)
  | _, _, .fn => .fn
  | _, _, .exc h ht hd hs => .exc (g.fz _ _ _ h) (g.sqT ht) (g.fz _ _ _ hd) (Dfv.mono g hs)
theorem Dts.mono (g : Ge q n H q1 n1 H1) : ∀ {v : List V} {d : List D}, Dts K q n H v d → Dts K q1 n1 H1 v d
  | _, _, .nil => .nil
  | _, _, .cons h hs => .cons (Dt.mono g h) (Dts.mono g hs)
theorem Dkv.mono (g : Ge q n H q1 n1 H1) : ∀ {v : List (Key × V)} {d : List (Key × D)}, Dkv K q n H v d → Dkv K q1 n1 H1 v d
  | _, _, .nil => .nil
  | _, _, .cons h hs => .cons (Dt.mono g h) (Dkv.mono g hs)
theorem Dfv.mono (g : Ge q n H q1 n1 H1) : ∀ {v : List (Str × V)} {d : List (Str × D)}, Dfv K q n H v d → Dfv K q1 n1 H1 v d
  | _, _, .nil => .nil
  | _, _, .cons h hs => .cons (Dt.mono g h) (Dfv.mono g hs)
end
theorem Dts.length : ∀ {vs : List V} {ds : List D}, Dts K q n H vs ds → vs.length = ds.length
  | _, _, .nil => rfl
  | _, _, .cons _ t => by
    have := Dts.length t
    simp [this]
theorem Dts.get : ∀ {vs : List V} {ds : List D} {i : Nat} {d : D}, Dts K q n H vs ds → ds[i]? = some d → ∃ v, vs[i]? = some v ∧ Dt K q n H v d
  | _, _, _, _, .nil, e => by simp at e
  | _, _, 0, _, .cons r _, e => by simp at e; subst e; exact ⟨_, rfl, r⟩
  | _, _, i + 1, d, .cons _ t, e => by
    obtain ⟨v, h1, h2⟩ := Dts.get (i := i) (d := d) t (by simpa using e)
    exact ⟨v, by simpa using h1, h2⟩
theorem Dts.getV : ∀ {vs : List V} {ds : List D} {i : Nat} {v : V}, Dts K q n H vs ds → vs[i]? = some v → ∃ d, ds[i]? = some d ∧ Dt K q n H v d
  | _, _, _, _, .nil, e => by simp at e
  | _, _, 0, _, .cons r _, e => by simp at e; subst e; exact ⟨_, rfl, r⟩
  | _, _, i + 1, v, .cons _ t, e => by
    obtain ⟨d, h1, h2⟩ := Dts.getV (i := i) (v := v) t (by simpa using e)
    exact ⟨d, by simpa using h1, h2⟩
theorem Dts.append : ∀ {vs ws : List V} {ds es : List D}, Dts K q n H vs ds → Dts K q n H ws es → Dts K q n H (vs ++ ws) (ds ++ es)
  | _, _, _, _, .nil, s => s
  | _, _, _, _, .cons r t, s => .cons r (Dts.append t s)
theorem Dts.take : ∀ {vs : List V} {ds : List D} (k : Nat), Dts K q n H vs ds → Dts K q n H (vs.take k) (ds.take k)
  | _, _, 0, _ => by simpa using Dts.nil
  | _, _, _ + 1, .nil => .nil
  | _, _, k + 1, .cons r t => .cons r (Dts.take k t)
theorem Dts.drop : ∀ {vs : List V} {ds : List D} (k : Nat), Dts K q n H vs ds → Dts K q n H (vs.drop k) (ds.drop k)
  | _, _, 0, r => by simpa using r
  | _, _, _ + 1, .nil => .nil
  | _, _, k + 1, .cons _ t => Dts.drop k t
theorem Dts.set : ∀ {vs : List V} {ds : List D} (i : Nat) {v : V} {d : D}, Dts K q n H vs ds → Dt K q n H v d → Dts K q n H (vs.set i v) (ds.set i d)
  | _, _, _, _, _, .nil, _ => .nil
  | _, _, 0, _, _, .cons _ t, r => .cons r t
  | _, _, i + 1, _, _, .cons q t, r => .cons q (Dts.set i t r)
theorem Dts.rep {vs : List V} {ds : List D} (h : Dts K q n H vs ds) : ∀ k : Nat, Dts K q n H (List.replicate k vs).flatten (List.replicate k ds).flatten
  | 0 => .nil
  | k + 1 => by
    rw [List.replicate_succ, List.replicate_succ, List.flatten_cons, List.flatten_cons]
    exact h.append (Dts.rep h k)
end

/-- what stands at a place of the store -/
def MOk (K : Fr) (q : Nat → Addr) (n : Nat) (H : Hp) (a : Addr) : MO → Prop
  | .lst ds => ∃ vs, H a = some (.lst vs) ∧ Dts K q n H vs ds
  | .dic kvs => ∃ kv, H a = some (.dK kv) ∧ Dkv K q n H kv kvs
  | .dead => ∃ o u, H a = some (.frz o u)
  | .ins c fs => ∃ dx fv, H a = some (.ins (He.ga K c) dx fv) ∧ Dfv K q n H fv fs
structure Wd (K : Fr) (q : Nat → Addr) (S : ST) (H : Hp) : Prop where
  inj : ∀ m m', m < S.length → m' < S.length → q m = q m' → m = m'
  ob : ∀ m o, S[m]? = some o → MOk K q S.length H (q m) o
section
variable {K : Fr} {q q1 q2 : Nat → Addr} {n n1 n2 : Nat} {H H1 H2 : Hp} {S : ST}
theorem MOk.some {a : Addr} {o : MO} (h : MOk K q n H a o) : ∃ u, H a = some u := by
  cases o with
  | lst ds => obtain ⟨vs, e, _⟩ := h; exact ⟨_, e⟩
  | dic ds => obtain ⟨vs, e, _⟩ := h; exact ⟨_, e⟩
  | dead => obtain ⟨o, u, e⟩ := h; exact ⟨_, e⟩
  | ins c fs => obtain ⟨dx, fv, e, _⟩ := h; exact ⟨_, e⟩
theorem Wd.ne (w : Wd K q S H) {p : Addr} (hp : H p = none) {m : Nat} (hm : m < S.length) : q m ≠ p := by
  obtain ⟨u, e⟩ := (w.ob m _ (List.getElem?_eq_getElem hm)).some
  intro z
  rw [z, hp] at e
  cases e
theorem MOk.mono {a : Addr} {o : MO} (g : Ge q n H q1 n1 H1) (e : H1 a = H a) (h : MOk K q n H a o) : MOk K q1 n1 H1 a o := by
  cases o with
  | lst ds => obtain ⟨vs, e1, h1⟩ := h; exact ⟨vs, e.trans e1, h1.mono g⟩
  | dic ds => obtain ⟨vs, e1, h1⟩ := h; exact ⟨vs, e.trans e1, h1.mono g⟩
  | dead => obtain ⟨o, u, e1⟩ := h; exact ⟨o, u, e.trans e1⟩
  | ins c fs => obtain ⟨dx, fv, e1, h1⟩ := h; exact ⟨dx, fv, e.trans e1, h1.mono g⟩
/-- a new thing that is never written -/
theorem Gr.new {p : Addr} {o : HO} (hp : H p = none) : Gr q n H q n (upd H p o) :=
  ⟨⟨fun _ _ => rfl, Nat.le_refl _, fun a xs h => by rw [upd_ne (ne_of_none h hp)]; exact h, fun a o u h => by rw [upd_ne (ne_of_none h hp)]; exact h⟩,
    fun a u h _ => by rw [upd_ne (ne_of_none h hp)]; exact h, fun m h h' => absurd h (Nat.not_le_of_lt h'), fun a u h => ⟨u, by rw [upd_ne (ne_of_none h hp)]; exact h⟩⟩
theorem Wd.new {p : Addr} {o : HO} (w : Wd K q S H) (hp : H p = none) : Wd K q S (upd H p o) :=
  ⟨w.inj, fun m u h => (w.ob m u h).mono (Gr.new hp).ge (upd_ne (w.ne hp (List.getElem?_eq_some_iff.mp h).1))⟩
/-- the store's map with one place more -/
def put (q : Nat → Addr) (n : Nat) (p : Addr) : Nat → Addr := fun m => if m = n then p else q m
theorem put_lt {p : Addr} {m : Nat} (h : m < n) : put q n p m = q m := if_neg (Nat.ne_of_lt h)
theorem put_eq {p : Addr} : put q n p n = p := if_pos rfl
/-- what was just made comes into the store -/
theorem Gr.adopt {p : Addr} (g : Gr q n H q1 n1 H1) (hp : H p = none) : Gr q n H (U.put q1 n1 p) (n1 + 1) H1 :=
  ⟨⟨fun m h => (put_lt (Nat.lt_of_lt_of_le h g.ge.le)).trans (g.ge.ag m h), Nat.le_succ_of_le g.ge.le, g.ge.tp, g.ge.fz⟩, g.fr, fun m h h' => by
    by_cases e : m = n1
    · rw [e, put_eq]; exact hp
    · rw [put_lt (by omega)]; exact g.nw m h (by omega), g.tk⟩
theorem Ge.adopt {p : Addr} : Ge q n H (U.put q n p) (n + 1) H := ⟨fun _ h => put_lt h, Nat.le_succ _, fun _ _ h => h, fun _ _ _ h => h⟩
/-- what was just made is written, or shut -/
theorem Gr.over {p : Addr} {o : HO} (g : Gr q n H q1 n1 H1) (hp : H p = none) : Gr q n H q1 n1 (upd H1 p o) :=
  ⟨⟨g.ge.ag, g.ge.le, fun a xs h => by rw [upd_ne (ne_of_none h hp)]; exact g.ge.tp a xs h, fun a x u h => by rw [upd_ne (ne_of_none h hp)]; exact g.ge.fz a x u h⟩,
    fun a u h ho => by rw [upd_ne (ne_of_none h hp)]; exact g.fr a u h ho, g.nw, fun a u h => by
      obtain ⟨u', e⟩ := g.tk a u h
      exact ⟨u', by rw [upd_ne (ne_of_none h hp)]; exact e⟩⟩
theorem Wd.adopt {a : Addr} {u : MO} (w : Wd K q S H) (hn : ∀ m, m < S.length → q m ≠ a) (hu : MOk K (put q S.length a) (S.length + 1) H a u) :
    Wd K (put q S.length a) (S ++ [u]) H := by
  refine ⟨fun m m' h h' e => ?_, fun m x h => ?_⟩
  · simp only [List.length_append, List.length_singleton] at h h'
    by_cases h1 : m = S.length <;> by_cases h2 : m' = S.length
    · rw [h1, h2]
    · subst h1
      rw [put_eq, put_lt (by omega)] at e
      exact absurd e.symm (hn m' (by omega))
    · subst h2
      rw [put_eq, put_lt (by omega)] at e
      exact absurd e (hn m (by omega))
    · rw [put_lt (by omega), put_lt (by omega)] at e
      exact w.inj m m' (by omega) (by omega) e
  · by_cases h1 : m = S.length
    · subst h1
      rw [List.getElem?_append_right (Nat.le_refl _), Nat.sub_self] at h
      cases h
      rw [put_eq, List.length_append, List.length_singleton]
      exact hu
    · have hlt : m < S.length := by
        have := (List.getElem?_eq_some_iff.mp h).1
        simp only [List.length_append, List.length_singleton] at this
        omega
      rw [List.getElem?_append_left hlt] at h
      rw [put_lt hlt, List.length_append, List.length_singleton]
      exact (w.ob m x h).mono .adopt rfl
/-- one place of the store is written -/
theorem Ge.wr {a : Addr} {o u : HO} (ha : H a = some u) (hm : Mut (some u)) : Ge q n H q n (upd H a o) :=
  ⟨fun _ _ => rfl, Nat.le_refl _, fun b xs h => by
    rw [upd_ne]
    · exact h
    · rintro rfl
      rw [ha] at h; cases h; exact hm, fun b x y h => by
    rw [upd_ne]
    · exact h
    · rintro rfl
      rw [ha] at h; cases h; exact hm⟩
theorem Gr.wr {m : Nat} {o u : HO} (hn : m < n) (ha : H (q m) = some u) (hm : Mut (some u)) : Gr q n H q n (upd H (q m) o) :=
  ⟨.wr ha hm, fun a u h ho => by rw [upd_ne (Ne.symm (ho m hn))]; exact h, fun m h h' => absurd h (Nat.not_le_of_lt h'), fun a w h => by
    by_cases e : a = q m
    · exact ⟨o, by rw [e, upd_same]⟩
    · exact ⟨w, by rw [upd_ne e]; exact h⟩⟩
theorem Wd.wr {m : Nat} {o u : HO} {x : MO} (w : Wd K q S H) (hm : m < S.length) (ha : H (q m) = some u) (hu : Mut (some u)) (hx : MOk K q S.length (upd H (q m) o) (q m) x) :
    Wd K q (S.set m x) (upd H (q m) o) := by
  refine ⟨fun i j h h' e => w.inj i j (by simpa using h) (by simpa using h') e, fun i y h => ?_⟩
  rw [List.length_set]
  by_cases hi : i = m
  · subst hi
    rw [List.getElem?_set_self hm] at h
    cases h
    exact hx
  · rw [List.getElem?_set_ne (Ne.symm hi)] at h
    have hlt := (List.getElem?_eq_some_iff.mp h).1
    exact (w.ob i y h).mono (Ge.wr ha hu) (upd_ne fun e => hi (w.inj _ _ hlt hm e))
/-- something beside the store is written -/
theorem Wd.off {a : Addr} {o u : HO} (w : Wd K q S H) (ha : H a = some u) (hu : Mut (some u)) (hn : ∀ m, m < S.length → q m ≠ a) : Wd K q S (upd H a o) :=
  ⟨w.inj, fun m x h => (w.ob m x h).mono (Ge.wr ha hu) (upd_ne (hn m (List.getElem?_eq_some_iff.mp h).1))⟩
end

/-! ### slots, what follows -/
abbrev EV := List (Option D)
def Sl (K : Fr) (q : Nat → Addr) (n : Nat) (H : Hp) (s : L2.St) (g : EV) : Prop :=
  s.length = g.length ∧ ∀ (i : Nat) (d : D), g[i]? = some (some d) → ∃ v, s[i]? = some (some v) ∧ Dt K q n H v d
theorem Sl.mono {K : Fr} {q q1 : Nat → Addr} {n n1 : Nat} {H H1 : Hp} {s : L2.St} {g : EV} (r : Gr q n H q1 n1 H1) (h : Sl K q n H s g) : Sl K q1 n1 H1 s g :=
  ⟨h.1, fun i d e => let ⟨v, h1, h2⟩ := h.2 i d e; ⟨v, h1, h2.mono r.ge⟩⟩
theorem Sl.set {K : Fr} {q : Nat → Addr} {n : Nat} {H : Hp} {s : L2.St} {g : EV} {v : V} {d : D} (i : Nat) (h : Sl K q n H s g) (hd : Dt K q n H v d) : Sl K q n H (s.set i (some v)) (g.set i (some d)) := by
  refine ⟨by simp [h.1], fun j e hj => ?_⟩
  by_cases hi : i = j
  · subst hi
    by_cases hl : i < g.length
    · rw [List.getElem?_set_self hl] at hj
      cases hj
      exact ⟨v, List.getElem?_set_self (by rw [h.1]; exact hl), hd⟩
    · rw [List.getElem?_eq_none (by simpa using hl)] at hj
      cases hj
  · rw [List.getElem?_set_ne hi] at hj ⊢
    exact h.2 j e hj
abbrev Cl := Str → Addr
/-- what the answer of a mirror promises of the machine -/
def Post (K : Fr) (cl : Cl) (q : Nat → Addr) (n : Nat) (H : Hp) (E : XK) (Q : VK) (r : Rs D) (S' : ST) : Prop :=
  match r with
  | .ok d => ∀ q' H' v, Gr q n H q' S'.length H' → Wd K q' S' H' → Dt K q' S'.length H' v d → Q v H'
  | .ex c fs => ∀ q' H' dx fv, Gr q n H q' S'.length H' → Wd K q' S' H' → H' dx = some (.xd fv) → fv.map (·.1) = fs.map (·.1) → Dts K q' S'.length H' (fv.map (·.2)) (fs.map (·.2)) → E (.ref (cl c)) (some dx) H'
def PostA (K : Fr) (cl : Cl) (q : Nat → Addr) (n : Nat) (H : Hp) (E : XK) (Q : List V → Hp → Prop) (r : Rs (List D)) (S' : ST) : Prop :=
  match r with
  | .ok d => ∀ q' H' v, Gr q n H q' S'.length H' → Wd K q' S' H' → Dts K q' S'.length H' v d → Q v H'
  | .ex c fs => Post K cl q n H E (fun _ _ => False) (.ex c fs) S'
def PostB (K : Fr) (cl : Cl) (q : Nat → Addr) (n : Nat) (H : Hp) (E : XK) (Q : Bool → Hp → Prop) (r : Rs Bool) (S' : ST) : Prop :=
  match r with
  | .ok b => ∀ q' H', Gr q n H q' S'.length H' → Wd K q' S' H' → Q b H'
  | .ex c fs => Post K cl q n H E (fun _ _ => False) (.ex c fs) S'
section
variable {K : Fr} {cl : Cl} {q q1 : Nat → Addr} {n n1 : Nat} {H H1 : Hp} {E : XK} {S' : ST}
theorem Post.ex {Q Q' : VK} {c : Str} {fs : List (Str × D)} (h : Post K cl q n H E Q (.ex c fs) S') : Post K cl q n H E Q' (.ex c fs) S' := h
theorem Post.to {Q : VK} {r : Rs D} (g : Gr q n H q1 n1 H1) (h : Post K cl q n H E Q r S') : Post K cl q1 n1 H1 E Q r S' := by
  cases r with
  | ok d => exact fun q' H' v g' w hd => h q' H' v (g.trans g') w hd
  | ex c fs => exact fun q' H' dx fv g' w hd he hv => h q' H' dx fv (g.trans g') w hd he hv
theorem PostA.to {Q : List V → Hp → Prop} {r : Rs (List D)} (g : Gr q n H q1 n1 H1) (h : PostA K cl q n H E Q r S') : PostA K cl q1 n1 H1 E Q r S' := by
  cases r with
  | ok d => exact fun q' H' v g' w hd => h q' H' v (g.trans g') w hd
  | ex c fs => exact Post.to (Q := fun _ _ => False) (r := .ex c fs) g h
theorem PostB.to {Q : Bool → Hp → Prop} {r : Rs Bool} (g : Gr q n H q1 n1 H1) (h : PostB K cl q n H E Q r S') : PostB K cl q1 n1 H1 E Q r S' := by
  cases r with
  | ok d => exact fun q' H' g' w => h q' H' (g.trans g') w
  | ex c fs => exact Post.to (Q := fun _ _ => False) (r := .ex c fs) g h
end
end U

set_option Elab.async false
set_option linter.all false
set_option maxRecDepth 100000
set_option maxHeartbeats 1000000
namespace U
open PySem L2
/-! ### one answer behind another -/
def bd {α β : Type} (x : Option (Rs α × ST)) (f : α → ST → Option (Rs β × ST)) : Option (Rs β × ST) :=
  match x with
  | some (.ok a, S) => f a S
  | some (.ex c fs, S) => some (.ex c fs, S)
  | none => none
@[simp] theorem bd_ok {α β : Type} {a : α} {S : ST} {f : α → ST → Option (Rs β × ST)} : bd (some (.ok a, S)) f = f a S := rfl
@[simp] theorem bd_ex {α β : Type} {c : Str} {fs : List (Str × D)} {S : ST} {f : α → ST → Option (Rs β × ST)} : bd (some (.ex c fs, S)) f = some (.ex c fs, S) := rfl
@[simp] theorem bd_none {α β : Type} {f : α → ST → Option (Rs β × ST)} : bd none f = none := rfl
theorem bd_inv {α β : Type} {x : Option (Rs α × ST)} {f : α → ST → Option (Rs β × ST)} {r : Rs β} {S' : ST} (h : bd x f = some (r, S')) :
    (∃ a S1, x = some (.ok a, S1) ∧ f a S1 = some (r, S')) ∨ ∃ c fs, x = some (.ex c fs, S') ∧ r = .ex c fs := by
  cases x with
  | none => cases h
  | some p =>
    obtain ⟨z, S1⟩ := p
    cases z with
    | ok a => exact .inl ⟨a, S1, rfl, h⟩
    | ex c fs => cases h; exact .inr ⟨c, fs, rfl, rfl⟩
abbrev EM := EV → ST → Option (Rs D × ST)
abbrev AM := EV → ST → Option (Rs (List D) × ST)
abbrev BM := EV → ST → Option (Rs Bool × ST)
/-! ### judgements -/
structure EE (X : Cx) (cl : Cl) (E : XK) (e : Expr) (m : EM) : Prop where
  ex : ∃ te, PE X e te ∧ ∀ g S r S', m g S = some (r, S') → ∀ q s H Q, Wd X.K q S H → Sl X.K q S.length H s g → Post X.K cl q S.length H E Q r S' → te s H Q
structure EA (X : Cx) (cl : Cl) (E : XK) (es : List Expr) (m : AM) : Prop where
  ex : ∃ ta, PA X es ta ∧ ∀ g S r S', m g S = some (r, S') → ∀ q s H Q, Wd X.K q S H → Sl X.K q S.length H s g → PostA X.K cl q S.length H E Q r S' → ta s H Q
structure ET (X : Cx) (cl : Cl) (E : XK) (e : Expr) (m : BM) : Prop where
  ex : ∃ tt, PT X e tt ∧ ∀ g S r S', m g S = some (r, S') → ∀ q s H Q, Wd X.K q S H → Sl X.K q S.length H s g → PostB X.K cl q S.length H E Q r S' → tt s H Q
structure EW (X : Cx) (cl : Cl) (E : XK) (e : Expr) (m : BM) : Prop where
  ex : ∃ tt, PW X e tt ∧ ∀ g S r S', m g S = some (r, S') → ∀ q s H Q, Wd X.K q S H → Sl X.K q S.length H s g → PostB X.K cl q S.length H E Q r S' → tt s H Q
/-- what was just made may be shut: it is never written again -/
def Shut (u : HO) : Prop := (∃ vs, u = .lst vs) ∨ (∃ kv, u = .dK kv) ∨ ∃ C dx fv, u = .ins C dx fv
def Fz (Q : VK) : VK := fun v H => Q v H ∨ ∃ a u, v = .ref a ∧ H a = some u ∧ Shut u ∧ ∀ o, Q v (upd H a (.frz o u))
section
variable {X : Cx} {pins : List (Addr × Obj)} {σ : L2.St} {H : Hp} {s : Shared}
theorem inv_shut {a : Addr} {u : HO} (I : Inv X pins σ H s) (e : H a = some u) (hu : Shut u) : ∃ o, Inv X pins σ (upd H a (.frz o u)) s := by
  have k : ∃ o, s.heap.get? a = some o := by
    have x := I.hok a u e
    rcases hu with ⟨vs, rfl⟩ | ⟨kv, rfl⟩ | ⟨C, dx, fv, rfl⟩
    · obtain ⟨_, its, n, _, z⟩ := x; exact ⟨_, z⟩
    · obtain ⟨_, _, _, _, o, _, _, z, _⟩ := x; exact ⟨o, z⟩
    · obtain ⟨_, _, _, z, _⟩ := x; exact ⟨_, z⟩
  obtain ⟨o, ho⟩ := k
  have nn : ∀ b, H b = none → b ≠ a := fun b z w => by rw [w, e] at z; cases z
  have nt : ∀ b xs, H b = some (.tup xs) → b ≠ a := fun b xs z w => by
    rw [w, e] at z; cases z
    rcases hu with ⟨_, q⟩ | ⟨_, q⟩ | ⟨_, _, _, q⟩ <;> cases q
  have nf : ∀ b x y, H b = some (.frz x y) → b ≠ a := fun b xs y z w => by
    rw [w, e] at z; cases z
    rcases hu with ⟨_, q⟩ | ⟨_, q⟩ | ⟨_, _, _, q⟩ <;> cases q
  have nb : ∀ b xs, H b = some (.tbl xs) → b ≠ a := fun b xs z w => by
    rw [w, e] at z; cases z
    rcases hu with ⟨_, q⟩ | ⟨_, q⟩ | ⟨_, _, _, q⟩ <;> cases q
  have no : ∀ b xs, H b = some (.own xs) → b ≠ a := fun b xs z w => by
    rw [w, e] at z; cases z
    rcases hu with ⟨_, q⟩ | ⟨_, q⟩ | ⟨_, _, _, q⟩ <;> cases q
  refine ⟨o, I.ok, I.os, I.bare, ⟨I.base.keep, I.base.slot, fun b ob h1 h2 h3 => ?_, I.base.there, fun b xs h => ?_, fun b x y h => ?_, fun b ps h => ?_⟩, I.loc, I.cell, ?_, fun x c h => ?_, fun p hp => ?_, fun b w h => ?_, I.len⟩
  · have z := I.base.free b ob h1 h2 h3
    rw [upd_ne (nn b z)]; exact z
  · have z := I.base.tups b xs h
    rw [upd_ne (nt b xs z)]; exact z
  · have z := I.base.frzs b x y h
    rw [upd_ne (nf b x y z)]; exact z
  · obtain ⟨m, z⟩ := I.base.tbls b ps h
    exact ⟨m, by rw [upd_ne (nb b _ z)]; exact z⟩
  · rw [upd_ne (nn _ I.free)]; exact I.free
  · rw [upd_ne (nn _ (I.freeC x c h))]; exact I.freeC x c h
  · obtain ⟨h1, h2, h3⟩ := I.pin p hp
    exact ⟨h1, by rw [upd_ne (nn _ h2)]; exact h2, h3⟩
  · by_cases hb : b = a
    · subst hb
      rw [upd_same] at h
      cases h
      refine ⟨ho, ?_⟩
      exact (I.hok b u e).stay (fun _ _ _ z => z) (fun c z => by rw [upd_ne (no c _ z)]; exact z) fun c xs z => by rw [upd_ne (nt c xs z)]; exact z
    · rw [upd_ne hb] at h
      exact (I.hok b w h).stay (fun _ _ _ z => z) (fun c z => by rw [upd_ne (no c _ z)]; exact z) fun c xs z => by rw [upd_ne (nt c xs z)]; exact z
theorem ep_fz {Q : VK} {u : Value} (h : EP X pins σ (Fz Q) u s) : EP X pins σ Q u s := by
  obtain ⟨v, H', I, r, q⟩ := h
  rcases q with q | ⟨a, w, rfl, e, hu, q⟩
  · exact ⟨v, H', I, r, q⟩
  · obtain ⟨o, I'⟩ := inv_shut I e hu
    exact ⟨_, _, I', r, q o⟩
theorem pe_fz {e : Expr} {te : TE} (h : PE X e te) : PE X e (fun s H Q => te s H (Fz Q)) := ⟨fun pins s σ H Q I w => thn (h.run pins s σ H (Fz Q) I w) fun u s1 z => ep_fz z⟩
end
/-- an operation on values, a call on values -/
def OpE (K : Fr) (cl : Cl) (E : XK) (r : R2) (f : D → D → ST → Option (Rs D × ST)) : Prop :=
  ∀ x y S z S', f x y S = some (z, S') → ∀ q H vx vy Q, Wd K q S H → Dt K q S.length H vx x → Dt K q S.length H vy y → Post K cl q S.length H E Q z S' → r vx vy H (Fz Q)
def CpE (K : Fr) (cl : Cl) (E : XK) (r : R2) (f : D → D → ST → Option (Rs D × ST)) : Prop :=
  ∀ x y S z S', f x y S = some (z, S') → ∀ q H vx vy Q, Wd K q S H → Dt K q S.length H vx x → Dt K q S.length H vy y → Post K cl q S.length H E Q z S' → r vx vy H Q
def UnE (K : Fr) (cl : Cl) (E : XK) (r : V → Hp → VK → Prop) (f : D → ST → Option (Rs D × ST)) : Prop :=
  ∀ x S z S', f x S = some (z, S') → ∀ q H vx Q, Wd K q S H → Dt K q S.length H vx x → Post K cl q S.length H E Q z S' → r vx H (Fz Q)
def CaE (K : Fr) (cl : Cl) (E : XK) (r : List V → Hp → VK → Prop) (f : List D → ST → Option (Rs D × ST)) : Prop :=
  ∀ xs S z S', f xs S = some (z, S') → ∀ q H vs Q, Wd K q S H → Dts K q S.length H vs xs → Post K cl q S.length H E Q z S' → r vs H (Fz Q)
/-! ### the forms of mirrors -/
def eVar (i : Nat) : EM := fun g S => match g[i]? with
  | some (some d) => some (.ok d, S)
  | _ => none
def eC (d : D) : EM := fun _ S => some (.ok d, S)
def eOp (f : D → D → ST → Option (Rs D × ST)) (a b : EM) : EM := fun g S => bd (a g S) fun x S1 => bd (b g S1) fun y S2 => f x y S2
def eUn (f : D → ST → Option (Rs D × ST)) (a : EM) : EM := fun g S => bd (a g S) fun x S1 => f x S1
def aNil : AM := fun _ S => some (.ok [], S)
def aCons (a : EM) (r : AM) : AM := fun g S => bd (a g S) fun x S1 => bd (r g S1) fun xs S2 => some (.ok (x :: xs), S2)
def eCall (f : List D → ST → Option (Rs D × ST)) (a : AM) : EM := fun g S => bd (a g S) f
def toB (x : D) (S : ST) : Option (Rs Bool × ST) := match x with
  | .bl b => some (.ok b, S)
  | _ => none
def bVal (a : EM) : BM := fun g S => bd (a g S) toB
def bAnd (a b : BM) : BM := fun g S => bd (a g S) fun c S1 => if c = true then b g S1 else some (.ok false, S1)
def bOr (a b : BM) : BM := fun g S => bd (a g S) fun c S1 => if c = true then some (.ok true, S1) else b g S1
def bNot (a : BM) : BM := fun g S => bd (a g S) fun c S1 => some (.ok (!c), S1)
def eAnd (a b : EM) : EM := fun g S => bd (a g S) fun x S1 => bd (toB x S1) fun c S2 => if c = true then b g S2 else some (.ok (.bl false), S2)
def eOr (a b : EM) : EM := fun g S => bd (a g S) fun x S1 => bd (toB x S1) fun c S2 => if c = true then some (.ok (.bl true), S2) else b g S2
def eNot (a : EM) : EM := fun g S => bd (a g S) fun x S1 => bd (toB x S1) fun c S2 => some (.ok (.bl (!c)), S2)
def eIf (t : BM) (a b : EM) : EM := fun g S => bd (t g S) fun c S1 => if c = true then a g S1 else b g S1
def eChain (f f' : D → D → ST → Option (Rs D × ST)) (a b c : EM) : EM := fun g S => bd (a g S) fun x S1 => bd (b g S1) fun y S2 => bd (f x y S2) fun z S3 => bd (toB z S3) fun k S4 =>
  if k = true then bd (c g S4) fun w S5 => f' y w S5 else some (.ok (.bl false), S4)

section
variable {X : Cx} {cl : Cl} {E : XK} {e a b c : Expr} {es : List Expr} {pos : Pos} {m ma mb mc : EM} {mr : AM} {t u : BM}
theorem toB_inv {x : D} {S S' : ST} {r : Rs Bool} (h : toB x S = some (r, S')) : ∃ b, x = .bl b ∧ r = .ok b ∧ S = S' := by
  cases x <;> cases h
  exact ⟨_, rfl, rfl, rfl⟩
theorem Dt.bl_inv {K : Fr} {q : Nat → Addr} {n : Nat} {H : Hp} {v : V} {b : Bool} (h : Dt K q n H v (.bl b)) : v = .bl b := by cases h; rfl
theorem Dt.int_inv {K : Fr} {q : Nat → Addr} {n : Nat} {H : Hp} {v : V} {b : Int} (h : Dt K q n H v (.int b)) : v = .int b := by cases h; rfl
theorem Dt.str_inv {K : Fr} {q : Nat → Addr} {n : Nat} {H : Hp} {v : V} {b : Str} (h : Dt K q n H v (.str b)) : v = .str b := by cases h; rfl
theorem Dt.non_inv {K : Fr} {q : Nat → Addr} {n : Nat} {H : Hp} {v : V} (h : Dt K q n H v .non) : v = .non := by cases h; rfl

theorem ee_var (i : Nat) {x : Str} (hN : X.N[i]? = some x := by rfl) (hv : Vis X.env.scope x := by first | exact Or.inl rfl | exact Or.inr (Or.inl rfl) | exact Or.inr (Or.inr rfl)) (hd : (x == ("__debug__" : Str)) = false := by decide)
    (hcd : (x == ("__classdict__" : Str)) = false := by decide) : EE X cl E (.Name x pos) (eVar i) := by
  refine ⟨tVar i, pv i hN hv hd hcd, fun g S r S' h q s H Q w sl po => ?_⟩
  unfold eVar at h
  split at h
  · rename_i d hd
    cases h
    obtain ⟨v, e1, e2⟩ := sl.2 i d hd
    exact ⟨v, e1, po q H v Gr.refl w e2⟩
  · cases h
theorem ee_of {te : TE} {d : D} {v : V} (h : PE X e (tC v)) (hd : ∀ q n H, Dt X.K q n H v d) : EE X cl E e (eC d) := by
  refine ⟨_, h, fun g S r S' h q s H Q w sl po => ?_⟩
  cases h
  exact po q H v Gr.refl w (hd _ _ _)
theorem ee_int {i : Int} {j} : EE X cl E (.Constant (.int i) j pos) (eC (.int i)) := ee_of (te := tC .non) pe_int fun _ _ _ => .int i
theorem ee_bl {i : Bool} {j} : EE X cl E (.Constant (.bool i) j pos) (eC (.bl i)) := ee_of (te := tC .non) pe_bl fun _ _ _ => .bl i
theorem ee_str {i : Str} {j} : EE X cl E (.Constant (.str i) j pos) (eC (.str i)) := ee_of (te := tC .non) pe_str fun _ _ _ => .str i
theorem ee_non {j} : EE X cl E (.Constant .none j pos) (eC .non) := ee_of (te := tC .non) pe_non fun _ _ _ => .non
theorem ee_glob {x : Str} {u : Value} {v : V} {d : D} (hg : Gl X x) (hm : X.mg x = some u) (r : RelV v u) (hd : ∀ q n H, Dt X.K q n H v d) (hdb : (x == ("__debug__" : Str)) = false := by decide) : EE X cl E (.Name x pos) (eC d) := ee_of (te := tC .non) (pe_glob hg hm r hdb) hd

theorem ee_op {op : Operator} {r : R2} {f : D → D → ST → Option (Rs D × ST)} (ho : OpR X (binaryOp op) r) (hf : OpE X.K cl E r f) (ha : EE X cl E a ma) (hb : EE X cl E b mb) : EE X cl E (.BinOp a op b pos) (eOp f ma mb) := by
  obtain ⟨ta, pa, ea⟩ := ha
  obtain ⟨tb, pb, eb⟩ := hb
  refine ⟨_, pe_fz (pe_op ho pa pb), fun g S z S' h q s H Q w sl po => ?_⟩
  rcases bd_inv h with ⟨x, S1, h1, h⟩ | ⟨c, fs, h1, rfl⟩
  · refine ea g S _ S1 h1 q s H _ w sl fun q1 H1 vx g1 w1 d1 => ?_
    rcases bd_inv h with ⟨y, S2, h2, h⟩ | ⟨c, fs, h2, rfl⟩
    · refine eb g S1 _ S2 h2 q1 s H1 _ w1 (sl.mono g1) fun q2 H2 vy g2 w2 d2 => ?_
      exact hf x y S2 z S' h q2 H2 vx vy Q w2 (d1.mono g2.ge) d2 (po.to (g1.trans g2))
    · exact eb g S1 _ S' h2 q1 s H1 _ w1 (sl.mono g1) (Post.ex (Q := Q) (po.to g1))
  · exact ea g S _ S' h1 q s H _ w sl (Post.ex (Q := Q) po)
theorem ee_un {op : UnaryOp} {r : V → Hp → VK → Prop} {f : D → ST → Option (Rs D × ST)} (ho : UnR X (unaryOp op) r) (hf : UnE X.K cl E r f) (ha : EE X cl E a ma) : EE X cl E (.UnaryOp op a pos) (eUn f ma) := by
  obtain ⟨ta, pa, ea⟩ := ha
  refine ⟨_, pe_fz (pe_un ho pa), fun g S z S' h q s H Q w sl po => ?_⟩
  rcases bd_inv h with ⟨x, S1, h1, h⟩ | ⟨c, fs, h1, rfl⟩
  · exact ea g S _ S1 h1 q s H _ w sl fun q1 H1 vx g1 w1 d1 => hf x S1 z S' h q1 H1 vx Q w1 d1 (po.to g1)
  · exact ea g S _ S' h1 q s H _ w sl (Post.ex (Q := Q) po)
theorem ee_cmp {op : CmpOp} {r : R2} {f : D → D → ST → Option (Rs D × ST)} (ho : OpR X (compareOp op) r) (hm : behindInMarks op b = false) (hf : CpE X.K cl E r f) (ha : EE X cl E a ma) (hb : EE X cl E b mb) : EE X cl E (.Compare a [op] [b] pos) (eOp f ma mb) := by
  obtain ⟨ta, pa, ea⟩ := ha
  obtain ⟨tb, pb, eb⟩ := hb
  refine ⟨_, pe_cmpR ho pa pb hm, fun g S z S' h q s H Q w sl po => ?_⟩
  rcases bd_inv h with ⟨x, S1, h1, h⟩ | ⟨c, fs, h1, rfl⟩
  · refine ea g S _ S1 h1 q s H _ w sl fun q1 H1 vx g1 w1 d1 => ?_
    rcases bd_inv h with ⟨y, S2, h2, h⟩ | ⟨c, fs, h2, rfl⟩
    · refine eb g S1 _ S2 h2 q1 s H1 _ w1 (sl.mono g1) fun q2 H2 vy g2 w2 d2 => ?_
      exact hf x y S2 z S' h q2 H2 vx vy Q w2 (d1.mono g2.ge) d2 (po.to (g1.trans g2))
    · exact eb g S1 _ S' h2 q1 s H1 _ w1 (sl.mono g1) (Post.ex (Q := Q) (po.to g1))
  · exact ea g S _ S' h1 q s H _ w sl (Post.ex (Q := Q) po)
theorem ee_chain {op op' : CmpOp} {r r' : R2} {f f' : D → D → ST → Option (Rs D × ST)} (ho : OpR X (compareOp op) r) (ho' : OpR X (compareOp op') r') (hf : CpE X.K cl E r f) (hf' : CpE X.K cl E r' f')
    (ha : EE X cl E a ma) (hb : EE X cl E b mb) (hc : EE X cl E c mc) (hm : lastMarks [op, op'] [b, c] = false := by rfl) : EE X cl E (.Compare a [op, op'] [b, c] pos) (eChain f f' ma mb mc) := by
  obtain ⟨ta, pa, ea⟩ := ha
  obtain ⟨tb, pb, eb⟩ := hb
  obtain ⟨tc, pc, ec⟩ := hc
  refine ⟨_, pe_chain ho ho' pa pb pc hm, fun g S z S' h q s H Q w sl po => ?_⟩
  rcases bd_inv h with ⟨x, S1, h1, h⟩ | ⟨c, fs, h1, rfl⟩
  · refine ea g S _ S1 h1 q s H _ w sl fun q1 H1 vx g1 w1 d1 => ?_
    rcases bd_inv h with ⟨y, S2, h2, h⟩ | ⟨c, fs, h2, rfl⟩
    · refine eb g S1 _ S2 h2 q1 s H1 _ w1 (sl.mono g1) fun q2 H2 vy g2 w2 d2 => ?_
      rcases bd_inv h with ⟨k, S3, h3, h⟩ | ⟨c, fs, h3, rfl⟩
      · refine hf x y S2 _ S3 h3 q2 H2 vx vy _ w2 (d1.mono g2.ge) d2 fun q3 H3 vz g3 w3 d3 => ?_
        rcases bd_inv h with ⟨k', S4, h4, h⟩ | ⟨c, fs, h4, rfl⟩
        · obtain ⟨kb, rfl, e4, rfl⟩ := toB_inv h4
          cases e4
          obtain rfl := d3.bl_inv
          refine ⟨k', rfl, ?_⟩
          cases k' with
          | true =>
            show tc s H3 fun w' H4 => r' vy w' H4 Q
            rcases bd_inv (x := mc g S3) h with ⟨v, S5, h5, h⟩ | ⟨c, fs, h5, rfl⟩
            · refine ec g S3 _ S5 h5 q3 s H3 _ w3 (sl.mono ((g1.trans g2).trans g3)) fun q4 H4 vw g4 w4 d4 => ?_
              exact hf' y v S5 z S' h q4 H4 vy vw Q w4 (d2.mono (g3.trans g4).ge) d4 (po.to (((g1.trans g2).trans g3).trans g4))
            · exact ec g S3 _ S' h5 q3 s H3 _ w3 (sl.mono ((g1.trans g2).trans g3)) (Post.ex (Q := Q) (po.to ((g1.trans g2).trans g3)))
          | false =>
            cases h
            exact po q3 H3 (.bl false) ((g1.trans g2).trans g3) w3 (.bl false)
        · obtain ⟨_, _, e4, _⟩ := toB_inv h4
          cases e4
      · exact hf x y S2 _ S' h3 q2 H2 vx vy _ w2 (d1.mono g2.ge) d2 (Post.ex (Q := Q) (po.to (g1.trans g2)))
    · exact eb g S1 _ S' h2 q1 s H1 _ w1 (sl.mono g1) (Post.ex (Q := Q) (po.to g1))
  · exact ea g S _ S' h1 q s H _ w sl (Post.ex (Q := Q) po)
/-! arguments -/
theorem ea_nil : EA X cl E [] aNil := by
  refine ⟨tNil, pa_nil, fun g S z S' h q s H Q w sl po => ?_⟩
  cases h
  exact po q H [] Gr.refl w .nil
theorem ea_cons (ha : EE X cl E e ma) (hr : EA X cl E es mr) (hs : starEach (e :: es) X.env = (false, eval e X.env) :: starEach es X.env := by rfl) : EA X cl E (e :: es) (aCons ma mr) := by
  obtain ⟨ta, pa, ea⟩ := ha
  obtain ⟨tr, pr, er⟩ := hr
  refine ⟨tCons ta tr, pa_cons pa pr hs, fun g S z S' h q s H Q w sl po => ?_⟩
  rcases bd_inv h with ⟨x, S1, h1, h⟩ | ⟨c, fs, h1, rfl⟩
  · refine ea g S _ S1 h1 q s H _ w sl fun q1 H1 vx g1 w1 d1 => ?_
    rcases bd_inv h with ⟨y, S2, h2, h⟩ | ⟨c, fs, h2, rfl⟩
    · cases h
      refine er g S1 _ _ h2 q1 s H1 _ w1 (sl.mono g1) fun q2 H2 vy g2 w2 d2 => ?_
      exact po q2 H2 (vx :: vy) (g1.trans g2) w2 (.cons (d1.mono g2.ge) d2)
    · exact er g S1 _ S' h2 q1 s H1 _ w1 (sl.mono g1) (Post.to (Q := fun _ _ => False) (r := .ex c fs) g1 po)
  · exact ea g S _ S' h1 q s H _ w sl (Post.ex (Q := fun _ _ => False) po)
/-! truths as values -/
theorem ee_one {op} (h : EE X cl E a ma) : EE X cl E (.BoolOp op [a] pos) ma := by
  obtain ⟨ta, pa, ea⟩ := h
  exact ⟨ta, pe_one pa, ea⟩
theorem ee_and {rest : List Expr} (ha : EE X cl E a ma) (hb : EE X cl E (.BoolOp .And (b :: rest) pos) mb) : EE X cl E (.BoolOp .And (a :: b :: rest) pos) (eAnd ma mb) := by
  obtain ⟨ta, pa, ea⟩ := ha
  obtain ⟨tb, pb, eb⟩ := hb
  refine ⟨_, pe_and pa pb, fun g S z S' h q s H Q w sl po => ?_⟩
  rcases bd_inv h with ⟨x, S1, h1, h⟩ | ⟨c, fs, h1, rfl⟩
  · refine ea g S _ S1 h1 q s H _ w sl fun q1 H1 vx g1 w1 d1 => ?_
    rcases bd_inv h with ⟨k, S2, h2, h⟩ | ⟨c, fs, h2, rfl⟩
    · obtain ⟨kb, rfl, e4, rfl⟩ := toB_inv h2
      cases e4
      obtain rfl := d1.bl_inv
      refine ⟨k, rfl, ?_⟩
      cases k with
      | true => exact eb g S1 z S' h q1 s H1 Q w1 (sl.mono g1) (po.to g1)
      | false =>
        cases h
        exact po q1 H1 (.bl false) g1 w1 (.bl false)
    · obtain ⟨_, _, e4, _⟩ := toB_inv h2
      cases e4
  · exact ea g S _ S' h1 q s H _ w sl (Post.ex (Q := Q) po)
theorem ee_or {rest : List Expr} (ha : EE X cl E a ma) (hb : EE X cl E (.BoolOp .Or (b :: rest) pos) mb) : EE X cl E (.BoolOp .Or (a :: b :: rest) pos) (eOr ma mb) := by
  obtain ⟨ta, pa, ea⟩ := ha
  obtain ⟨tb, pb, eb⟩ := hb
  refine ⟨_, pe_or pa pb, fun g S z S' h q s H Q w sl po => ?_⟩
  rcases bd_inv h with ⟨x, S1, h1, h⟩ | ⟨c, fs, h1, rfl⟩
  · refine ea g S _ S1 h1 q s H _ w sl fun q1 H1 vx g1 w1 d1 => ?_
    rcases bd_inv h with ⟨k, S2, h2, h⟩ | ⟨c, fs, h2, rfl⟩
    · obtain ⟨kb, rfl, e4, rfl⟩ := toB_inv h2
      cases e4
      obtain rfl := d1.bl_inv
      refine ⟨k, rfl, ?_⟩
      cases k with
      | false => exact eb g S1 z S' h q1 s H1 Q w1 (sl.mono g1) (po.to g1)
      | true =>
        cases h
        exact po q1 H1 (.bl true) g1 w1 (.bl true)
    · obtain ⟨_, _, e4, _⟩ := toB_inv h2
      cases e4
  · exact ea g S _ S' h1 q s H _ w sl (Post.ex (Q := Q) po)
theorem ee_not (ha : EE X cl E a ma) : EE X cl E (.UnaryOp .Not a pos) (eNot ma) := by
  obtain ⟨ta, pa, ea⟩ := ha
  refine ⟨_, pe_not pa, fun g S z S' h q s H Q w sl po => ?_⟩
  rcases bd_inv h with ⟨x, S1, h1, h⟩ | ⟨c, fs, h1, rfl⟩
  · refine ea g S _ S1 h1 q s H _ w sl fun q1 H1 vx g1 w1 d1 => ?_
    rcases bd_inv h with ⟨k, S2, h2, h⟩ | ⟨c, fs, h2, rfl⟩
    · obtain ⟨kb, rfl, e4, rfl⟩ := toB_inv h2
      cases e4
      cases h
      obtain rfl := d1.bl_inv
      exact ⟨k, rfl, po q1 H1 _ g1 w1 (.bl _)⟩
    · obtain ⟨_, _, e4, _⟩ := toB_inv h2
      cases e4
  · exact ea g S _ S' h1 q s H _ w sl (Post.ex (Q := Q) po)
/-! tests -/
theorem et_of {te : TT} (h : EE X cl E e m) (hp : ∀ te, PE X e te → PT X e (tB te)) : ET X cl E e (bVal m) := by
  obtain ⟨ta, pa, ea⟩ := h
  refine ⟨_, hp ta pa, fun g S z S' h q s H Q w sl po => ?_⟩
  rcases bd_inv h with ⟨x, S1, h1, h⟩ | ⟨c, fs, h1, rfl⟩
  · refine ea g S _ S1 h1 q s H _ w sl fun q1 H1 vx g1 w1 d1 => ?_
    obtain ⟨kb, rfl, e4, rfl⟩ := toB_inv h
    subst e4
    obtain rfl := d1.bl_inv
    exact ⟨kb, rfl, po q1 H1 g1 w1⟩
  · exact ea g S _ S' h1 q s H _ w sl (Post.ex (Q := fun _ _ => False) po)
theorem et_val (h : EE X cl E e m) (he : ∀ whole, isTrue e X.env whole = (do let v ← whole; standAt e.pos; holding [v] (truthy v)) := by intro _; rfl) : ET X cl E e (bVal m) := et_of (te := tYes) h fun te p => pt_val p he
theorem et_w (h : EW X cl E e t) : ET X cl E e t := by
  obtain ⟨ta, pa, ea⟩ := h
  exact ⟨ta, pa.pt, ea⟩
theorem ew_and1 (h : ET X cl E a t) : EW X cl E (.BoolOp .And [a] pos) t := by
  obtain ⟨ta, pa, ea⟩ := h
  exact ⟨ta, pw_and1 pa, ea⟩
theorem ew_or1 (h : ET X cl E a t) : EW X cl E (.BoolOp .Or [a] pos) t := by
  obtain ⟨ta, pa, ea⟩ := h
  exact ⟨ta, pw_or1 pa, ea⟩
theorem ew_and {rest : List Expr} (ha : ET X cl E a t) (hb : EW X cl E (.BoolOp .And (b :: rest) pos) u) : EW X cl E (.BoolOp .And (a :: b :: rest) pos) (bAnd t u) := by
  obtain ⟨ta, pa, ea⟩ := ha
  obtain ⟨tb, pb, eb⟩ := hb
  refine ⟨_, pw_and pa pb, fun g S z S' h q s H Q w sl po => ?_⟩
  rcases bd_inv h with ⟨k, S1, h1, h⟩ | ⟨c, fs, h1, rfl⟩
  · refine ea g S _ S1 h1 q s H _ w sl fun q1 H1 g1 w1 => ?_
    cases k with
    | true => exact eb g S1 z S' h q1 s H1 Q w1 (sl.mono g1) (po.to g1)
    | false => cases h; exact po q1 H1 g1 w1
  · exact ea g S _ S' h1 q s H _ w sl po
theorem ew_or {rest : List Expr} (ha : ET X cl E a t) (hb : EW X cl E (.BoolOp .Or (b :: rest) pos) u) : EW X cl E (.BoolOp .Or (a :: b :: rest) pos) (bOr t u) := by
  obtain ⟨ta, pa, ea⟩ := ha
  obtain ⟨tb, pb, eb⟩ := hb
  refine ⟨_, pw_or pa pb, fun g S z S' h q s H Q w sl po => ?_⟩
  rcases bd_inv h with ⟨k, S1, h1, h⟩ | ⟨c, fs, h1, rfl⟩
  · refine ea g S _ S1 h1 q s H _ w sl fun q1 H1 g1 w1 => ?_
    cases k with
    | false => exact eb g S1 z S' h q1 s H1 Q w1 (sl.mono g1) (po.to g1)
    | true => cases h; exact po q1 H1 g1 w1
  · exact ea g S _ S' h1 q s H _ w sl po
theorem et_not (ha : ET X cl E a t) : ET X cl E (.UnaryOp .Not a pos) (bNot t) := by
  obtain ⟨ta, pa, ea⟩ := ha
  refine ⟨_, pt_not pa, fun g S z S' h q s H Q w sl po => ?_⟩
  rcases bd_inv h with ⟨k, S1, h1, h⟩ | ⟨c, fs, h1, rfl⟩
  · cases h
    exact ea g S _ _ h1 q s H _ w sl fun q1 H1 g1 w1 => po q1 H1 g1 w1
  · exact ea g S _ S' h1 q s H _ w sl po
theorem et_cmp {op : CmpOp} {r : R2} {f : D → D → ST → Option (Rs D × ST)} (ho : OpR X (compareOp op) r) (hm : behindInMarks op b = false) (hf : CpE X.K cl E r f) (ha : EE X cl E a ma) (hb : EE X cl E b mb) : ET X cl E (.Compare a [op] [b] pos) (bVal (eOp f ma mb)) := by
  obtain ⟨ta, pa, ea⟩ := ha
  obtain ⟨tb, pb, eb⟩ := hb
  refine ⟨_, pt_cmpR ho pa pb hm, fun g S z S' h q s H Q w sl po => ?_⟩
  rcases bd_inv h with ⟨x, S1, h1, h⟩ | ⟨c, fs, h1, rfl⟩
  · obtain ⟨kb, rfl, e4, rfl⟩ := toB_inv h
    subst e4
    rcases bd_inv h1 with ⟨x, S1, h1, h⟩ | ⟨c, fs, h1, e⟩
    · refine ea g S _ S1 h1 q s H _ w sl fun q1 H1 vx g1 w1 d1 => ?_
      rcases bd_inv h with ⟨y, S2, h2, h⟩ | ⟨c, fs, h2, e⟩
      · refine eb g S1 _ S2 h2 q1 s H1 _ w1 (sl.mono g1) fun q2 H2 vy g2 w2 d2 => ?_
        refine hf x y S2 _ _ h q2 H2 vx vy _ w2 (d1.mono g2.ge) d2 fun q3 H3 v g3 w3 d3 => ?_
        obtain rfl := d3.bl_inv
        exact ⟨kb, rfl, po q3 H3 ((g1.trans g2).trans g3) w3⟩
      · cases e
    · cases e
  · rcases bd_inv h1 with ⟨x, S1, h1, h⟩ | ⟨c, fs, h1, e⟩
    · refine ea g S _ S1 h1 q s H _ w sl fun q1 H1 vx g1 w1 d1 => ?_
      rcases bd_inv h with ⟨y, S2, h2, h⟩ | ⟨c, fs, h2, e⟩
      · refine eb g S1 _ S2 h2 q1 s H1 _ w1 (sl.mono g1) fun q2 H2 vy g2 w2 d2 => ?_
        exact hf x y S2 _ _ h q2 H2 vx vy _ w2 (d1.mono g2.ge) d2 (Post.to (Q := fun _ _ => False) (r := .ex _ _) (g1.trans g2) po)
      · cases e
        exact eb g S1 _ _ h2 q1 s H1 _ w1 (sl.mono g1) (Post.to (Q := fun _ _ => False) (r := .ex _ _) g1 po)
    · cases e
      exact ea g S _ _ h1 q s H _ w sl po
theorem ee_if (ht : ET X cl E c t) (ha : EE X cl E a ma) (hb : EE X cl E b mb) : EE X cl E (.IfExp c a b pos) (eIf t ma mb) := by
  obtain ⟨tt, pt, et⟩ := ht
  obtain ⟨ta, pa, ea⟩ := ha
  obtain ⟨tb, pb, eb⟩ := hb
  refine ⟨_, pe_ifExp pt pa pb, fun g S z S' h q s H Q w sl po => ?_⟩
  rcases bd_inv h with ⟨k, S1, h1, h⟩ | ⟨c, fs, h1, rfl⟩
  · refine et g S _ S1 h1 q s H _ w sl fun q1 H1 g1 w1 => ?_
    cases k with
    | true => exact ea g S1 z S' h q1 s H1 Q w1 (sl.mono g1) (po.to g1)
    | false => exact eb g S1 z S' h q1 s H1 Q w1 (sl.mono g1) (po.to g1)
  · exact et g S _ S' h1 q s H _ w sl (Post.ex (Q' := fun _ _ => False) po)
/-! calls -/
theorem ee_callB {id : String} {x : Str} {p : Pos} {v : Value} {r : List V → Hp → VK → Prop} {f : List D → ST → Option (Rs D × ST)} (hc : CallR X (.builtin id) r) (hf : CaE X.K cl E r f) (hg : Gl X x) (hm : X.mg x = none) (hv : bootBuiltins x = some (.builtin id))
    (ha : EA X cl E (e :: es) mr) (hp : ∀ ta, PA X (e :: es) ta → PE X (.Call (.Name x p) (e :: es) [] pos) (tCB r ta)) : EE X cl E (.Call (.Name x p) (e :: es) [] pos) (eCall f mr) := by
  obtain ⟨ta, pa, ea⟩ := ha
  refine ⟨_, pe_fz (hp ta pa), fun g S z S' h q s H Q w sl po => ?_⟩
  rcases bd_inv h with ⟨xs, S1, h1, h⟩ | ⟨c, fs, h1, rfl⟩
  · exact ea g S _ S1 h1 q s H _ w sl fun q1 H1 vs g1 w1 d1 => hf xs S1 z S' h q1 H1 vs Q w1 d1 (po.to g1)
  · exact ea g S _ S' h1 q s H _ w sl (Post.ex (Q' := fun _ _ => False) po)
theorem ee_callP {x : Str} {p : Pos} {r : List V → Hp → VK → Prop} {f : List D → ST → Option (Rs D × ST)} (hf : CaE X.K cl E r f)
    (ha : EA X cl E es mr) (hp : ∀ ta, PA X es ta → PE X (.Call (.Name x p) es [] pos) (tCB r ta)) : EE X cl E (.Call (.Name x p) es [] pos) (eCall f mr) := by
  obtain ⟨ta, pa, ea⟩ := ha
  refine ⟨_, pe_fz (hp ta pa), fun g S z S' h q s H Q w sl po => ?_⟩
  rcases bd_inv h with ⟨xs, S1, h1, h⟩ | ⟨c, fs, h1, rfl⟩
  · exact ea g S _ S1 h1 q s H _ w sl fun q1 H1 vs g1 w1 d1 => hf xs S1 z S' h q1 H1 vs Q w1 d1 (po.to g1)
  · exact ea g S _ S' h1 q s H _ w sl (Post.ex (Q' := fun _ _ => False) po)
end
end U

set_option Elab.async false
set_option linter.all false
set_option maxRecDepth 100000
set_option maxHeartbeats 1000000
namespace U
open PySem L2
/-! ### reading sequences -/
def stL (S : ST) (n : Nat) : Option (List D) := match S[n]? with
  | some (.lst ds) => some ds
  | _ => none
theorem stL_some {S : ST} {n : Nat} {ds : List D} (h : stL S n = some ds) : S[n]? = some (.lst ds) := by
  unfold stL at h
  split at h
  · rename_i e; cases h; exact e
  · cases h
theorem stL_of {S : ST} {n : Nat} {ds : List D} (h : S[n]? = some (.lst ds)) : stL S n = some ds := by
  unfold stL
  rw [h]
def lsS (S : ST) : D → Option (List D)
  | .lst ds => some ds
  | .kls ds => some ds
  | .ptr n => stL S n
  | _ => none
/-- a tracked list -/
def lsT (S : ST) : D → Option (List D)
  | .lst ds => some ds
  | .ptr n => stL S n
  | _ => none
def sqS (S : ST) : D → Option (List D)
  | .tup ds => some ds
  | d => lsS S d
section
variable {K : Fr} {q : Nat → Addr} {n : Nat} {H : Hp} {S : ST} {v : V} {d : D} {ds : List D}
theorem lsT_inv (h : lsT S d = some ds) (w : Wd K q S H) (hd : Dt K q S.length H v d) : ∃ a vs, v = .ref a ∧ Rd H a (.lst vs) ∧ Dts K q S.length H vs ds := by
  cases hd with
  | lst h1 h2 => cases h; exact ⟨_, _, rfl, .inr ⟨_, h1⟩, h2⟩
  | @ptr m hm =>
    obtain ⟨vs, e1, e2⟩ := w.ob m _ (stL_some h)
    exact ⟨_, vs, rfl, .inl e1, e2⟩
  | _ => cases h
theorem lsS_inv (h : lsS S d = some ds) (w : Wd K q S H) (hd : Dt K q S.length H v d) : ∃ a vs, v = .ref a ∧ SqL K H a vs ∧ Dts K q S.length H vs ds := by
  cases hd with
  | lst h1 h2 => cases h; exact ⟨_, _, rfl, .inl (.inr ⟨_, h1⟩), h2⟩
  | kls h1 h2 => cases h; exact ⟨_, _, rfl, h1.sq, h2⟩
  | @ptr m hm =>
    obtain ⟨vs, e1, e2⟩ := w.ob m _ (stL_some h)
    exact ⟨_, vs, rfl, .inl (.inl e1), e2⟩
  | _ => cases h
theorem sqS_inv (h : sqS S d = some ds) (w : Wd K q S H) (hd : Dt K q S.length H v d) : ∃ a vs, v = .ref a ∧ (SqL K H a vs ∨ SqT K H a vs) ∧ Dts K q S.length H vs ds := by
  cases hd with
  | tup h1 h2 => cases h; exact ⟨_, _, rfl, .inr h1, h2⟩
  | lst h1 h2 =>
    obtain ⟨a, vs, e, s, r⟩ := lsS_inv (d := .lst _) h w (.lst h1 h2)
    exact ⟨a, vs, e, .inl s, r⟩
  | kls h1 h2 =>
    obtain ⟨a, vs, e, s, r⟩ := lsS_inv (d := .kls _) h w (.kls h1 h2)
    exact ⟨a, vs, e, .inl s, r⟩
  | @ptr m hm =>
    obtain ⟨a, vs, e, s, r⟩ := lsS_inv (d := .ptr m) h w (.ptr hm)
    exact ⟨a, vs, e, .inl s, r⟩
  | _ => cases h
theorem Dt.tup_inv (h : Dt K q n H v (.tup ds)) : ∃ a vs, v = .ref a ∧ SqT K H a vs ∧ Dts K q n H vs ds := by
  cases h with
  | tup h1 h2 => exact ⟨_, _, rfl, h1, h2⟩
theorem dts_at {vs : List V} {i : Int} (h : Dts K q n H vs ds) (e : atI ds i = some d) : ∃ v, atI vs i = some v ∧ Dt K q n H v d := by
  unfold atI at e ⊢
  rw [h.length]
  cases hj : ixN ds.length i with
  | none => rw [hj] at e; cases e
  | some j =>
    rw [hj] at e
    exact h.get (i := j) e
def cutD (xs : List D) (lo hi : Option Int) : List D := (xs.drop (HT.sIx xs.length 0 lo)).take (HT.sIx xs.length xs.length hi - HT.sIx xs.length 0 lo)
theorem dts_cut {vs : List V} {lo hi : Option Int} (h : Dts K q n H vs ds) : Dts K q n H (cutV vs lo hi) (cutD ds lo hi) := by
  unfold cutV cutD
  rw [h.length]
  exact (h.drop _).take _
end
/-- sizes that all rules take -/
def few (n : Nat) : Bool := decide (n ≤ 100000)
theorem few_le {n : Nat} (h : few n = true) : n ≤ sizeLine := Nat.le_trans (of_decide_eq_true h) (by decide)
theorem few_lt {n : Nat} (h : few n = true) : n < sizeLine := Nat.lt_of_le_of_lt (of_decide_eq_true h) (by decide)
/-! ### closing words: a value that is there; a new tuple; a new list, shut -/
section
variable {K : Fr} {cl : Cl} {q : Nat → Addr} {S : ST} {H : Hp} {E : XK} {Q : VK} {d : D} {v : V} {ds : List D} {vs : List V}
theorem fz_val (w : Wd K q S H) (po : Post K cl q S.length H E Q (.ok d) S) (hd : Dt K q S.length H v d) : Fz Q v H := .inl (po q H v Gr.refl w hd)
theorem cp_val (w : Wd K q S H) (po : Post K cl q S.length H E Q (.ok d) S) (hd : Dt K q S.length H v d) : Q v H := po q H v Gr.refl w hd
theorem fz_tup {p : Addr} (w : Wd K q S H) (po : Post K cl q S.length H E Q (.ok (.tup ds)) S) (hp : H p = none) (hd : Dts K q S.length H vs ds) : Fz Q (.ref p) (upd H p (.tup vs)) :=
  .inl (po q _ _ (Gr.new hp) (w.new hp) (.tup (SqT.of upd_same) (hd.mono (Gr.new hp).ge)))
theorem fz_lst {p : Addr} (w : Wd K q S H) (po : Post K cl q S.length H E Q (.ok (.lst ds)) S) (hp : H p = none) (hd : Dts K q S.length H vs ds) : Fz Q (.ref p) (upd H p (.lst vs)) :=
  .inr ⟨p, _, rfl, upd_same, .inl ⟨vs, rfl⟩, fun o => by
    rw [upd_upd]
    exact po q _ _ (Gr.new hp) (w.new hp) (.lst (o := o) upd_same (hd.mono (Gr.new hp).ge))⟩
end
/-! ### arithmetic -/
def addF (x y : D) (S : ST) : Option (Rs D × ST) := match x, y with
  | .int i, .int j => some (.ok (.int (i + j)), S)
  | .str a, .str b => if few (a.length + b.length) = true then some (.ok (.str (a ++ b)), S) else none
  | .tup a, .tup b => if few (a.length + b.length) = true then some (.ok (.tup (a ++ b)), S) else none
  | x, y => match lsT S x, lsT S y with
    | some a, some b => if few (a.length + b.length) = true then some (.ok (.lst (a ++ b)), S) else none
    | _, _ => none
def rCatF : R2 := fun x y H Q => ∃ l b xs zs, x = .ref l ∧ y = .ref b ∧ Rd H l (.lst xs) ∧ Rd H b (.lst zs) ∧ xs.length + zs.length ≤ sizeLine ∧ ∀ p, H p = none → Q (.ref p) (upd H p (.lst (xs ++ zs)))
def rRepF : R2 := fun x y H Q => ∃ l k xs, x = .ref l ∧ y = .int k ∧ Rd H l (.lst xs) ∧ -(2 ^ 63) ≤ k ∧ k < 2 ^ 63 ∧ xs.length * k.toNat ≤ sizeLine ∧ ∀ p, H p = none → Q (.ref p) (upd H p (.lst (List.replicate k.toNat xs).flatten))
section
variable {X : Cx}
theorem op_catF : OpR X (binaryOp .Add) rCatF := by
  intro pins s σ H x y v u Q I rx ry h
  obtain ⟨l, b, xs, zs, rfl, rfl, hH, hB, hz, q⟩ := h
  cases rx
  cases ry
  obtain ⟨z, its, n, r, e⟩ := hH.ok I.hok
  obtain ⟨z2, its2, n2, r2, e2⟩ := hB.ok I.hok
  have hl := r.length
  have hl2 := r2.length
  refine PySem.P.add_list e e2 ?_ (by rw [List.size_toArray, List.size_toArray]; omega)
  have ea : its.toArray ++ its2.toArray = (its ++ its2).toArray := by simp
  rw [ea]
  exact ⟨.ref _, _, I.lnew (t' := s.toks) (r.append r2) (by rw [List.length_append]; omega), rfl, q _ I.fresh⟩
def rAddU (K : Fr) : R2 := fun x y H Q => rI0 (fun i j => .int (i + j)) x y H Q ∨ ((∃ i j, x = .str i ∧ y = .str j ∧ i.length + j.length ≤ sizeLine ∧ Q (.str (i ++ j)) H) ∨ (rCatA K x y H Q ∨ rCatF x y H Q))
theorem op_addU : OpR X (binaryOp .Add) (rAddU X.K) := OpR.or op_add (OpR.or op_add_str (OpR.or op_catA op_catF))
variable {cl : Cl} {E : XK}
theorem addE {K : Fr} : OpE K cl E (rAddU K) addF := by
  intro x y S z S' h q H vx vy Q w hx hy po
  unfold addF at h
  split at h
  · cases h; obtain rfl := hx.int_inv; obtain rfl := hy.int_inv
    exact .inl ⟨_, _, rfl, rfl, fz_val w po (.int _)⟩
  · split at h
    · rename_i hf
      cases h; obtain rfl := hx.str_inv; obtain rfl := hy.str_inv
      exact .inr (.inl ⟨_, _, rfl, rfl, few_le hf, fz_val w po (.str _)⟩)
    · cases h
  · split at h
    · rename_i hf
      cases h
      obtain ⟨a, vs, rfl, s1, d1⟩ := hx.tup_inv
      obtain ⟨b, ws, rfl, s2, d2⟩ := hy.tup_inv
      have l1 := d1.length
      have l2 := d2.length
      refine .inr (.inr (.inl ⟨a, b, vs, ws, rfl, rfl, s1, s2, by rw [l1, l2]; exact few_le hf, fun e => ?_, fun _ e => ?_, fun _ _ p hp => ?_⟩))
      · subst e
        cases d1
        exact fz_val w po hy
      · subst e
        cases d2
        exact fz_val w po (by rw [List.append_nil]; exact hx)
      · exact fz_tup w po hp (d1.append d2)
    · cases h
  · split at h
    · rename_i a b ha hb
      split at h
      · rename_i hf
        cases h
        obtain ⟨a, vs, rfl, s1, d1⟩ := lsT_inv ha w hx
        obtain ⟨b, ws, rfl, s2, d2⟩ := lsT_inv hb w hy
        exact .inr (.inr (.inr ⟨_, _, _, _, rfl, rfl, s1, s2, by rw [d1.length, d2.length]; exact few_le hf, fun p hp => fz_lst w po hp (d1.append d2)⟩))
      · cases h
    · cases h
/-! int operations under a condition -/
def intF (c : Int → Int → Bool) (f : Int → Int → Int) (x y : D) (S : ST) : Option (Rs D × ST) := match x, y with
  | .int i, .int j => if c i j = true then some (.ok (.int (f i j)), S) else none
  | _, _ => none
theorem intE {K : Fr} {C : Int → Int → Prop} {c : Int → Int → Bool} {f : Int → Int → Int} (hc : ∀ i j, c i j = true → C i j) : OpE K cl E (rI C fun i j => .int (f i j)) (intF c f) := by
  intro x y S z S' h q H vx vy Q w hx hy po
  unfold intF at h
  split at h
  · split at h
    · rename_i hf
      cases h; obtain rfl := hx.int_inv; obtain rfl := hy.int_inv
      exact ⟨_, _, rfl, rfl, hc _ _ hf, fz_val w po (.int _)⟩
    · cases h
  · cases h
def subF := intF (fun _ _ => true) (fun i j => i - j)
def modF := intF (fun _ j => decide (0 < j)) (fun i j => i % j)
def fdvF := intF (fun _ j => decide (0 < j) && decide (j.natAbs.log2 < 9000)) (fun i j => i / j)
def powF := intF (fun i j => decide (0 ≤ j) && decide (j ≤ 1000000) && decide (i.natAbs < 2 ^ 64)) (fun i j => i ^ j.toNat)
theorem op_subC : OpR X (binaryOp .Sub) (rI (fun _ _ => True) fun i j => .int (i - j)) := opI fun _ _ _ _ _ _ _ _ q => PyProof.Rows.sub_int q
theorem subE {K : Fr} : OpE K cl E (rI (fun _ _ => True) fun i j => .int (i - j)) subF := intE fun _ _ _ => trivial
theorem modE {K : Fr} : OpE K cl E (rI (fun _ j => 0 < j) fun i j => .int (i % j)) modF := intE fun _ _ h => of_decide_eq_true h
theorem fdvE {K : Fr} : OpE K cl E (rI CDivW fun i j => .int (i / j)) fdvF := intE fun _ _ h => by
  rw [Bool.and_eq_true] at h
  exact ⟨of_decide_eq_true h.1, of_decide_eq_true h.2⟩
theorem powE {K : Fr} : OpE K cl E (rI CPow fun i j => .int (i ^ j.toNat)) powF := intE fun _ _ h => by
  rw [Bool.and_eq_true, Bool.and_eq_true] at h
  exact ⟨of_decide_eq_true h.1.1, of_decide_eq_true h.1.2, of_decide_eq_true h.2⟩
/-! products: ints, a tuple some times, a list some times -/
def mulF (x y : D) (S : ST) : Option (Rs D × ST) := match x, y with
  | .int i, .int j => if (decide (-(2 ^ 64) < i) && decide (i < 2 ^ 64)) || (decide (-(2 ^ 64) < j) && decide (j < 2 ^ 64)) then some (.ok (.int (i * j)), S) else none
  | .tup a, .int k => if !a.isEmpty && decide (2 ≤ k) && decide (k ≤ 1000) && decide (a.length ≤ 1000) then some (.ok (.tup (List.replicate k.toNat a).flatten), S) else none
  | x, .int k => match lsT S x with
    | some a => if decide (0 ≤ k) && decide (k ≤ 1000) && decide (a.length ≤ 1000) then some (.ok (.lst (List.replicate k.toNat a).flatten), S) else none
    | _ => none
  | _, _ => none
theorem op_repF : OpR X (binaryOp .Mult) rRepF := by
  intro pins s σ H x y v u Q I rx ry h
  obtain ⟨l, k, xs, rfl, rfl, hH, h1, h2, hz, q⟩ := h
  cases rx
  obtain ⟨t, rfl⟩ := ry
  obtain ⟨z, its, n, r, e⟩ := hH.ok I.hok
  have hl := r.length
  have hlen : its.toArray.size * k.toNat ≤ sizeLine := by rw [List.size_toArray, ← hl]; exact hz
  have big : (sizeLine : Nat) ≤ (2 ^ 63 - 1) / 8 := by decide
  have hcap : ¬ its.toArray.size * k.toNat > (2 ^ 63 - 1) / 8 := by omega
  have hfit : ¬ (!Builtin.List.listFitsIndex k) = true := by
    rw [fitsIndex_both h1 h2]
    exact Bool.false_ne_true
  have hlong : ¬ Builtin.List.listTooLong (its.toArray.size * k.toNat) = true := by
    rw [notLongL hlen]
    exact Bool.false_ne_true
  have f0 : ∀ m : Nat, List.foldl (fun x1 x2 => x1 ++ x2) #[] (List.replicate m its.toArray) = (List.replicate m its).flatten.toArray := fun m => by
    have := foldl_rep its m []
    rw [List.nil_append] at this
    exact this
  have hnew : List.foldl (fun x1 x2 => x1 ++ x2) #[] (List.replicate (if its.toArray.isEmpty = true then 0 else k.toNat) its.toArray) = (List.replicate k.toNat its).flatten.toArray := by
    rw [f0]
    cases its with
    | nil => simp
    | cons a r' => rw [if_neg (by simp)]
  refine wpAny_binaryOp_repeat_ref (T := "list") (U := "int") (by decide) ⟨_, e, rfl⟩ (fun s' => typeIs_int s' k t) noFill_list_mul PySem.F.fills_int_mul PySem.F.slot_int_rmul repeat_list PySem.F.slot_int_index.lookup
    (call_meets PySem.F.slot_int_rmul (typeIs_int s k t) PySem.F.entry_int_rmul (PySem.F.args_int_rmul_2 _ _) (int___rmul___int_list k t l its.toArray n)
      ⟨e, rfl, ⟨_, e, rfl⟩, call_meets PySem.F.slot_list_mul ⟨_, e, rfl⟩ PySem.F.entry_list_mul (PySem.F.args_list_mul_2 _ _) (AutoListH.list___mul___list_int_3 l its.toArray n k t hfit hcap hlong) ⟨e, ?_⟩⟩)
  rw [hnew]
  exact ⟨.ref _, _, I.lnew (t' := s.toks) (r.rep k.toNat) (by rw [PyProof.Rows.lm_len_rep_flat, Nat.mul_comm]; exact hz), rfl, q _ I.fresh⟩
def rMulU (K : Fr) : R2 := fun x y H Q => rI CMul (fun i j => .int (i * j)) x y H Q ∨ (rRepT K x y H Q ∨ rRepF x y H Q)
theorem op_mulU : OpR X (binaryOp .Mult) (rMulU X.K) := OpR.or op_mul (OpR.or op_repT op_repF)
theorem mulE {K : Fr} : OpE K cl E (rMulU K) mulF := by
  intro x y S z S' h q H vx vy Q w hx hy po
  unfold mulF at h
  split at h
  · split at h
    · rename_i hf
      cases h; obtain rfl := hx.int_inv; obtain rfl := hy.int_inv
      simp only [Bool.or_eq_true, Bool.and_eq_true, decide_eq_true_eq] at hf
      exact .inl ⟨_, _, rfl, rfl, hf, fz_val w po (.int _)⟩
    · cases h
  · split at h
    · rename_i hf
      cases h
      obtain ⟨a, vs, rfl, s1, d1⟩ := hx.tup_inv
      obtain rfl := hy.int_inv
      simp only [Bool.and_eq_true, decide_eq_true_eq, Bool.not_eq_true'] at hf
      have l1 := d1.length
      refine .inr (.inl ⟨a, _, vs, rfl, rfl, s1, fun e => ?_, hf.1.1.2, hf.1.2, by omega, fun p hp => fz_tup w po hp (d1.rep _)⟩)
      subst e
      cases d1
      have := hf.1.1.1
      simp at this
    · cases h
  · split at h
    · rename_i a ha
      split at h
      · rename_i hf
        cases h
        obtain ⟨a, vs, rfl, s1, d1⟩ := lsT_inv ha w hx
        obtain rfl := hy.int_inv
        simp only [Bool.and_eq_true, decide_eq_true_eq] at hf
        have l1 := d1.length
        exact .inr (.inr ⟨_, _, vs, rfl, rfl, s1, by omega, by omega, (by refine Nat.le_trans (Nat.mul_le_mul (show vs.length ≤ 1000 by omega) (show _ ≤ 1000 from ?_)) (by decide); omega), fun p hp => fz_lst w po hp (d1.rep _)⟩)
      · cases h
    · cases h
  · cases h
/-! unary minus -/
def negF (x : D) (S : ST) : Option (Rs D × ST) := match x with
  | .int i => some (.ok (.int (-i)), S)
  | _ => none
theorem negE {K : Fr} : UnE K cl E (rU fun i => .int (-i)) negF := by
  intro x S z S' h q H vx Q w hx po
  unfold negF at h
  split at h
  · cases h; obtain rfl := hx.int_inv
    exact ⟨_, rfl, fz_val w po (.int _)⟩
  · cases h
/-! ### comparisons -/
def cmpF (f : Int → Int → Bool) (x y : D) (S : ST) : Option (Rs D × ST) := match x, y with
  | .int i, .int j => some (.ok (.bl (f i j)), S)
  | _, _ => none
theorem cmpE {K : Fr} {f : Int → Int → Bool} : CpE K cl E (rI0 fun i j => .bl (f i j)) (cmpF f) := by
  intro x y S z S' h q H vx vy Q w hx hy po
  unfold cmpF at h
  split at h
  · cases h; obtain rfl := hx.int_inv; obtain rfl := hy.int_inv
    exact ⟨_, _, rfl, rfl, cp_val w po (.bl _)⟩
  · cases h
def ltF := cmpF (fun i j => decide (i < j))
def leF := cmpF (fun i j => decide (i ≤ j))
def gtF := cmpF (fun i j => decide (j < i))
def geF := cmpF (fun i j => decide (j ≤ i))
end
/-! == of data -/
mutual
def pyD : D → Option PyData
  | .non => some .none
  | .bl b => some (.bool b)
  | .int i => some (.int i)
  | .str s => some (.str s)
  | .tup ds => (pyDs ds).map .tuple
  | .lst ds => (pyDs ds).map .list
  | .kls ds => (pyDs ds).map .list
  | .dic _ => none
  | .ptr _ => none
  | .cst _ => none
  | .ins _ _ => none
  | .fn _ => none
  | .exc _ _ _ => none
def pyDs : List D → Option (List PyData)
  | [] => some []
  | d :: ds => match pyD d, pyDs ds with
    | some a, some b => some (a :: b)
    | _, _ => none
end
def pyS (S : ST) (d : D) : Option PyData := match d with
  | .ptr n => match stL S n with
    | some ds => (pyDs ds).map .list
    | none => none
  | d => pyD d
section
variable {K : Fr} {q : Nat → Addr} {n : Nat} {H : Hp} {S : ST}
mutual
theorem dt_py : ∀ {v : V} {d : D} {p : PyData}, Dt K q n H v d → pyD d = some p → Dp K H v p
  | _, _, _, .non, h => by simp only [pyD] at h; cases h; exact .non
  | _, _, _, .bl b, h => by simp only [pyD] at h; cases h; exact .bl b
  | _, _, _, .int b, h => by simp only [pyD] at h; cases h; exact .int b
  | _, _, _, .str b, h => by simp only [pyD] at h; cases h; exact .str b
  | _, _, _, .tup (ds := ds) s r, h => by
    simp only [pyD, Option.map_eq_some_iff] at h
    obtain ⟨ps, e, rfl⟩ := h
    exact .tup s (dts_py r e)
  | _, _, _, .lst (ds := ds) s r, h => by
    simp only [pyD, Option.map_eq_some_iff] at h
    obtain ⟨ps, e, rfl⟩ := h
    exact .lst (.inl (.inr ⟨_, s⟩)) (dts_py r e)
  | _, _, _, .kls (ds := ds) s r, h => by
    simp only [pyD, Option.map_eq_some_iff] at h
    obtain ⟨ps, e, rfl⟩ := h
    exact .lst s.sq (dts_py r e)
  | _, _, _, .dic _ _, h => by simp only [pyD] at h; cases h
  | _, _, _, .ptr _, h => by simp only [pyD] at h; cases h
  | _, _, _, .cst, h => by simp only [pyD] at h; cases h
  | _, _, _, .ins _ _, h => by simp only [pyD] at h; cases h
  | _, _, _, .fn, h => by simp only [pyD] at h; cases h
  | _, _, _, .exc _ _ _ _, h => by simp only [pyD] at h; cases h
theorem dts_py : ∀ {v : List V} {d : List D} {p : List PyData}, Dts K q n H v d → pyDs d = some p → DpAll K H v p
  | _, _, _, .nil, h => by simp only [pyDs] at h; cases h; exact .nil
  | _, _, _, .cons r rs, h => by
    simp only [pyDs] at h
    split at h
    · rename_i a b e1 e2
      cases h
      exact .cons (dt_py r e1) (dts_py rs e2)
    · cases h
end
theorem pyS_py {v : V} {d : D} {p : PyData} (w : Wd K q S H) (r : Dt K q S.length H v d) (h : pyS S d = some p) : Dp K H v p := by
  cases r with
  | @ptr m hm =>
    simp only [pyS] at h
    split at h
    · rename_i ds e
      simp only [Option.map_eq_some_iff] at h
      obtain ⟨ps, e2, rfl⟩ := h
      obtain ⟨vs, e3, e4⟩ := w.ob m _ (stL_some e)
      exact .lst (.inl (.inl e3)) (dts_py e4 e2)
    · cases h
  | non => exact dt_py (q := q) (n := S.length) (d := .non) .non h
  | bl b => exact dt_py (q := q) (n := S.length) (d := .bl b) (.bl b) h
  | int b => exact dt_py (q := q) (n := S.length) (d := .int b) (.int b) h
  | str b => exact dt_py (q := q) (n := S.length) (d := .str b) (.str b) h
  | tup a b => exact dt_py (q := q) (n := S.length) (d := .tup _) (.tup a b) h
  | lst a b => exact dt_py (q := q) (n := S.length) (d := .lst _) (.lst a b) h
  | kls a b => exact dt_py (q := q) (n := S.length) (d := .kls _) (.kls a b) h
  | dic a b => exact dt_py (q := q) (n := S.length) (d := .dic _) (.dic a b) h
  | cst => exact dt_py (q := q) (n := S.length) (d := .cst _) .cst h
  | ins a b => exact dt_py (q := q) (n := S.length) (d := .ins _ _) (.ins a b) h
  | fn => exact dt_py (q := q) (n := S.length) (d := .fn _) .fn h
  | exc a b c d => exact dt_py (q := q) (n := S.length) (d := .exc _ _ _) (.exc a b c d) h
end
def eqG (f : Bool → Bool) (x y : Option PyData) (S : ST) : Option (Rs D × ST) := match x, y with
  | some a, some b => if (SeqAt.shaped a && SeqAt.shaped b) = true then some (.ok (.bl (f (PyData.eqv a b))), S) else none
  | _, _ => none
def strP : D → Option Str
  | .str a => some a
  | _ => none
theorem strP_inv {x : D} {a : Str} (h : strP x = some a) : x = .str a := by
  unfold strP at h
  split at h
  · cases h; rfl
  · cases h
def eqF (f : Bool → Bool) (x y : D) (S : ST) : Option (Rs D × ST) := match strP x, strP y with
  | some a, some b => some (.ok (.bl (f (decide (a = b)))), S)
  | _, _ => eqG f (pyS S x) (pyS S y) S
def rEqU (K : Fr) : R2 := fun x y H Q => rEq x y H Q ∨ rEqD K x y H Q
def rNeU (K : Fr) : R2 := fun x y H Q => rNe x y H Q ∨ rNeD K x y H Q
theorem dec_str {a b : Str} : decide (V.str a = V.str b) = decide (a = b) := by
  rw [decide_eq_decide]
  constructor
  · intro h; cases h; rfl
  · intro h; rw [h]
section
variable {X : Cx} {cl : Cl} {E : XK}
theorem eqE {K : Fr} : CpE K cl E (rEqU K) (eqF id) := by
  intro x y S z S' h q H vx vy Q w hx hy po
  unfold eqF at h
  split at h
  · rename_i e1 e2
    cases h
    obtain rfl := strP_inv e1
    obtain rfl := strP_inv e2
    obtain rfl := hx.str_inv
    obtain rfl := hy.str_inv
    refine .inl ⟨rfl, ?_⟩
    rw [dec_str]
    exact cp_val w po (.bl _)
  · unfold eqG at h
    split at h
    · rename_i a b e1 e2
      split at h
      · rename_i hs
        cases h
        rw [Bool.and_eq_true] at hs
        exact .inr ⟨a, b, pyS_py w hx e1, pyS_py w hy e2, hs.1, hs.2, cp_val w po (.bl _)⟩
      · cases h
    · cases h
theorem neE {K : Fr} : CpE K cl E (rNeU K) (eqF not) := by
  intro x y S z S' h q H vx vy Q w hx hy po
  unfold eqF at h
  split at h
  · rename_i e1 e2
    cases h
    obtain rfl := strP_inv e1
    obtain rfl := strP_inv e2
    obtain rfl := hx.str_inv
    obtain rfl := hy.str_inv
    refine .inl ⟨rfl, ?_⟩
    rw [dec_str]
    exact cp_val w po (.bl _)
  · unfold eqG at h
    split at h
    · rename_i a b e1 e2
      split at h
      · rename_i hs
        cases h
        rw [Bool.and_eq_true] at hs
        exact .inr ⟨a, b, pyS_py w hx e1, pyS_py w hy e2, hs.1, hs.2, cp_val w po (.bl _)⟩
      · cases h
    · cases h
theorem op_eqU {X : Cx} (hu : X.A.units + 64 < cLine) : OpR X (compareOp .Eq) (rEqU X.K) := OpR.or op_eq (op_eqD hu)
theorem op_neU {X : Cx} (hu : X.A.units + 64 < cLine) : OpR X (compareOp .NotEq) (rNeU X.K) := OpR.or op_ne (op_neD hu)
/-! is None, is True -/
def isF (f : Bool → Bool) (x y : D) (S : ST) : Option (Rs D × ST) := match x, y with
  | .bl a, .bl b => some (.ok (.bl (f (decide (a = b)))), S)
  | .non, .non => some (.ok (.bl (f true)), S)
  | .bl _, .non => some (.ok (.bl (f false)), S)
  | .int _, .non => some (.ok (.bl (f false)), S)
  | .str _, .non => some (.ok (.bl (f false)), S)
  | .tup _, .non => some (.ok (.bl (f false)), S)
  | .lst _, .non => some (.ok (.bl (f false)), S)
  | .kls _, .non => some (.ok (.bl (f false)), S)
  | .dic _, .non => some (.ok (.bl (f false)), S)
  | .ptr _, .non => some (.ok (.bl (f false)), S)
  | _, _ => none
def rIsU : R2 := fun x y H Q => (∃ a b : Bool, x = .bl a ∧ y = .bl b ∧ Q (.bl (decide (a = b))) H) ∨ (y = .non ∧ Q (.bl (decide (x = .non))) H)
def rIsntU : R2 := fun x y H Q => (∃ a b : Bool, x = .bl a ∧ y = .bl b ∧ Q (.bl (!decide (a = b))) H) ∨ (y = .non ∧ Q (.bl (!decide (x = .non))) H)
theorem op_isU : OpR X (compareOp .Is) rIsU := OpR.or op_isBl op_isN
theorem op_isntU : OpR X (compareOp .IsNot) rIsntU := OpR.or op_notBl op_notN
theorem isE {K : Fr} : CpE K cl E rIsU (isF id) := by
  intro x y S z S' h q H vx vy Q w hx hy po
  unfold isF at h
  split at h <;> first | (cases h; done) | skip
  · cases h; obtain rfl := hx.bl_inv; obtain rfl := hy.bl_inv
    exact .inl ⟨_, _, rfl, rfl, cp_val w po (.bl _)⟩
  · cases h; obtain rfl := hx.non_inv; obtain rfl := hy.non_inv
    exact .inr ⟨rfl, cp_val w po (.bl _)⟩
  all_goals (cases h; obtain rfl := hy.non_inv; cases hx; exact .inr ⟨rfl, cp_val w po (.bl _)⟩)
theorem isntE {K : Fr} : CpE K cl E rIsntU (isF not) := by
  intro x y S z S' h q H vx vy Q w hx hy po
  unfold isF at h
  split at h <;> first | (cases h; done) | skip
  · cases h; obtain rfl := hx.bl_inv; obtain rfl := hy.bl_inv
    exact .inl ⟨_, _, rfl, rfl, cp_val w po (.bl _)⟩
  · cases h; obtain rfl := hx.non_inv; obtain rfl := hy.non_inv
    exact .inr ⟨rfl, cp_val w po (.bl _)⟩
  all_goals (cases h; obtain rfl := hy.non_inv; cases hx; exact .inr ⟨rfl, cp_val w po (.bl _)⟩)
/-! x in a sequence of flat things, a sign in a text -/
def flD : D → Option V
  | .non => some .non
  | .bl b => some (.bl b)
  | .int i => some (.int i)
  | .str s => some (.str s)
  | _ => none
def flDs : List D → Option (List V)
  | [] => some []
  | d :: ds => match flD d, flDs ds with
    | some a, some b => some (a :: b)
    | _, _ => none
theorem flD_inv {K : Fr} {q : Nat → Addr} {n : Nat} {H : Hp} {v u : V} {d : D} (h : flD d = some u) (r : Dt K q n H v d) : v = u ∧ flatV u = true := by
  cases r <;> (simp only [flD] at h; first | (cases h; exact ⟨rfl, rfl⟩) | cases h)
theorem flDs_inv {K : Fr} {q : Nat → Addr} {n : Nat} {H : Hp} : ∀ {vs us : List V} {ds : List D}, flDs ds = some us → Dts K q n H vs ds → vs = us ∧ us.all flatV = true
  | _, _, _, h, .nil => by simp only [flDs] at h; cases h; exact ⟨rfl, rfl⟩
  | _, _, _, h, .cons r rs => by
    simp only [flDs] at h
    split at h
    · rename_i a b e1 e2
      cases h
      obtain ⟨rfl, f1⟩ := flD_inv e1 r
      obtain ⟨rfl, f2⟩ := flDs_inv e2 rs
      exact ⟨rfl, by rw [List.all_cons, f1, f2]; rfl⟩
    · cases h
def inF (f : Bool → Bool) (x y : D) (S : ST) : Option (Rs D × ST) := match y with
  | .str z => match x with
    | .str c => if c.cps.size = 1 then some (.ok (.bl (f (decide (c.cps.getD 0 0 ∈ z.cps.toList)))), S) else none
    | _ => none
  | y => match sqS S y with
    | some ys => match flD x, flDs ys with
      | some a, some b => some (.ok (.bl (f (inV a b))), S)
      | _, _ => none
    | none => none
def rInU (K : Fr) (neg : Bool) : R2 := fun x y H Q => (∃ (c : Nat) (z : Str), x = .str ⟨#[c]⟩ ∧ y = .str z ∧ Q (.bl (if neg then !decide (c ∈ z.cps.toList) else decide (c ∈ z.cps.toList))) H) ∨ rIn K neg x y H Q
theorem op_inU : OpR X (compareOp .In) (rInU X.K false) := OpR.or op_in_sign op_in_seq
theorem op_notInU : OpR X (compareOp .NotIn) (rInU X.K true) := OpR.or op_notIn_sign op_notIn_seq
theorem one_sign {c : Str} (h : c.cps.size = 1) : c = ⟨#[c.cps.getD 0 0]⟩ := by
  obtain ⟨a⟩ := c
  obtain ⟨l⟩ := a
  match l, h with
  | [x], _ => rfl
theorem inE {K : Fr} {neg : Bool} : CpE K cl E (rInU K neg) (inF (fun b => if neg then !b else b)) := by
  intro x y S z S' h q H vx vy Q w hx hy po
  unfold inF at h
  split at h
  · split at h
    · split at h
      · rename_i hs
        cases h; obtain rfl := hx.str_inv; obtain rfl := hy.str_inv
        exact .inl ⟨_, _, by rw [← one_sign hs], rfl, cp_val w po (.bl _)⟩
      · cases h
    · cases h
  · split at h
    · rename_i ys e
      split at h
      · rename_i a b e1 e2
        cases h
        obtain ⟨p, vs, rfl, s, r⟩ := sqS_inv e w hy
        obtain ⟨rfl, f1⟩ := flD_inv e1 hx
        obtain ⟨rfl, f2⟩ := flDs_inv e2 r
        exact .inr ⟨p, vs, rfl, s, f1, f2, cp_val w po (.bl _)⟩
      · cases h
    · cases h
end
end U

set_option Elab.async false
set_option linter.all false
set_option maxRecDepth 100000
set_option maxHeartbeats 1000000
namespace U
open PySem L2
/-! ### displays; lists that were just made -/
def PostO (K : Fr) (cl : Cl) (q : Nat → Addr) (n : Nat) (H : Hp) (E : XK) (Q : VK) (r : Rs (List D)) (S' : ST) : Prop :=
  match r with
  | .ok ds => ∀ q' H' a vs, Gr q n H q' S'.length H' → Wd K q' S' H' → H a = none → H' a = some (.lst vs) → (∀ m, m < S'.length → q' m ≠ a) → Dts K q' S'.length H' vs ds → Q (.ref a) H'
  | .ex c fs => Post K cl q n H E (fun _ _ => False) (.ex c fs) S'
structure EO (X : Cx) (cl : Cl) (E : XK) (e : Expr) (m : AM) : Prop where
  ex : ∃ te, PE X e te ∧ ∀ g S r S', m g S = some (r, S') → ∀ q s H Q, Wd X.K q S H → Sl X.K q S.length H s g → PostO X.K cl q S.length H E Q r S' → te s H Q
def eTup (a : AM) : EM := fun g S => bd (a g S) fun xs S1 => if few xs.length = true then some (.ok (.tup xs), S1) else none
def oLst (a : AM) : AM := fun g S => bd (a g S) fun xs S1 => if few xs.length = true then some (.ok xs, S1) else none
def eFz (a : AM) : EM := fun g S => bd (a g S) fun xs S1 => some (.ok (.lst xs), S1)
def ePtr (a : AM) : EM := fun g S => bd (a g S) fun xs S1 => some (.ok (.ptr S1.length), S1 ++ [.lst xs])
section
variable {X : Cx} {cl : Cl} {E : XK} {e a b : Expr} {es : List Expr} {pos : Pos} {m ma mb : EM} {mr : AM}
theorem ee_tup {x1} (h : EA X cl E es mr) : EE X cl E (.Tuple es x1 pos) (eTup mr) := by
  obtain ⟨ta, pa, ea⟩ := h
  refine ⟨_, pe_tup pa, fun g S z S' h q s H Q w sl po => ?_⟩
  rcases bd_inv h with ⟨xs, S1, h1, h⟩ | ⟨c, fs, h1, rfl⟩
  · split at h
    · rename_i hf
      cases h
      refine ea g S _ _ h1 q s H _ w sl fun q1 H1 vs g1 w1 d1 => ⟨by rw [d1.length]; exact few_le hf, fun p hp => ?_⟩
      exact po q1 _ _ (g1.trans (Gr.new hp)) (w1.new hp) (.tup (SqT.of upd_same) (d1.mono (Gr.new hp).ge))
    · cases h
  · exact ea g S _ S' h1 q s H _ w sl (Post.ex (Q' := fun _ _ => False) po)
theorem eo_lst (h : EA X cl E es mr) : EO X cl E (.List es pos) (oLst mr) := by
  obtain ⟨ta, pa, ea⟩ := h
  refine ⟨_, pe_lst pa, fun g S z S' h q s H Q w sl po => ?_⟩
  rcases bd_inv h with ⟨xs, S1, h1, h⟩ | ⟨c, fs, h1, rfl⟩
  · split at h
    · rename_i hf
      cases h
      refine ea g S _ _ h1 q s H _ w sl fun q1 H1 vs g1 w1 d1 => ⟨by rw [d1.length]; exact few_le hf, fun p hp => ?_⟩
      exact po q1 _ p vs (g1.trans (Gr.new hp)) (w1.new hp) (g1.free hp) upd_same (fun m hm => w1.ne hp hm) (d1.mono (Gr.new hp).ge)
    · cases h
  · exact ea g S _ S' h1 q s H _ w sl po
theorem ee_fz (h : EO X cl E e mr) : EE X cl E e (eFz mr) := by
  obtain ⟨te, pe, ee⟩ := h
  refine ⟨_, pe_fz pe, fun g S z S' h q s H Q w sl po => ?_⟩
  rcases bd_inv h with ⟨xs, S1, h1, h⟩ | ⟨c, fs, h1, rfl⟩
  · cases h
    refine ee g S _ _ h1 q s H _ w sl fun q1 H1 a vs g1 w1 h0 ha hn d1 => ?_
    have hu : Shut (.lst vs) := .inl ⟨vs, rfl⟩
    refine .inr ⟨a, _, rfl, ha, hu, fun o => ?_⟩
    exact po q1 _ _ (g1.over h0) (w1.off ha trivial hn) (.lst (o := o) upd_same (d1.mono (Ge.wr ha trivial)))
  · exact ee g S _ S' h1 q s H _ w sl (Post.ex (Q' := fun _ _ => False) po)
theorem ee_ptr (h : EO X cl E e mr) : EE X cl E e (ePtr mr) := by
  obtain ⟨te, pe, ee⟩ := h
  refine ⟨_, pe, fun g S z S' h q s H Q w sl po => ?_⟩
  rcases bd_inv h with ⟨xs, S1, h1, h⟩ | ⟨c, fs, h1, rfl⟩
  · cases h
    refine ee g S _ _ h1 q s H _ w sl fun q1 H1 a vs g1 w1 h0 ha hn d1 => ?_
    have e1 : (S1 ++ [MO.lst xs]).length = S1.length + 1 := by rw [List.length_append, List.length_singleton]
    refine po (put q1 S1.length a) H1 (.ref a) ?_ (w1.adopt hn ⟨vs, ha, d1.mono .adopt⟩) ?_
    · rw [e1]; exact g1.adopt h0
    · rw [e1]
      have := Dt.ptr (K := X.K) (q := put q1 S1.length a) (n := S1.length + 1) (H := H1) (m := S1.length) (Nat.lt_succ_self _)
      rw [put_eq] at this
      exact this
  · exact ee g S _ S' h1 q s H _ w sl (Post.ex (Q' := fun _ _ => False) po)
/-! ### subscripts -/
def ixF (x y : D) (S : ST) : Option (Rs D × ST) := match y with
  | .int i => match x with
    | .str z => if few z.length = true then match atI z.cps.toList i with
        | some c => some (.ok (.str ⟨#[c]⟩), S)
        | none => none
      else none
    | x => match sqS S x with
      | some xs => match atI xs i with
        | some d => some (.ok d, S)
        | none => none
      | none => none
  | _ => none
theorem ixE {K : Fr} : OpE K cl E (rIx K) ixF := by
  intro x y S z S' h q H vx vy Q w hx hy po
  unfold ixF at h
  split at h
  · obtain rfl := hy.int_inv
    split at h
    · split at h
      · rename_i hf
        split at h
        · rename_i c e
          cases h; obtain rfl := hx.str_inv
          exact .inr (.inr ⟨_, _, c, rfl, rfl, few_le hf, e, fz_val w po (.str _)⟩)
        · cases h
      · cases h
    · split at h
      · rename_i xs e
        split at h
        · rename_i d e2
          cases h
          obtain ⟨a, vs, rfl, s, r⟩ := sqS_inv e w hx
          obtain ⟨v, e3, r3⟩ := dts_at r e2
          rcases s with s | s
          · exact .inl ⟨a, vs, _, v, rfl, rfl, s, e3, fz_val w po r3⟩
          · exact .inr (.inl ⟨a, vs, _, v, rfl, rfl, s, e3, fz_val w po r3⟩)
        · cases h
      · cases h
  · cases h
theorem ee_ix (ha : EE X cl E a ma) (hb : EE X cl E b mb) (hs : PlainIx b := by exact fun _ _ => rfl) : EE X cl E (.Subscript a b pos) (eOp ixF ma mb) := by
  obtain ⟨ta, pa, ea⟩ := ha
  obtain ⟨tb, pb, eb⟩ := hb
  refine ⟨_, pe_fz (pe_ix ix_seq pa pb hs), fun g S z S' h q s H Q w sl po => ?_⟩
  rcases bd_inv h with ⟨x, S1, h1, h⟩ | ⟨c, fs, h1, rfl⟩
  · refine ea g S _ S1 h1 q s H _ w sl fun q1 H1 vx g1 w1 d1 => ?_
    rcases bd_inv h with ⟨y, S2, h2, h⟩ | ⟨c, fs, h2, rfl⟩
    · refine eb g S1 _ S2 h2 q1 s H1 _ w1 (sl.mono g1) fun q2 H2 vy g2 w2 d2 => ?_
      exact ixE x y S2 z S' h q2 H2 vx vy Q w2 (d1.mono g2.ge) d2 (po.to (g1.trans g2))
    · exact eb g S1 _ S' h2 q1 s H1 _ w1 (sl.mono g1) (Post.ex (Q := Q) (po.to g1))
  · exact ea g S _ S' h1 q s H _ w sl (Post.ex (Q := Q) po)
/-! slices: the bounds are optional -/
abbrev OM := EV → ST → Option (Rs (Option Int) × ST)
structure EQ (X : Cx) (cl : Cl) (E : XK) (e : Option Expr) (m : OM) : Prop where
  ex : ∃ to, PO X e to ∧ ∀ g S r S', m g S = some (r, S') → ∀ q s H Q, Wd X.K q S H → Sl X.K q S.length H s g →
    (match r with
      | .ok o => ∀ q' H', Gr q S.length H q' S'.length H' → Wd X.K q' S' H' → Q o H'
      | .ex c fs => Post X.K cl q S.length H E (fun _ _ => False) (.ex c fs) S') → to s H Q
def qNone : OM := fun _ S => some (.ok none, S)
def toI (x : D) (S : ST) : Option (Rs (Option Int) × ST) := match x with
  | .int i => some (.ok (some i), S)
  | _ => none
def qSome (a : EM) : OM := fun g S => bd (a g S) toI
theorem eq_none : EQ X cl E none qNone := by
  refine ⟨_, po_none, fun g S z S' h q s H Q w sl po => ?_⟩
  cases h
  exact po q H Gr.refl w
theorem eq_some (h : EE X cl E e m) : EQ X cl E (some e) (qSome m) := by
  obtain ⟨ta, pa, ea⟩ := h
  refine ⟨_, po_some pa, fun g S z S' h q s H Q w sl po => ?_⟩
  rcases bd_inv h with ⟨x, S1, h1, h⟩ | ⟨c, fs, h1, rfl⟩
  · refine ea g S _ S1 h1 q s H _ w sl fun q1 H1 vx g1 w1 d1 => ?_
    unfold toI at h
    split at h
    · cases h
      obtain rfl := d1.int_inv
      exact ⟨_, rfl, po q1 H1 g1 w1⟩
    · cases h
  · exact ea g S _ S' h1 q s H _ w sl (Post.ex (Q := fun _ _ => False) po)
def cutF (x : D) (lo hi : Option Int) (S : ST) : Option (Rs D × ST) := match x with
  | .str z => if few z.length = true then some (.ok (.str (cutS z lo hi)), S) else none
  | .tup ds => some (.ok (.tup (cutD ds lo hi)), S)
  | x => match lsS S x with
    | some ds => some (.ok (.lst (cutD ds lo hi)), S)
    | none => none
def rCutU (K : Fr) : V → Option Int → Option Int → Hp → VK → Prop := fun x lo hi H Q => rSlS x lo hi H Q ∨ (rSlA K x lo hi H Q ∨ rSlL K x lo hi H Q)
theorem cut_all {α : Type} {xs : List α} {lo hi : Option Int} (h : HT.sIx xs.length 0 lo = 0 ∧ HT.sIx xs.length xs.length hi = xs.length) : (xs.drop (HT.sIx xs.length 0 lo)).take (HT.sIx xs.length xs.length hi - HT.sIx xs.length 0 lo) = xs := by
  rw [h.1, h.2]
  simp
theorem cutE {K : Fr} {x : D} {lo hi : Option Int} {S S' : ST} {z : Rs D} (h : cutF x lo hi S = some (z, S')) {q : Nat → Addr} {H : Hp} {vx : V} {Q : VK} (w : Wd K q S H) (hx : Dt K q S.length H vx x) (po : Post K cl q S.length H E Q z S') : rCutU K vx lo hi H (Fz Q) := by
  unfold cutF at h
  split at h
  · split at h
    · rename_i hf
      cases h; obtain rfl := hx.str_inv
      exact .inl ⟨_, rfl, few_le hf, fz_val w po (.str _)⟩
    · cases h
  · cases h
    obtain ⟨a, vs, rfl, s1, d1⟩ := hx.tup_inv
    refine .inr (.inl ⟨a, vs, rfl, s1, fun e => ?_, fun _ p hp => fz_tup w po hp (dts_cut d1)⟩)
    have l := d1.length
    rw [l] at e
    unfold cutD at po
    rw [cut_all e] at po
    exact fz_val w po hx
  · split at h
    · rename_i ds e
      cases h
      obtain ⟨a, vs, rfl, s1, d1⟩ := lsS_inv e w hx
      exact .inr (.inr ⟨a, vs, rfl, s1, fun p hp => fz_lst w po hp (dts_cut d1)⟩)
    · cases h
def eCut (a : EM) (l h : OM) : EM := fun g S => bd (a g S) fun x S1 => bd (l g S1) fun lo S2 => bd (h g S2) fun hi S3 => cutF x lo hi S3
theorem ee_cut {lo hi : Option Expr} {ml mh : OM} {p2 : Pos} (ha : EE X cl E a ma) (hl : EQ X cl E lo ml) (hh : EQ X cl E hi mh) : EE X cl E (.Subscript a (.Slice lo hi none p2) pos) (eCut ma ml mh) := by
  obtain ⟨ta, pa, ea⟩ := ha
  obtain ⟨tl, pl, el⟩ := hl
  obtain ⟨th, ph, eh⟩ := hh
  refine ⟨_, pe_fz (pe_slice (SlR.or sl_str (SlR.or sl_tupA sl_list)) pa pl ph), fun g S z S' h q s H Q w sl po => ?_⟩
  rcases bd_inv h with ⟨x, S1, h1, h⟩ | ⟨c, fs, h1, rfl⟩
  · refine ea g S _ S1 h1 q s H _ w sl fun q1 H1 vx g1 w1 d1 => ?_
    rcases bd_inv h with ⟨y, S2, h2, h⟩ | ⟨c, fs, h2, rfl⟩
    · refine el g S1 _ S2 h2 q1 s H1 _ w1 (sl.mono g1) fun q2 H2 g2 w2 => ?_
      rcases bd_inv h with ⟨y2, S3, h3, h⟩ | ⟨c, fs, h3, rfl⟩
      · refine eh g S2 _ S3 h3 q2 s H2 _ w2 (sl.mono (g1.trans g2)) fun q3 H3 g3 w3 => ?_
        exact cutE h w3 (d1.mono (g2.trans g3).ge) (po.to ((g1.trans g2).trans g3))
      · exact eh g S2 _ S' h3 q2 s H2 _ w2 (sl.mono (g1.trans g2)) (Post.ex (Q := Q) (po.to (g1.trans g2)))
    · exact el g S1 _ S' h2 q1 s H1 _ w1 (sl.mono g1) (Post.ex (Q := Q) (po.to g1))
  · exact ea g S _ S' h1 q s H _ w sl (Post.ex (Q := Q) po)
/-! ### built-ins by values -/
def lenF (xs : List D) (S : ST) : Option (Rs D × ST) := match xs with
  | [.str z] => if few z.length = true then some (.ok (.int z.length), S) else none
  | [x] => match sqS S x with
    | some ds => some (.ok (.int ds.length), S)
    | none => none
  | _ => none
def rLenU (K : Fr) : List V → Hp → VK → Prop := fun xs H Q => (∃ z, xs = [.str z] ∧ z.length ≤ sizeLine ∧ Q (.int z.length) H) ∨ (∃ p ys, xs = [.ref p] ∧ (SqL K H p ys ∨ SqT K H p ys) ∧ Q (.int ys.length) H)
theorem call_lenU : CallR X (.builtin "len") (rLenU X.K) := CallR.or call_len_str call_len_seq
theorem dts1 {K : Fr} {q : Nat → Addr} {n : Nat} {H : Hp} {vs : List V} {d : D} (h : Dts K q n H vs [d]) : ∃ v, vs = [v] ∧ Dt K q n H v d := by
  cases h with
  | cons r t => cases t; exact ⟨_, rfl, r⟩
theorem dts2 {K : Fr} {q : Nat → Addr} {n : Nat} {H : Hp} {vs : List V} {d e : D} (h : Dts K q n H vs [d, e]) : ∃ v u, vs = [v, u] ∧ Dt K q n H v d ∧ Dt K q n H u e := by
  cases h with
  | cons r t =>
    obtain ⟨u, rfl, h2⟩ := dts1 t
    exact ⟨_, _, rfl, r, h2⟩
theorem lenE {K : Fr} : CaE K cl E (rLenU K) lenF := by
  intro xs S z S' h q H vs Q w hx po
  unfold lenF at h
  split at h
  · split at h
    · rename_i hf
      cases h
      obtain ⟨v, rfl, r⟩ := dts1 hx
      obtain rfl := r.str_inv
      exact .inl ⟨_, rfl, few_le hf, fz_val w po (.int _)⟩
    · cases h
  · split at h
    · rename_i ds e
      cases h
      obtain ⟨v, rfl, r⟩ := dts1 hx
      obtain ⟨a, vs, rfl, s, d⟩ := sqS_inv e w r
      refine .inr ⟨a, vs, rfl, s, ?_⟩
      rw [d.length]
      exact fz_val w po (.int _)
    · cases h
  · cases h
def absF (xs : List D) (S : ST) : Option (Rs D × ST) := match xs with
  | [.int i] => some (.ok (.int (if i < 0 then -i else i)), S)
  | _ => none
theorem absE {K : Fr} : CaE K cl E (fun xs H Q => ∃ i, xs = [.int i] ∧ Q (.int (if i < 0 then -i else i)) H) absF := by
  intro xs S z S' h q H vs Q w hx po
  unfold absF at h
  split at h
  · cases h
    obtain ⟨v, rfl, r⟩ := dts1 hx
    obtain rfl := r.int_inv
    exact ⟨_, rfl, fz_val w po (.int _)⟩
  · cases h
def max2F (xs : List D) (S : ST) : Option (Rs D × ST) := match xs with
  | [.int i, .int j] => some (.ok (.int (if j > i then j else i)), S)
  | _ => none
def min2F (xs : List D) (S : ST) : Option (Rs D × ST) := match xs with
  | [.int i, .int j] => some (.ok (.int (if j < i then j else i)), S)
  | _ => none
theorem max2E {K : Fr} : CaE K cl E (fun xs H Q => ∃ i j, xs = [.int i, .int j] ∧ Q (.int (if j > i then j else i)) H) max2F := by
  intro xs S z S' h q H vs Q w hx po
  unfold max2F at h
  split at h
  · cases h
    obtain ⟨v, u, rfl, r, r2⟩ := dts2 hx
    obtain rfl := r.int_inv
    obtain rfl := r2.int_inv
    exact ⟨_, _, rfl, fz_val w po (.int _)⟩
  · cases h
theorem min2E {K : Fr} : CaE K cl E (fun xs H Q => ∃ i j, xs = [.int i, .int j] ∧ Q (.int (if j < i then j else i)) H) min2F := by
  intro xs S z S' h q H vs Q w hx po
  unfold min2F at h
  split at h
  · cases h
    obtain ⟨v, u, rfl, r, r2⟩ := dts2 hx
    obtain rfl := r.int_inv
    obtain rfl := r2.int_inv
    exact ⟨_, _, rfl, fz_val w po (.int _)⟩
  · cases h
def intOfF (xs : List D) (S : ST) : Option (Rs D × ST) := match xs with
  | [.int i] => some (.ok (.int i), S)
  | [.bl k] => some (.ok (.int (if k then 1 else 0)), S)
  | _ => none
theorem intOfE {K : Fr} : CaE K cl E (fun xs H Q => (∃ i, xs = [.int i] ∧ Q (.int i) H) ∨ ∃ k, xs = [.bl k] ∧ Q (.int (if k then 1 else 0)) H) intOfF := by
  intro xs S z S' h q H vs Q w hx po
  unfold intOfF at h
  split at h
  · cases h
    obtain ⟨v, rfl, r⟩ := dts1 hx
    obtain rfl := r.int_inv
    exact .inl ⟨_, rfl, fz_val w po (.int _)⟩
  · cases h
    obtain ⟨v, rfl, r⟩ := dts1 hx
    obtain rfl := r.bl_inv
    exact .inr ⟨_, rfl, fz_val w po (.int _)⟩
  · cases h
/-- all(..), any(..) of a list of truths -/
def blDs : List D → Option (List Bool)
  | [] => some []
  | d :: ds => match d, blDs ds with
    | .bl a, some b => some (a :: b)
    | _, _ => none
theorem blDs_inv {K : Fr} {q : Nat → Addr} {n : Nat} {H : Hp} : ∀ {vs : List V} {ds : List D} {bs : List Bool}, blDs ds = some bs → Dts K q n H vs ds → vs = bs.map V.bl
  | _, _, _, h, .nil => by simp only [blDs] at h; cases h; rfl
  | _, _, _, h, .cons r rs => by
    simp only [blDs] at h
    split at h
    · rename_i a b e2
      cases h
      obtain rfl := r.bl_inv
      rw [blDs_inv e2 rs]
      rfl
    · cases h
def allF (f : List Bool → Bool) (xs : List D) (S : ST) : Option (Rs D × ST) := match xs with
  | [x] => match lsS S x with
    | some ds => match blDs ds with
      | some bs => some (.ok (.bl (f bs)), S)
      | none => none
    | none => none
  | _ => none
theorem allE {K : Fr} : CaE K cl E (rAll K) (allF fun bs => bs.all id) := by
  intro xs S z S' h q H vs Q w hx po
  unfold allF at h
  split at h
  · split at h
    · rename_i ds e
      split at h
      · rename_i bs e2
        cases h
        obtain ⟨v, rfl, r⟩ := dts1 hx
        obtain ⟨a, vs, rfl, s, d⟩ := lsS_inv e w r
        rw [blDs_inv e2 d] at s
        exact ⟨a, bs, rfl, s, fz_val w po (.bl _)⟩
      · cases h
    · cases h
  · cases h
theorem anyE {K : Fr} : CaE K cl E (rAny K) (allF fun bs => bs.any id) := by
  intro xs S z S' h q H vs Q w hx po
  unfold allF at h
  split at h
  · split at h
    · rename_i ds e
      split at h
      · rename_i bs e2
        cases h
        obtain ⟨v, rfl, r⟩ := dts1 hx
        obtain ⟨a, vs, rfl, s, d⟩ := lsS_inv e w r
        rw [blDs_inv e2 d] at s
        exact ⟨a, bs, rfl, s, fz_val w po (.bl _)⟩
      · cases h
    · cases h
  · cases h
/-! tuple(x), list(x) -/
def tupOfF (xs : List D) (S : ST) : Option (Rs D × ST) := match xs with
  | [x] => match sqS S x with
    | some ds => some (.ok (.tup ds), S)
    | none => none
  | _ => none
theorem tupOfE {K : Fr} : CaE K cl E (fun xs H Q => ∃ p ys, xs = [.ref p] ∧ ((SqL K H p ys ∧ ∀ l, H l = none → Q (.ref l) (upd H l (.tup ys))) ∨ (SqT K H p ys ∧ Q (.ref p) H))) tupOfF := by
  intro xs S z S' h q H vs Q w hx po
  unfold tupOfF at h
  split at h
  · split at h
    · rename_i ds e
      cases h
      obtain ⟨v, rfl, r⟩ := dts1 hx
      obtain ⟨a, vs, rfl, s, d⟩ := sqS_inv e w r
      rcases s with s | s
      · exact ⟨a, vs, rfl, .inl ⟨s, fun l hl => fz_tup w po hl d⟩⟩
      · exact ⟨a, vs, rfl, .inr ⟨s, fz_val w po (.tup s d)⟩⟩
    · cases h
  · cases h
end
/-- a call that makes a list, by values: what EO asks -/
def CaO (K : Fr) (cl : Cl) (E : XK) (r : List V → Hp → VK → Prop) (f : List D → ST → Option (Rs (List D) × ST)) : Prop :=
  ∀ xs S z S', f xs S = some (z, S') → ∀ q H vs Q, Wd K q S H → Dts K q S.length H vs xs → PostO K cl q S.length H E Q z S' → r vs H Q
def oCall (f : List D → ST → Option (Rs (List D) × ST)) (a : AM) : AM := fun g S => bd (a g S) f
section
variable {X : Cx} {cl : Cl} {E : XK} {e a b : Expr} {es : List Expr} {pos : Pos} {m ma mb : EM} {mr : AM}
theorem PostO.to {K : Fr} {q q1 : Nat → Addr} {n n1 : Nat} {H H1 : Hp} {Q : VK} {r : Rs (List D)} {S' : ST} (g : Gr q n H q1 n1 H1) (h : PostO K cl q n H E Q r S') : PostO K cl q1 n1 H1 E Q r S' := by
  cases r with
  | ok d => exact fun q' H' a vs g' w h0 ha hn hd => h q' H' a vs (g.trans g') w (g.free h0) ha hn hd
  | ex c fs => exact Post.to (Q := fun _ _ => False) (r := .ex c fs) g h
theorem eo_callP {x : Str} {p : Pos} {r : List V → Hp → VK → Prop} {f : List D → ST → Option (Rs (List D) × ST)} (hf : CaO X.K cl E r f)
    (ha : EA X cl E es mr) (hp : ∀ ta, PA X es ta → PE X (.Call (.Name x p) es [] pos) (tCB r ta)) : EO X cl E (.Call (.Name x p) es [] pos) (oCall f mr) := by
  obtain ⟨ta, pa, ea⟩ := ha
  refine ⟨_, hp ta pa, fun g S z S' h q s H Q w sl po => ?_⟩
  rcases bd_inv h with ⟨xs, S1, h1, h⟩ | ⟨c, fs, h1, rfl⟩
  · exact ea g S _ S1 h1 q s H _ w sl fun q1 H1 vs g1 w1 d1 => hf xs S1 z S' h q1 H1 vs Q w1 d1 (po.to g1)
  · exact ea g S _ S' h1 q s H _ w sl po
def lstOfF (xs : List D) (S : ST) : Option (Rs (List D) × ST) := match xs with
  | [x] => match sqS S x with
    | some ds => some (.ok ds, S)
    | none => none
  | _ => none
theorem lstOfO {K : Fr} : CaO K cl E (fun xs H Q => ∃ p ys, xs = [.ref p] ∧ (SqL K H p ys ∨ SqT K H p ys) ∧ ∀ l, H l = none → Q (.ref l) (upd H l (.lst ys))) lstOfF := by
  intro xs S z S' h q H vs Q w hx po
  unfold lstOfF at h
  split at h
  · split at h
    · rename_i ds e
      cases h
      obtain ⟨v, rfl, r⟩ := dts1 hx
      obtain ⟨a, vs, rfl, s, d⟩ := sqS_inv e w r
      exact ⟨a, vs, rfl, s, fun l hl => po q _ l vs (Gr.new hl) (w.new hl) hl upd_same (fun m hm => w.ne hl hm) (d.mono (Gr.new hl).ge)⟩
    · cases h
  · cases h
/-- a + b, both lists, as a list that was just made -/
def oCat (a b : EM) : AM := fun g S => bd (a g S) fun x S1 => bd (b g S1) fun y S2 => match lsT S2 x, lsT S2 y with
  | some a, some b => if few (a.length + b.length) = true then some (.ok (a ++ b), S2) else none
  | _, _ => none
theorem eo_cat (ha : EE X cl E a ma) (hb : EE X cl E b mb) : EO X cl E (.BinOp a .Add b pos) (oCat ma mb) := by
  obtain ⟨ta, pa, ea⟩ := ha
  obtain ⟨tb, pb, eb⟩ := hb
  refine ⟨_, pe_op op_catF pa pb, fun g S z S' h q s H Q w sl po => ?_⟩
  rcases bd_inv h with ⟨x, S1, h1, h⟩ | ⟨c, fs, h1, rfl⟩
  · refine ea g S _ S1 h1 q s H _ w sl fun q1 H1 vx g1 w1 d1 => ?_
    rcases bd_inv h with ⟨y, S2, h2, h⟩ | ⟨c, fs, h2, rfl⟩
    · refine eb g S1 _ S2 h2 q1 s H1 _ w1 (sl.mono g1) fun q2 H2 vy g2 w2 d2 => ?_
      split at h
      · rename_i a b e1 e2
        split at h
        · rename_i hf
          cases h
          obtain ⟨a, vs, rfl, s1, r1⟩ := lsT_inv e1 w2 (d1.mono g2.ge)
          obtain ⟨b, ws, rfl, s2, r2⟩ := lsT_inv e2 w2 d2
          exact ⟨_, _, _, _, rfl, rfl, s1, s2, by rw [r1.length, r2.length]; exact few_le hf, fun p hp =>
            po q2 _ p _ ((g1.trans g2).trans (Gr.new hp)) (w2.new hp) ((g1.trans g2).free hp) upd_same (fun m hm => w2.ne hp hm) ((r1.append r2).mono (Gr.new hp).ge)⟩
        · cases h
      · cases h
    · exact eb g S1 _ S' h2 q1 s H1 _ w1 (sl.mono g1) (Post.to (Q := fun _ _ => False) (r := .ex c fs) g1 po)
  · exact ea g S _ S' h1 q s H _ w sl (Post.ex (Q := fun _ _ => False) po)
/-! ### isinstance with built-in classes -/
def stT (S : ST) (n : Nat) : Option String := match S[n]? with
  | some (.lst _) => some "list"
  | some (.dic _) => some "dict"
  | _ => none
def tyD (S : ST) : D → Option String
  | .non => some "NoneType"
  | .bl _ => some "bool"
  | .int _ => some "int"
  | .str _ => some "str"
  | .tup _ => some "tuple"
  | .lst _ => some "list"
  | .kls _ => some "list"
  | .dic _ => some "dict"
  | .ptr n => stT S n
  | .cst _ => none
  | .ins _ _ => none
  | .fn _ => none
  | .exc _ _ _ => none
def isaB (t c : String) : Bool := t == c || (t == "bool" && c == "int")
theorem tyD_inv {K : Fr} {q : Nat → Addr} {S : ST} {H : Hp} {v : V} {d : D} {t : String} (h : tyD S d = some t) (w : Wd K q S H) (r : Dt K q S.length H v d) :
    TyX K H v (.type t) ∧ (t = "NoneType" ∨ t = "bool" ∨ t = "int" ∨ t = "str" ∨ t = "tuple" ∨ t = "list" ∨ t = "dict") := by
  cases r with
  | non => cases h; exact ⟨.base .non, by simp⟩
  | bl b => cases h; exact ⟨.base (.bl b), by simp⟩
  | int b => cases h; exact ⟨.base (.int b), by simp⟩
  | str b => cases h; exact ⟨.base (.str b), by simp⟩
  | tup s _ =>
    cases h
    refine ⟨?_, by simp⟩
    rcases s with (s | ⟨o, s⟩) | ⟨o, its, n, e1, e2, _⟩
    · exact .base (.tup s)
    · exact .fTuple s
    · exact .kTuple e1 e2
  | lst s _ => cases h; exact ⟨.base (.frz s), by simp⟩
  | kls s _ =>
    cases h
    refine ⟨?_, by simp⟩
    rcases s with ⟨o, s⟩ | ⟨o, its, n, e1, e2, _⟩
    · exact .base (.frz s)
    · exact .kList e1 e2
  | dic s _ => cases h; exact ⟨.fDict s, by simp⟩
  | @ptr m hm =>
    have h' : stT S m = some t := h
    unfold stT at h'
    split at h'
    · rename_i e
      cases h'
      obtain ⟨vs, e1, _⟩ := w.ob m _ e
      exact ⟨.base (.lst e1), by simp⟩
    · rename_i e
      cases h'
      obtain ⟨vs, e1, _⟩ := w.ob m _ e
      exact ⟨.base (.dK e1), by simp⟩
    · cases h'
  | cst => cases h
  | ins _ _ => cases h
  | fn => cases h
  | exc _ _ _ _ => cases h
/-- the classes that are asked for here -/
def asked (c : String) : Bool := c == "int" || c == "bool" || c == "str" || c == "tuple" || c == "list" || c == "dict"
theorem kit_isa {K : Fr} {t c : String} (ht : t = "NoneType" ∨ t = "bool" ∨ t = "int" ∨ t = "str" ∨ t = "tuple" ∨ t = "list" ∨ t = "dict") (hc : asked c = true) : PySem.W.kitOne K (.type t) (.type c) = some (isaB t c) := by
  simp only [asked, Bool.or_eq_true, beq_iff_eq] at hc
  refine kit_ty ?_
  rcases ht with rfl | rfl | rfl | rfl | rfl | rfl | rfl <;> rcases hc with ((((rfl | rfl) | rfl) | rfl) | rfl) | rfl <;> decide +kernel
def isiF (cs : List String) (x : D) (S : ST) : Option (Rs D × ST) := match tyD S x with
  | some t => some (.ok (.bl (cs.any (isaB t))), S)
  | none => none
theorem kit_any {K : Fr} {t : String} (ht : t = "NoneType" ∨ t = "bool" ∨ t = "int" ∨ t = "str" ∨ t = "tuple" ∨ t = "list" ∨ t = "dict") : ∀ {cs : List String}, cs.all asked = true → PySem.W.kitAny K (.type t) (cs.map Value.type) = some (cs.any (isaB t))
  | [], _ => kitAny_nil
  | c :: cs, h => by
    rw [List.all_cons, Bool.and_eq_true] at h
    refine kitAny_cons (kit_isa ht h.1) (fun e => ?_) fun e => ?_
    · rw [List.any_cons, e, Bool.false_or]; exact kit_any ht h.2
    · rw [List.any_cons, e]; rfl
theorem ee_isi {p p1 : Pos} {c : Str} {cs : String} (ha : EE X cl E a ma) (hg : Gl X "isinstance") (hm : X.mg "isinstance" = none) (hv : bootBuiltins "isinstance" = some (.builtin "isinstance")) (gc : Gl X c) (mc : X.mg c = none) (vc : bootBuiltins c = some (.type cs))
    (hc : asked cs = true) (hn : c ≠ "__name__") (hd : (c == ("__debug__" : Str)) = false)
    (hst : starEach [a, .Name c p1] X.env = (false, eval a X.env) :: starEach [.Name c p1] X.env := by rfl) (hpl : (backTo pos (starEach [.Name c p1] X.env)).any (·.1) = false := by rfl) (hs2 : starEach [.Name c p1] X.env = (false, eval (.Name c p1) X.env) :: starEach [] X.env := by rfl) :
    EE X cl E (.Call (.Name "isinstance" p) [a, .Name c p1] [] pos) (eUn (isiF [cs]) ma) := by
  obtain ⟨ta, pa, ea⟩ := ha
  refine ⟨_, pe_callB call_isi hg hm hv (pa_cons pa (pa_cons (pe_bltn (v := .ty cs) gc mc vc rfl hn hd) pa_nil hs2) hst) (by decide) (by decide) hst hpl, fun g S z S' h q s H Q w sl po => ?_⟩
  rcases bd_inv h with ⟨x, S1, h1, h⟩ | ⟨c, fs, h1, rfl⟩
  · refine ea g S _ S1 h1 q s H _ w sl fun q1 H1 vx g1 w1 d1 => ?_
    unfold isiF at h
    split at h
    · rename_i t e
      cases h
      obtain ⟨ty, ht⟩ := tyD_inv e w1 d1
      refine ⟨vx, .ty cs, .type t, .type cs, _, rfl, .ty cs, ty, kit_isa ht hc, po q1 H1 _ g1 w1 ?_⟩
      rw [List.any_cons, List.any_nil, Bool.or_false]
      exact .bl _
    · cases h
  · exact ea g S _ S' h1 q s H _ w sl (Post.ex (Q := Q) po)
theorem ee_isi2 {p p1 p2 p3 : Pos} {k3} {c d : Str} {cs ds : String} (ha : EE X cl E a ma) (hg : Gl X "isinstance") (hm : X.mg "isinstance" = none) (hv : bootBuiltins "isinstance" = some (.builtin "isinstance"))
    (gc : Gl X c) (mc : X.mg c = none) (vc : bootBuiltins c = some (.type cs)) (hc : asked cs = true) (hn : c ≠ "__name__") (hd : (c == ("__debug__" : Str)) = false)
    (gd : Gl X d) (md : X.mg d = none) (vd : bootBuiltins d = some (.type ds)) (hc2 : asked ds = true) (hn2 : d ≠ "__name__") (hd2 : (d == ("__debug__" : Str)) = false)
    (hst : starEach [a, .Tuple [.Name c p1, .Name d p2] k3 p3] X.env = (false, eval a X.env) :: starEach [.Tuple [.Name c p1, .Name d p2] k3 p3] X.env := by rfl) (hpl : (backTo pos (starEach [.Tuple [.Name c p1, .Name d p2] k3 p3] X.env)).any (·.1) = false := by rfl)
    (hs2 : starEach [.Tuple [.Name c p1, .Name d p2] k3 p3] X.env = (false, eval (.Tuple [.Name c p1, .Name d p2] k3 p3) X.env) :: starEach [] X.env := by rfl)
    (hs3 : starEach [.Name c p1, .Name d p2] X.env = (false, eval (.Name c p1) X.env) :: starEach [.Name d p2] X.env := by rfl) (hs4 : starEach [.Name d p2] X.env = (false, eval (.Name d p2) X.env) :: starEach [] X.env := by rfl) :
    EE X cl E (.Call (.Name "isinstance" p) [a, .Tuple [.Name c p1, .Name d p2] k3 p3] [] pos) (eUn (isiF [cs, ds]) ma) := by
  obtain ⟨ta, pa, ea⟩ := ha
  refine ⟨_, pe_callB call_isiT hg hm hv (pa_cons pa (pa_cons (pe_tup (pa_cons (pe_bltn (v := .ty cs) gc mc vc rfl hn hd) (pa_cons (pe_bltn (v := .ty ds) gd md vd rfl hn2 hd2) pa_nil hs4) hs3)) pa_nil hs2) hst) (by decide) (by decide) hst hpl, fun g S z S' h q s H Q w sl po => ?_⟩
  rcases bd_inv h with ⟨x, S1, h1, h⟩ | ⟨c, fs, h1, rfl⟩
  · refine ea g S _ S1 h1 q s H _ w sl fun q1 H1 vx g1 w1 d1 => ?_
    unfold isiF at h
    split at h
    · rename_i t e
      cases h
      refine ⟨by show 2 ≤ sizeLine; decide, fun p hp => ?_⟩
      obtain ⟨ty, ht⟩ := tyD_inv e (w1.new (o := .tup [.ty cs, .ty ds]) hp) (d1.mono (Gr.new hp).ge)
      refine ⟨vx, p, [.ty cs, .ty ds], .type t, [.type cs, .type ds], _, rfl, upd_same, .cons (.ty cs) (.cons (.ty ds) .nil), ty, kit_any ht (cs := [cs, ds]) (by rw [List.all_cons, List.all_cons, hc, hc2]; rfl), ?_⟩
      exact po q1 _ _ (g1.trans (Gr.new hp)) (w1.new hp) (.bl _)
    · cases h
  · exact ea g S _ S' h1 q s H _ w sl (Post.ex (Q := Q) po)
end
end U

set_option Elab.async false
set_option linter.all false
set_option maxRecDepth 100000
set_option maxHeartbeats 1000000
namespace U
open PySem L2
/-! ### the readings that hang on the mirror alone -/
def rdE (K : Fr) (cl : Cl) (E : XK) (m : EM) : TE := fun s H Q => ∃ g S r S' q, m g S = some (r, S') ∧ Wd K q S H ∧ Sl K q S.length H s g ∧ Post K cl q S.length H E Q r S'
def rdT (K : Fr) (cl : Cl) (E : XK) (m : BM) : TT := fun s H Q => ∃ g S r S' q, m g S = some (r, S') ∧ Wd K q S H ∧ Sl K q S.length H s g ∧ PostB K cl q S.length H E Q r S'
section
variable {X : Cx} {cl : Cl} {E : XK} {e a b : Expr} {es : List Expr} {pos : Pos} {m ma mb : EM} {mr : AM} {t : BM}
theorem EE.pe (h : EE X cl E e m) : PE X e (rdE X.K cl E m) := by
  obtain ⟨te, pe, ee⟩ := h
  exact ⟨fun pins s σ H Q I ⟨g, S, r, S', q, h, w, sl, po⟩ => pe.run pins s σ H Q I (ee g S r S' h q σ H Q w sl po)⟩
theorem ET.pt (h : ET X cl E e t) : PT X e (rdT X.K cl E t) := by
  obtain ⟨te, pe, ee⟩ := h
  exact ⟨fun pins s σ H Q I ⟨g, S, r, S', q, h, w, sl, po⟩ => pe.run pins s σ H Q I (ee g S r S' h q σ H Q w sl po)⟩
/-! ### methods of lists and texts, by values -/
def MtE (K : Fr) (cl : Cl) (E : XK) (r : V → List V → Hp → VK → Prop) (f : D → List D → ST → Option (Rs D × ST)) : Prop :=
  ∀ x xs S z S', f x xs S = some (z, S') → ∀ q H v vs Q, Wd K q S H → Dt K q S.length H v x → Dts K q S.length H vs xs → Post K cl q S.length H E Q z S' → r v vs H (Fz Q)
/-- the receiver's class, as far as methods ask it -/
def rcv (T : String) (S : ST) (d : D) : Bool := match d with
  | .str _ => T == "str"
  | d => T == "list" && (lsS S d).isSome
def eMt (T : String) (f : D → List D → ST → Option (Rs D × ST)) (a : EM) (r : AM) : EM := fun g S => bd (a g S) fun x S1 => if rcv T S1 x = true then bd (r g S1) fun xs S2 => f x xs S2 else none
theorem rcv_ty {K : Fr} {q : Nat → Addr} {S : ST} {H : Hp} {v : V} {d : D} {T : String} (h : rcv T S d = true) (w : Wd K q S H) (r : Dt K q S.length H v d) : tyV K T v H := by
  unfold rcv at h
  split at h
  · obtain rfl := r.str_inv
    exact beq_iff_eq.mp h
  · rw [Bool.and_eq_true] at h
    obtain ⟨h1, h2⟩ := h
    obtain ⟨ds, e⟩ := Option.isSome_iff_exists.mp h2
    obtain ⟨a, vs, rfl, s, _⟩ := lsS_inv e w r
    exact .inl ⟨beq_iff_eq.mp h1, vs, s⟩
theorem ee_mt {T id : String} {name : Str} {r : V → List V → Hp → VK → Prop} {f : D → List D → ST → Option (Rs D × ST)} (hf : MtE X.K cl E r f) (ha : EE X cl E a ma) (hr : EA X cl E es mr)
    {apos : Pos} (hp : ∀ ta tr, PE X a ta → PA X es tr → PE X (.Call (.Attribute a name apos) es [] pos) (tBM X.K T r ta tr)) : EE X cl E (.Call (.Attribute a name apos) es [] pos) (eMt T f ma mr) := by
  obtain ⟨ta, pa, ea⟩ := ha
  obtain ⟨tr, pr, er⟩ := hr
  refine ⟨_, pe_fz (hp ta tr pa pr), fun g S z S' h q s H Q w sl po => ?_⟩
  rcases bd_inv h with ⟨x, S1, h1, h⟩ | ⟨c, fs, h1, rfl⟩
  · refine ea g S _ S1 h1 q s H _ w sl fun q1 H1 vx g1 w1 d1 => ?_
    split at h
    · rename_i hty
      refine ⟨rcv_ty hty w1 d1, ?_⟩
      rcases bd_inv h with ⟨xs, S2, h2, h⟩ | ⟨c, fs, h2, rfl⟩
      · refine er g S1 _ S2 h2 q1 s H1 _ w1 (sl.mono g1) fun q2 H2 vy g2 w2 d2 => ?_
        exact hf x xs S2 z S' h q2 H2 vx vy Q w2 (d1.mono g2.ge) d2 (po.to (g1.trans g2))
      · exact er g S1 _ S' h2 q1 s H1 _ w1 (sl.mono g1) (Post.ex (Q := Q) (Q' := fun _ _ => False) (po.to g1))
    · cases h
  · exact ea g S _ S' h1 q s H _ w sl (Post.ex (Q := Q) po)
def appF (x : D) (xs : List D) (S : ST) : Option (Rs D × ST) := match x, xs with
  | .ptr n, [d] => match stL S n with
    | some ds => if few (ds.length + 1) = true then some (.ok .non, S.set n (.lst (ds ++ [d]))) else none
    | none => none
  | _, _ => none
theorem Dt.ptr_inv {K : Fr} {q : Nat → Addr} {n m : Nat} {H : Hp} {v : V} (h : Dt K q n H v (.ptr m)) : v = .ref (q m) ∧ m < n := by
  cases h with
  | ptr hm => exact ⟨rfl, hm⟩
/-- a place of the store is written, as a Post sees it -/
theorem post_wr {K : Fr} {q : Nat → Addr} {S : ST} {H : Hp} {Q : VK} {m : Nat} {o u : HO} {x : MO} {d : D} {v : V} (w : Wd K q S H) (hm : m < S.length) (ha : H (q m) = some u) (hu : Mut (some u)) (hx : MOk K q S.length (upd H (q m) o) (q m) x)
    (hd : Dt K q S.length (upd H (q m) o) v d) (po : Post K cl q S.length H E Q (.ok d) (S.set m x)) : Q v (upd H (q m) o) := by
  have e : (S.set m x).length = S.length := List.length_set
  refine po q _ v ?_ (w.wr hm ha hu hx) ?_
  · rw [e]; exact Gr.wr hm ha hu
  · rw [e]; exact hd
theorem appE {K : Fr} : MtE K cl E rAppend appF := by
  intro x xs S z S' h q H v vs Q w hx hy po
  unfold appF at h
  split at h
  · split at h
    · rename_i ds e
      split at h
      · rename_i hf
        cases h
        obtain ⟨rfl, hm⟩ := hx.ptr_inv
        obtain ⟨u, rfl, r⟩ := dts1 hy
        obtain ⟨ws, e1, r1⟩ := w.ob _ _ (stL_some e)
        refine ⟨_, ws, u, rfl, rfl, e1, ?_, .inl (post_wr (x := .lst _) w hm e1 trivial ⟨_, upd_same, (r1.append (.cons r .nil)).mono (Ge.wr e1 trivial)⟩ .non po)⟩
        rw [r1.length]
        exact Nat.lt_of_lt_of_le (Nat.lt_succ_self _) (few_le hf)
      · cases h
    · cases h
  · cases h
theorem ee_append {apos : Pos} (ha : EE X cl E a ma) (hr : EA X cl E [e] mr) (hbase : attributeBase a "append" X.env (eval a X.env) = eval a X.env := by rfl)
    (hfew : ((backTo pos (starEach [e] X.env)).all (fun x => !x.1) && (backToKw pos (keywordEach [] X.env)).all (fun x => x.1.isSome) && decide ([e].length + ([] : List Keyword).length + (if ([] : List Keyword).isEmpty then 0 else 1) < 30)) = true := by rfl)
    (hline : (apos.endLine == pos.line) = true := by rfl) (hs : starEach [e] X.env = (false, eval e X.env) :: starEach [] X.env := by rfl) : EE X cl E (.Call (.Attribute a "append" apos) [e] [] pos) (eMt "list" appF ma mr) :=
  ee_mt (T := "list") (id := "list.append") appE ha hr fun ta tr pa pr => pe_bm PySem.F.plainAttrs_list PySem.F.slot_list_append PySem.F.type_list_append mt_append pa pr hbase hfew hline hs
end
/-! ### statements -/
inductive Out where
  | nx (g : EV) | bk (g : EV) | ct (g : EV) | rt (d : D) | ex (c : Str) (fs : List (Str × D))
abbrev SM := EV → ST → Option (Out × ST)
def SPost (K : Fr) (cl : Cl) (q : Nat → Addr) (n : Nat) (H : Hp) (E : XK) (D : Ends) (o : Out) (S' : ST) : Prop :=
  match o with
  | .nx g => ∀ q' H' s', Gr q n H q' S'.length H' → Wd K q' S' H' → Sl K q' S'.length H' s' g → D.nx s' H'
  | .bk g => ∀ q' H' s', Gr q n H q' S'.length H' → Wd K q' S' H' → Sl K q' S'.length H' s' g → D.bk s' H'
  | .ct g => ∀ q' H' s', Gr q n H q' S'.length H' → Wd K q' S' H' → Sl K q' S'.length H' s' g → D.ct s' H'
  | .rt d => ∀ q' H' v, Gr q n H q' S'.length H' → Wd K q' S' H' → Dt K q' S'.length H' v d → D.rt v H'
  | .ex c fs => Post K cl q n H E (fun _ _ => False) (.ex c fs) S'
theorem SPost.to {K : Fr} {cl : Cl} {q q1 : Nat → Addr} {n n1 : Nat} {H H1 : Hp} {E : XK} {D : Ends} {o : Out} {S' : ST} (g : Gr q n H q1 n1 H1) (h : SPost K cl q n H E D o S') : SPost K cl q1 n1 H1 E D o S' := by
  cases o with
  | nx _ => exact fun q' H' s' g' w sl => h q' H' s' (g.trans g') w sl
  | bk _ => exact fun q' H' s' g' w sl => h q' H' s' (g.trans g') w sl
  | ct _ => exact fun q' H' s' g' w sl => h q' H' s' (g.trans g') w sl
  | rt d => exact fun q' H' v g' w hd => h q' H' v (g.trans g') w hd
  | ex c fs => exact Post.to (Q := fun _ _ => False) (r := .ex c fs) g h
structure ES (X : Cx) (cl : Cl) (E : XK) (st : Stmt) (m : SM) : Prop where
  ex : ∃ ts, PS X st ts ∧ ∀ g S o S', m g S = some (o, S') → ∀ q s H D, Wd X.K q S H → Sl X.K q S.length H s g → SPost X.K cl q S.length H E D o S' → ts D s H
structure ESs (X : Cx) (cl : Cl) (E : XK) (st : List Stmt) (m : SM) : Prop where
  ex : ∃ ts, PSs X st ts ∧ ∀ g S o S', m g S = some (o, S') → ∀ q s H D, Wd X.K q S H → Sl X.K q S.length H s g → SPost X.K cl q S.length H E D o S' → ts D s H
/-- an expression's answer, then a statement's -/
def bs {α : Type} (x : Option (Rs α × ST)) (f : α → ST → Option (Out × ST)) : Option (Out × ST) :=
  match x with
  | some (.ok a, S) => f a S
  | some (.ex c fs, S) => some (.ex c fs, S)
  | none => none
@[simp] theorem bs_ok {α : Type} {a : α} {S : ST} {f : α → ST → Option (Out × ST)} : bs (some (.ok a, S)) f = f a S := rfl
@[simp] theorem bs_ex {α : Type} {c : Str} {fs : List (Str × D)} {S : ST} {f : α → ST → Option (Out × ST)} : bs (some (.ex c fs, S)) f = some (.ex c fs, S) := rfl
@[simp] theorem bs_none {α : Type} {f : α → ST → Option (Out × ST)} : bs none f = none := rfl
theorem bs_inv {α : Type} {x : Option (Rs α × ST)} {f : α → ST → Option (Out × ST)} {r : Out} {S' : ST} (h : bs x f = some (r, S')) :
    (∃ a S1, x = some (.ok a, S1) ∧ f a S1 = some (r, S')) ∨ ∃ c fs, x = some (.ex c fs, S') ∧ r = .ex c fs := by
  cases x with
  | none => cases h
  | some p =>
    obtain ⟨z, S1⟩ := p
    cases z with
    | ok a => exact .inl ⟨a, S1, rfl, h⟩
    | ex c fs => cases h; exact .inr ⟨c, fs, rfl, rfl⟩
def sSkip : SM := fun g S => some (.nx g, S)
def sSeq (a b : SM) : SM := fun g S => match a g S with
  | some (.nx g1, S1) => b g1 S1
  | r => r
def sRet (a : EM) : SM := fun g S => bs (a g S) fun d S1 => some (.rt d, S1)
def sRetN : SM := fun _ S => some (.rt .non, S)
def sDrop (a : EM) : SM := fun g S => bs (a g S) fun _ S1 => some (.nx g, S1)
def sIf (t : BM) (a b : SM) : SM := fun g S => bs (t g S) fun c S1 => if c = true then a g S1 else b g S1
def sBrk : SM := fun g S => some (.bk g, S)
def sCnt : SM := fun g S => some (.ct g, S)
def sNo : SM := fun _ _ => none
/-- targets -/
abbrev GM := D → EV → ST → Option (EV × ST)
def sAsg (a : EM) (t : GM) : SM := fun g S => bs (a g S) fun d S1 => match t d g S1 with
  | some (g2, S2) => some (.nx g2, S2)
  | none => none
/-- the slots at ix alone may be others -/
def But (ix : List Nat) (s s' : L2.St) : Prop := s'.length = s.length ∧ ∀ j, j ∉ ix → s'[j]? = s[j]?
structure EG (X : Cx) (tg : Expr) (ix : List Nat) (f : GM) : Prop where
  ex : ∃ tt, PG X tg tt ∧ ∀ d g S g' S', f d g S = some (g', S') → ∀ q s H v Q, Wd X.K q S H → Sl X.K q S.length H s g → Dt X.K q S.length H v d →
    (∀ q' H' s', Gr q S.length H q' S'.length H' → Wd X.K q' S' H' → Sl X.K q' S'.length H' s' g' → But ix s s' → Q s' H') → tt v s H Q
def rdG (K : Fr) (ix : List Nat) (f : GM) : TG := fun v s H Q => ∃ d g S g' S' q, f d g S = some (g', S') ∧ Wd K q S H ∧ Sl K q S.length H s g ∧ Dt K q S.length H v d ∧
  ∀ q' H' s', Gr q S.length H q' S'.length H' → Wd K q' S' H' → Sl K q' S'.length H' s' g' → But ix s s' → Q s' H'
theorem EG.pg {X : Cx} {tg : Expr} {ix : List Nat} {f : GM} (h : EG X tg ix f) : PG X tg (rdG X.K ix f) := by
  obtain ⟨tt, pg, eg⟩ := h
  exact ⟨fun pins s σ H v u Q I r ⟨d, g, S, g', S', q, h, w, sl, hd, k⟩ => pg.run pins s σ H v u Q I r (eg d g S g' S' h q σ H v Q w sl hd k)⟩
def gVar (i : Nat) : GM := fun d g S => some (g.set i (some d), S)
section
variable {X : Cx} {cl : Cl} {E : XK} {e a b c : Expr} {es : List Expr} {pos : Pos} {m ma mb : EM} {mr : AM} {t : BM} {st : Stmt} {sts sts2 : List Stmt} {ms mt : SM}
theorem ss_nil : ESs X cl E [] sSkip := by
  refine ⟨_, pss_nil, fun g S o S' h q s H D w sl po => ?_⟩
  cases h
  exact po q H s Gr.refl w sl
theorem ss_cons (h1 : ES X cl E st ms) (h2 : ESs X cl E sts mt) : ESs X cl E (st :: sts) (sSeq ms mt) := by
  obtain ⟨t1, p1, e1⟩ := h1
  obtain ⟨t2, p2, e2⟩ := h2
  refine ⟨_, pss_cons p1 p2, fun g S o S' h q s H D w sl po => ?_⟩
  unfold sSeq at h
  split at h
  · rename_i g1 S1 h1
    exact e1 g S _ S1 h1 q s H _ w sl fun q1 H1 s1 g1' w1 sl1 => e2 _ S1 o S' h q1 s1 H1 D w1 sl1 (po.to g1')
  · rename_i hn
    refine e1 g S o S' h q s H _ w sl ?_
    cases o with
    | nx g1 => exact absurd h (hn g1 S')
    | bk _ => exact po
    | ct _ => exact po
    | rt _ => exact po
    | ex _ _ => exact po
theorem ss_one (h1 : ES X cl E st ms) : ESs X cl E [st] ms := by
  obtain ⟨t1, p1, e1⟩ := h1
  exact ⟨_, pss_one p1, e1⟩
theorem st_ret (h : EE X cl E e m) : ES X cl E (.Return (some e) pos) (sRet m) := by
  obtain ⟨ta, pa, ea⟩ := h
  refine ⟨_, ps_ret pa, fun g S o S' h q s H D w sl po => ?_⟩
  rcases bs_inv h with ⟨x, S1, h1, h⟩ | ⟨c, fs, h1, rfl⟩
  · cases h
    exact ea g S _ _ h1 q s H _ w sl fun q1 H1 v g1 w1 d1 => po q1 H1 v g1 w1 d1
  · exact ea g S _ S' h1 q s H _ w sl (Post.ex (Q := fun _ _ => False) po)
theorem st_retN : ES X cl E (.Return none pos) sRetN := by
  refine ⟨_, ps_retN, fun g S o S' h q s H D w sl po => ?_⟩
  cases h
  exact po q H .non Gr.refl w .non
theorem st_pass : ES X cl E (.Pass pos) sSkip := by
  refine ⟨_, ps_pass, fun g S o S' h q s H D w sl po => ?_⟩
  cases h
  exact po q H s Gr.refl w sl
theorem st_brk : ES X cl E (.Break pos) sBrk := by
  refine ⟨_, ps_break, fun g S o S' h q s H D w sl po => ?_⟩
  cases h
  exact po q H s Gr.refl w sl
theorem st_cnt : ES X cl E (.Continue pos) sCnt := by
  refine ⟨_, ps_continue, fun g S o S' h q s H D w sl po => ?_⟩
  cases h
  exact po q H s Gr.refl w sl
/-- code that the mirror never comes to -/
theorem st_no : ES X cl E st sNo := ⟨_, ps_never, fun _ _ _ _ h => nomatch h⟩
theorem st_drop (h : EE X cl E e m) (hs : swapsWith e none pos.line X.env = pure false := by rfl) : ES X cl E (.Expr e pos) (sDrop m) := by
  obtain ⟨ta, pa, ea⟩ := h
  refine ⟨_, ps_expr pa hs, fun g S o S' h q s H D w sl po => ?_⟩
  rcases bs_inv h with ⟨x, S1, h1, h⟩ | ⟨c, fs, h1, rfl⟩
  · cases h
    exact ea g S _ _ h1 q s H _ w sl fun q1 H1 v g1 w1 d1 => po q1 H1 s g1 w1 (sl.mono g1)
  · exact ea g S _ S' h1 q s H _ w sl (Post.ex (Q := fun _ _ => False) po)
theorem st_if (ht : ET X cl E c t) (ha : ESs X cl E sts ms) (hb : ESs X cl E sts2 mt) : ES X cl E (.If c sts sts2 pos) (sIf t ms mt) := by
  obtain ⟨tt, pt, et⟩ := ht
  obtain ⟨ta, pa, ea⟩ := ha
  obtain ⟨tb, pb, eb⟩ := hb
  refine ⟨_, ps_if pt pa pb, fun g S o S' h q s H D w sl po => ?_⟩
  rcases bs_inv h with ⟨k, S1, h1, h⟩ | ⟨c, fs, h1, rfl⟩
  · refine et g S _ S1 h1 q s H _ w sl fun q1 H1 g1 w1 => ?_
    cases k with
    | true => exact ea g S1 o S' h q1 s H1 D w1 (sl.mono g1) (po.to g1)
    | false => exact eb g S1 o S' h q1 s H1 D w1 (sl.mono g1) (po.to g1)
  · exact et g S _ S' h1 q s H _ w sl po
/-! names as targets -/
theorem eg_var (i : Nat) {x : Str} (hN : X.N.Nodup) (hi : X.N[i]? = some x := by rfl) (hx : Loc X.env.scope x := by first | exact Or.inl rfl | exact Or.inr rfl) (hf : X.fn x = true ∨ X.env.scope.names.lookup x = some .local := by first | exact .inl rfl | exact .inr rfl) : EG X (.Name x pos) [i] (gVar i) := by
  refine ⟨_, pg_name (i := i) hN hi hx hf, fun d g S g' S' h q s H v Q w sl hd k => ?_⟩
  cases h
  refine k q H _ Gr.refl w (sl.set i hd) ⟨by simp, fun j hj => ?_⟩
  rw [List.getElem?_set_ne (fun e => hj (by simp [e]))]
theorem st_set (i : Nat) {x : Str} {pos' : Pos} (hN : X.N.Nodup) (h : EE X cl E e m) (hi : X.N[i]? = some x := by rfl) (hx : Loc X.env.scope x := by first | exact Or.inl rfl | exact Or.inr rfl) (hs : swapsWith e (some (.Name x pos')) pos.line X.env = pure false := by rfl)
    (hf : X.fn x = true ∨ X.env.scope.names.lookup x = some .local := by first | exact .inl rfl | exact .inr rfl) : ES X cl E (.Assign [.Name x pos'] e pos) (sAsg m (gVar i)) := by
  obtain ⟨ta, pa, ea⟩ := h
  refine ⟨_, ps_set (i := i) hN hi hx pa hs hf, fun g S o S' h q s H D w sl po => ?_⟩
  rcases bs_inv h with ⟨x, S1, h1, h⟩ | ⟨c, fs, h1, rfl⟩
  · cases h
    exact ea g S _ _ h1 q s H _ w sl fun q1 H1 v g1 w1 d1 => po q1 H1 _ g1 w1 ((sl.mono g1).set i d1)
  · exact ea g S _ S' h1 q s H _ w sl (Post.ex (Q := fun _ _ => False) po)
theorem st_asg {tg : Expr} {ix : List Nat} {f : GM} (h : EE X cl E e m) (hg : EG X tg ix f) (hs : swapsWithSole [tg] e pos.line X.env = pure false := by rfl) (hw : swappedStores [tg] e X.env = pure none := by rfl) (h1 : (assignEach [tg] X.env).map (·.2) = [assign tg X.env] := by rfl) :
    ES X cl E (.Assign [tg] e pos) (sAsg m f) := by
  obtain ⟨ta, pa, ea⟩ := h
  obtain ⟨tg', pg, eg⟩ := hg
  refine ⟨_, ps_asg pa pg hs hw h1, fun g S o S' h q s H D w sl po => ?_⟩
  rcases bs_inv h with ⟨x, S1, h1, h⟩ | ⟨c, fs, h1, rfl⟩
  · refine ea g S _ _ h1 q s H _ w sl fun q1 H1 v g1 w1 d1 => ?_
    split at h
    · rename_i g2 S2 h2
      cases h
      exact eg x g S1 g2 _ h2 q1 s H1 v _ w1 (sl.mono g1) d1 fun q2 H2 s2 gr w2 sl2 _ => po q2 H2 s2 (g1.trans gr) w2 sl2
    · cases h
  · exact ea g S _ S' h1 q s H _ w sl (Post.ex (Q := fun _ _ => False) po)
/-- a, b = x, y with plain local names -/
def sPar (i j : Nat) (a b : EM) : SM := fun g S => bs (a g S) fun x S1 => bs (b g S1) fun y S2 => some (.nx ((g.set i (some x)).set j (some y)), S2)
theorem st_par (i j : Nat) {x y : Str} {px py pt pt2 : Pos} {kt k2} (hc : X.calm = true) (hN : X.N.Nodup) (ha : EE X cl E a ma) (hb : EE X cl E b mb) (hij : i ≠ j := by decide) (hi : X.N[i]? = some x := by rfl) (hj : X.N[j]? = some y := by rfl)
    (hx : X.env.scope.names.lookup x = some .local := by rfl) (hy : X.env.scope.names.lookup y = some .local := by rfl)
    (hw : swappedStores [.Tuple [.Name x px, .Name y py] kt pt] (.Tuple [a, b] k2 pt2) X.env = pure (some [x, y]) := by rfl) (hs : swapsWithSole [.Tuple [.Name x px, .Name y py] kt pt] (.Tuple [a, b] k2 pt2) pos.line X.env = pure false := by rfl)
    (hs1 : starEach [a, b] X.env = (false, eval a X.env) :: starEach [b] X.env := by rfl) (hs2 : starEach [b] X.env = (false, eval b X.env) :: starEach [] X.env := by rfl) :
    ES X cl E (.Assign [.Tuple [.Name x px, .Name y py] kt pt] (.Tuple [a, b] k2 pt2) pos) (sPar i j ma mb) := by
  obtain ⟨ta, pa, ea⟩ := ha
  obtain ⟨tb, pb, eb⟩ := hb
  refine ⟨_, ps_par hc hN hi hj hij hx hy (pa_cons pa (pa_cons pb pa_nil hs2) hs1) hw hs, fun g S o S' h q s H D w sl po => ?_⟩
  rcases bs_inv h with ⟨x, S1, h1, h⟩ | ⟨c, fs, h1, rfl⟩
  · refine ea g S _ _ h1 q s H _ w sl fun q1 H1 v g1 w1 d1 => ?_
    rcases bs_inv h with ⟨y, S2, h2, h⟩ | ⟨c, fs, h2, rfl⟩
    · cases h
      refine eb g S1 _ _ h2 q1 s H1 _ w1 (sl.mono g1) fun q2 H2 u g2 w2 d2 => ?_
      exact ⟨v, u, rfl, po q2 H2 _ (g1.trans g2) w2 (((sl.mono (g1.trans g2)).set i (d1.mono g2.ge)).set j d2)⟩
    · exact eb g S1 _ S' h2 q1 s H1 _ w1 (sl.mono g1) (Post.to (Q := fun _ _ => False) (r := .ex c fs) g1 po)
  · exact ea g S _ S' h1 q s H _ w sl (Post.ex (Q := fun _ _ => False) po)
end
end U

set_option Elab.async false
set_option linter.all false
set_option maxRecDepth 100000
set_option maxHeartbeats 1000000
namespace U
open PySem L2
/-! ### what is walked -/
/-- J walks the things ds, whatever goes on -/
def Wk (K : Fr) (q : Nat → Addr) (n : Nat) (H : Hp) (J : It) (ds : List D) : Prop :=
  ∀ q2 n2 H2, Ge q n H q2 n2 H2 → ∀ i, (∀ d, ds[i]? = some d → J.go i H2 ∧ ∀ x H3, J.yld i H2 x H3 → Gr q2 n2 H2 q2 n2 H3 ∧ (∀ S, S.length = n2 → Wd K q2 S H2 → Wd K q2 S H3) ∧ Dt K q2 n2 H3 x d) ∧ (i = ds.length → J.stop i H2)
def PostI (K : Fr) (cl : Cl) (q : Nat → Addr) (n : Nat) (H : Hp) (E : XK) (R : It → Hp → Prop) (r : Rs (List D)) (S' : ST) : Prop :=
  match r with
  | .ok ds => ∀ q' H' J, Gr q n H q' S'.length H' → Wd K q' S' H' → Wk K q' S'.length H' J ds → R J H'
  | .ex c fs => Post K cl q n H E (fun _ _ => False) (.ex c fs) S'
structure EI (X : Cx) (cl : Cl) (E : XK) (tg e : Expr) (m : AM) : Prop where
  ex : ∃ wi, PI X tg e wi ∧ ∀ g S r S', m g S = some (r, S') → ∀ q s H R, Wd X.K q S H → Sl X.K q S.length H s g → PostI X.K cl q S.length H E R r S' → wi s H R
theorem PI.or {X : Cx} {tg e : Expr} {w1 w2 : TI} (h1 : PI X tg e w1) (h2 : PI X tg e w2) : PI X tg e (fun s H R => w1 s H R ∨ w2 s H R) := ⟨fun pins s σ H R I h => by
  rcases h with h | h
  · exact h1.run pins s σ H R I h
  · exact h2.run pins s σ H R I h⟩
theorem PostI.to {K : Fr} {cl : Cl} {q q1 : Nat → Addr} {n n1 : Nat} {H H1 : Hp} {E : XK} {R : It → Hp → Prop} {r : Rs (List D)} {S' : ST} (g : Gr q n H q1 n1 H1) (h : PostI K cl q n H E R r S') : PostI K cl q1 n1 H1 E R r S' := by
  cases r with
  | ok _ => exact fun q' H' J g' w k => h q' H' J (g.trans g') w k
  | ex c fs => exact Post.to (Q := fun _ _ => False) (r := .ex c fs) g h
/-- the signs of a text, each a text -/
def signs (z : Str) : List D := z.cps.toList.map fun c => .str ⟨#[c]⟩
def itF (x : D) (S : ST) : Option (Rs (List D) × ST) := match x with
  | .tup ds => some (.ok ds, S)
  | .lst ds => some (.ok ds, S)
  | .kls ds => some (.ok ds, S)
  | .str z => some (.ok (signs z), S)
  | _ => none
def iVal (a : EM) : AM := fun g S => bd (a g S) itF
theorem wk_list {K : Fr} {q : Nat → Addr} {n : Nat} {H : Hp} {a : Addr} {vs : List V} {ds : List D} (h : FzL K H a vs) (r : Dts K q n H vs ds) : Wk K q n H (Itl K a) ds := by
  intro q2 n2 H2 g i
  have sq := (g.fzl h).sq
  refine ⟨fun d e => ?_, fun e => ⟨vs, sq, by rw [r.length, e]; exact Nat.le_refl _⟩⟩
  obtain ⟨v, e1, r1⟩ := r.get e
  refine ⟨⟨vs, v, sq, e1⟩, fun x H3 y => ?_⟩
  obtain ⟨rfl, y⟩ := y
  have e2 := y vs sq
  rw [e1] at e2
  cases e2
  exact ⟨.refl, fun _ _ w => w, r1.mono g⟩
theorem wk_tup {K : Fr} {q : Nat → Addr} {n : Nat} {H : Hp} {a : Addr} {vs : List V} {ds : List D} (h : SqT K H a vs) (r : Dts K q n H vs ds) : Wk K q n H (Itt K a) ds := by
  intro q2 n2 H2 g i
  have sq := g.sqT h
  refine ⟨fun d e => ?_, fun e => ⟨vs, sq, by rw [r.length, e]; exact Nat.le_refl _⟩⟩
  obtain ⟨v, e1, r1⟩ := r.get e
  refine ⟨⟨vs, v, sq, e1⟩, fun x H3 y => ?_⟩
  obtain ⟨rfl, y⟩ := y
  have e2 := y vs sq
  rw [e1] at e2
  cases e2
  exact ⟨.refl, fun _ _ w => w, r1.mono g⟩
theorem wk_str {K : Fr} {q : Nat → Addr} {n : Nat} {H : Hp} {z : Str} : Wk K q n H (Its z) (signs z) := by
  intro q2 n2 H2 g i
  refine ⟨fun d e => ?_, fun e => ?_⟩
  · simp only [signs, List.getElem?_map, Option.map_eq_some_iff, Array.getElem?_toList] at e
    obtain ⟨c, e1, rfl⟩ := e
    refine ⟨(Array.getElem?_eq_some_iff.mp e1).1, fun x H3 y => ?_⟩
    obtain ⟨rfl, c', e2, rfl⟩ := y
    rw [e1] at e2
    cases e2
    exact ⟨.refl, fun _ _ w => w, .str _⟩
  · show z.cps.size ≤ i
    rw [e]
    simp [signs]
section
variable {X : Cx} {cl : Cl} {E : XK} {e a b c tg : Expr} {es : List Expr} {pos : Pos} {m ma mb mc : EM} {mr : AM} {t : BM}
theorem ei_val (h : EE X cl E e m) : EI X cl E tg e (iVal m) := by
  obtain ⟨ta, pa, ea⟩ := h
  refine ⟨_, PI.or (pi_list pa) (PI.or (pi_tup pa) (pi_str pa)), fun g S z S' h q s H R w sl po => ?_⟩
  rcases bd_inv h with ⟨x, S1, h1, h⟩ | ⟨c, fs, h1, rfl⟩
  · unfold itF at h
    split at h
    · cases h
      refine .inr (.inl (ea g S _ _ h1 q s H _ w sl fun q1 H1 vx g1 w1 d1 => ?_))
      obtain ⟨a, vs, rfl, sq, r⟩ := d1.tup_inv
      exact ⟨a, rfl, ⟨vs, sq⟩, po q1 H1 _ g1 w1 (wk_tup sq r)⟩
    · cases h
      refine .inl (ea g S _ _ h1 q s H _ w sl fun q1 H1 vx g1 w1 d1 => ?_)
      cases d1 with
      | lst sq r => exact ⟨_, rfl, ⟨_, .inl (.inr ⟨_, sq⟩)⟩, po q1 H1 _ g1 w1 (wk_list (.inl ⟨_, sq⟩) r)⟩
    · cases h
      refine .inl (ea g S _ _ h1 q s H _ w sl fun q1 H1 vx g1 w1 d1 => ?_)
      cases d1 with
      | kls sq r => exact ⟨_, rfl, ⟨_, sq.sq⟩, po q1 H1 _ g1 w1 (wk_list sq r)⟩
    · cases h
      refine .inr (.inr (ea g S _ _ h1 q s H _ w sl fun q1 H1 vx g1 w1 d1 => ?_))
      obtain rfl := d1.str_inv
      exact ⟨_, rfl, po q1 H1 _ g1 w1 wk_str⟩
    · cases h
  · exact .inl (ea g S _ S' h1 q s H _ w sl (Post.ex (Q := fun _ _ => False) po))
/-- lo, lo + 1, .. below hi -/
def rngD (lo hi : Int) : List D := (List.range (hi - lo).toNat).map fun (i : Nat) => .int (lo + i)
theorem wk_rng {K : Fr} {q : Nat → Addr} {n : Nat} {H : Hp} {lo hi : Int} : Wk K q n H (Itr lo (hi - lo).toNat) (rngD lo hi) := by
  intro q2 n2 H2 g i
  refine ⟨fun d e => ?_, fun e => ?_⟩
  · simp only [rngD, List.getElem?_map, Option.map_eq_some_iff] at e
    obtain ⟨c, e1, rfl⟩ := e
    obtain ⟨hlt, e2⟩ := List.getElem?_eq_some_iff.mp e1
    rw [List.getElem_range] at e2
    subst e2
    rw [List.length_range] at hlt
    refine ⟨hlt, fun x H3 y => ?_⟩
    obtain ⟨rfl, rfl⟩ := y
    exact ⟨.refl, fun _ _ w => w, .int _⟩
  · show (hi - lo).toNat ≤ i
    rw [e]
    simp [rngD]
def okI (i : Int) : Bool := decide (-(2 ^ 62) ≤ i) && decide (i < 2 ^ 62)
def rng1F (xs : List D) (S : ST) : Option (Rs (List D) × ST) := match xs with
  | [.int j] => if okI j = true then some (.ok (rngD 0 j), S) else none
  | _ => none
def rng2F (xs : List D) (S : ST) : Option (Rs (List D) × ST) := match xs with
  | [.int i, .int j] => if (okI i && okI j) = true then some (.ok (rngD i j), S) else none
  | _ => none
def iCall (f : List D → ST → Option (Rs (List D) × ST)) (a : AM) : AM := fun g S => bd (a g S) f
theorem ei_rng1 {p : Pos} (ha : EA X cl E [a] mr) (hg : Gl X "range") (hm : X.mg "range" = none) (hs : starEach [a] X.env = [(false, eval a X.env)] := by rfl) : EI X cl E tg (.Call (.Name "range" p) [a] [] pos) (iCall rng1F mr) := by
  obtain ⟨ta, pa, ea⟩ := ha
  refine ⟨_, pi_range1 hg hm pa hs, fun g S z S' h q s H R w sl po => ?_⟩
  rcases bd_inv h with ⟨xs, S1, h1, h⟩ | ⟨c, fs, h1, rfl⟩
  · refine ea g S _ S1 h1 q s H _ w sl fun q1 H1 vs g1 w1 d1 => ?_
    unfold rng1F at h
    split at h
    · split at h
      · rename_i j hj
        cases h
        obtain ⟨v, rfl, r⟩ := dts1 d1
        obtain rfl := r.int_inv
        simp only [okI, Bool.and_eq_true, decide_eq_true_eq] at hj
        have wk := wk_rng (K := X.K) (q := q1) (n := S'.length) (H := H1) (lo := 0) (hi := j)
        rw [Int.sub_zero] at wk
        exact ⟨j, rfl, hj.1, hj.2, po q1 H1 _ g1 w1 wk⟩
      · cases h
    · cases h
  · exact ea g S _ S' h1 q s H _ w sl po
theorem ei_rng2 {p : Pos} (ha : EA X cl E [a, b] mr) (hg : Gl X "range") (hm : X.mg "range" = none) (hs : starEach [a, b] X.env = [(false, eval a X.env), (false, eval b X.env)] := by rfl) (hs2 : starEach [b] X.env = [(false, eval b X.env)] := by rfl) :
    EI X cl E tg (.Call (.Name "range" p) [a, b] [] pos) (iCall rng2F mr) := by
  obtain ⟨ta, pa, ea⟩ := ha
  refine ⟨_, pi_range2 hg hm pa hs hs2, fun g S z S' h q s H R w sl po => ?_⟩
  rcases bd_inv h with ⟨xs, S1, h1, h⟩ | ⟨c, fs, h1, rfl⟩
  · refine ea g S _ S1 h1 q s H _ w sl fun q1 H1 vs g1 w1 d1 => ?_
    unfold rng2F at h
    split at h
    · split at h
      · rename_i i j hj
        cases h
        obtain ⟨v, u, rfl, r, r2⟩ := dts2 d1
        obtain rfl := r.int_inv
        obtain rfl := r2.int_inv
        simp only [okI, Bool.and_eq_true, decide_eq_true_eq] at hj
        exact ⟨i, j, rfl, ⟨hj.1.1, hj.1.2, hj.2.1, hj.2.2⟩, po q1 H1 _ g1 w1 wk_rng⟩
      · cases h
    · cases h
  · exact ea g S _ S' h1 q s H _ w sl po
/-! ### for -/
def forD (tg : GM) (body : SM) : List D → EV → ST → Option (Out × ST)
  | [], g, S => some (.nx g, S)
  | d :: ds, g, S => match tg d g S with
    | none => none
    | some (g1, S1) => match body g1 S1 with
      | some (.nx g2, S2) => forD tg body ds g2 S2
      | some (.ct g2, S2) => forD tg body ds g2 S2
      | some (.bk g2, S2) => some (.nx g2, S2)
      | some (.rt x, S2) => some (.rt x, S2)
      | some (.ex c fs, S2) => some (.ex c fs, S2)
      | none => none
def sFor (it : AM) (tg : GM) (body : SM) : SM := fun g S => bs (it g S) fun ds S1 => forD tg body ds g S1
theorem st_for {sts : List Stmt} {ms : SM} {ix : List Nat} {f : GM} (hp : PassesOwn (model X.prog X.w) X.A X.env X.xe) (hc : X.calm = true) (hi : EI X cl E tg e mr) (hg : EG X tg ix f) (hb : ESs X cl E sts ms) (hs : ∀ x, foldedSetIterable e X.env x = pure x := by intro _; rfl) :
    ES X cl E (.For tg e sts [] pos) (sFor mr f ms) := by
  obtain ⟨wi, pi, ei⟩ := hi
  obtain ⟨tt, pg, eg⟩ := hg
  obtain ⟨tb, pb, eb⟩ := hb
  refine ⟨_, ps_for hp hc pi pg pb hs, fun g S o S' h q s H D w sl po => ?_⟩
  rcases bs_inv h with ⟨ds, S1, h1, h⟩ | ⟨c, fs, h1, rfl⟩
  · refine ei g S _ S1 h1 q s H _ w sl fun q1 H1 J g1 w1 wk => ?_
    refine ⟨fun i k s2 H2 => k = ds.length - i ∧ i ≤ ds.length ∧ ∃ q2 S2 gg, Gr q1 S1.length H1 q2 S2.length H2 ∧ Wd X.K q2 S2 H2 ∧ Sl X.K q2 S2.length H2 s2 gg ∧ forD f ms (ds.drop i) gg S2 = some (o, S'),
      ⟨ds.length, by simp, Nat.zero_le _, q1, S1, g, .refl, w1, sl.mono g1, by simpa using h⟩, ?_⟩
    rintro i k s2 H2 ⟨rfl, hi, q2, S2, gg, gr2, w2, sl2, hf⟩
    obtain ⟨wg, ws⟩ := wk q2 S2.length H2 gr2.ge i
    by_cases hlt : i < ds.length
    · rw [List.drop_eq_getElem_cons hlt] at hf
      obtain ⟨go, yld⟩ := wg ds[i] (List.getElem?_eq_getElem hlt)
      refine .inr ⟨go, fun s3 H3 => ∃ q3 S3 g3, Gr q1 S1.length H1 q3 S3.length H3 ∧ Wd X.K q3 S3 H3 ∧ Sl X.K q3 S3.length H3 s3 g3 ∧ forD f ms (ds.drop (i + 1)) g3 S3 = some (o, S'), fun s3 H3 ⟨q3, S3, g3, z⟩ => ⟨ds.length - (i + 1), by omega, rfl, hlt, q3, S3, g3, z⟩, fun x H3 y => ?_⟩
      obtain ⟨gr3, wd3, d3⟩ := yld x H3 y
      have w3 := wd3 S2 rfl w2
      unfold forD at hf
      split at hf
      · cases hf
      · rename_i gA SA hA
        refine eg ds[i] gg S2 gA SA hA q2 s2 H3 x _ w3 (sl2.mono gr3) d3 fun q4 H4 s4 gr4 w4 sl4 _ => ?_
        have gt := (gr2.trans gr3).trans gr4
        split at hf
        · rename_i gB SB hB
          exact eb gA SA _ SB hB q4 s4 H4 _ w4 sl4 fun q5 H5 s5 gr5 w5 sl5 => ⟨q5, SB, gB, gt.trans gr5, w5, sl5, hf⟩
        · rename_i gB SB hB
          exact eb gA SA _ SB hB q4 s4 H4 _ w4 sl4 fun q5 H5 s5 gr5 w5 sl5 => ⟨q5, SB, gB, gt.trans gr5, w5, sl5, hf⟩
        · rename_i gB SB hB
          cases hf
          exact eb gA SA _ _ hB q4 s4 H4 _ w4 sl4 fun q5 H5 s5 gr5 w5 sl5 => po q5 H5 s5 (g1.trans (gt.trans gr5)) w5 sl5
        · rename_i dB SB hB
          cases hf
          exact eb gA SA _ _ hB q4 s4 H4 _ w4 sl4 fun q5 H5 v5 gr5 w5 d5 => po q5 H5 v5 (g1.trans (gt.trans gr5)) w5 d5
        · rename_i cB fB SB hB
          cases hf
          exact eb gA SA _ _ hB q4 s4 H4 _ w4 sl4 (Post.to (Q := fun _ _ => False) (r := .ex cB fB) (g1.trans gt) po)
        · cases hf
    · have e : i = ds.length := by omega
      subst e
      rw [List.drop_length] at hf
      cases hf
      exact .inl ⟨ws rfl, po q2 H2 s2 (g1.trans gr2) w2 sl2⟩
  · exact ei g S _ S' h1 q s H _ w sl po
/-! ### while, by turns -/
def whD (t : BM) (body : SM) : Nat → EV → ST → Option (Out × ST)
  | 0, _, _ => none
  | n + 1, g, S => bs (t g S) fun c S1 => if c = true then match body g S1 with
      | some (.nx g2, S2) => whD t body n g2 S2
      | some (.ct g2, S2) => whD t body n g2 S2
      | some (.bk g2, S2) => some (.nx g2, S2)
      | some (.rt x, S2) => some (.rt x, S2)
      | some (.ex c fs, S2) => some (.ex c fs, S2)
      | none => none
    else some (.nx g, S1)
def sWhile (n : Nat) (t : BM) (body : SM) : SM := fun g S => whD t body n g S
theorem st_while {sts : List Stmt} {ms : SM} (n : Nat) (hp : PassesOwn (model X.prog X.w) X.A X.env X.xe) (ht : ET X cl E c t) (hb : ESs X cl E sts ms) : ES X cl E (.While c sts [] pos) (sWhile n t ms) := by
  obtain ⟨tt, pt, et⟩ := ht
  obtain ⟨tb, pb, eb⟩ := hb
  refine ⟨_, ps_while hp pt pb, fun g S o S' h q s H D w sl po => ?_⟩
  refine ⟨fun k s2 H2 => ∃ q2 S2 gg, Gr q S.length H q2 S2.length H2 ∧ Wd X.K q2 S2 H2 ∧ Sl X.K q2 S2.length H2 s2 gg ∧ whD t ms k gg S2 = some (o, S'), ⟨n, q, S, g, .refl, w, sl, h⟩, ?_⟩
  rintro k s2 H2 ⟨q2, S2, gg, gr2, w2, sl2, hf⟩
  cases k with
  | zero => cases hf
  | succ k =>
    rcases bs_inv hf with ⟨b, S3, h3, hf⟩ | ⟨c, fs, h3, rfl⟩
    · refine et gg S2 _ S3 h3 q2 s2 H2 _ w2 sl2 fun q3 H3 gr3 w3 => ?_
      have gt := gr2.trans gr3
      cases b with
      | true =>
        refine ⟨fun s5 H5 => ∃ q5 S5 g5, Gr q S.length H q5 S5.length H5 ∧ Wd X.K q5 S5 H5 ∧ Sl X.K q5 S5.length H5 s5 g5 ∧ whD t ms k g5 S5 = some (o, S'), fun s5 H5 ⟨q5, S5, g5, z⟩ => ⟨k, Nat.lt_succ_self _, q5, S5, g5, z⟩, ?_⟩
        rw [if_pos rfl] at hf
        split at hf
        · rename_i gB SB hB
          exact eb gg S3 _ SB hB q3 s2 H3 _ w3 (sl2.mono gr3) fun q5 H5 s5 gr5 w5 sl5 => ⟨q5, SB, gB, gt.trans gr5, w5, sl5, hf⟩
        · rename_i gB SB hB
          exact eb gg S3 _ SB hB q3 s2 H3 _ w3 (sl2.mono gr3) fun q5 H5 s5 gr5 w5 sl5 => ⟨q5, SB, gB, gt.trans gr5, w5, sl5, hf⟩
        · rename_i gB SB hB
          cases hf
          exact eb gg S3 _ _ hB q3 s2 H3 _ w3 (sl2.mono gr3) fun q5 H5 s5 gr5 w5 sl5 => po q5 H5 s5 (gt.trans gr5) w5 sl5
        · rename_i dB SB hB
          cases hf
          exact eb gg S3 _ _ hB q3 s2 H3 _ w3 (sl2.mono gr3) fun q5 H5 v5 gr5 w5 d5 => po q5 H5 v5 (gt.trans gr5) w5 d5
        · rename_i cB fB SB hB
          cases hf
          exact eb gg S3 _ _ hB q3 s2 H3 _ w3 (sl2.mono gr3) (Post.to (Q := fun _ _ => False) (r := .ex cB fB) gt po)
        · cases hf
      | false =>
        rw [if_neg Bool.false_ne_true] at hf
        cases hf
        exact po q3 H3 s2 gt w3 (sl2.mono gr3)
    · exact et gg S2 _ S' h3 q2 s2 H2 _ w2 sl2 (Post.to (Q := fun _ _ => False) (r := .ex c fs) gr2 po)
end
end U

set_option Elab.async false
set_option linter.all false
set_option maxRecDepth 100000
set_option maxHeartbeats 1000000
namespace U
open PySem L2
/-! ### comprehensions -/
def wpD (g : EV) : List Nat → EV
  | [] => g
  | v :: vs => (wpD g vs).set v none
theorem Sl.gone {K : Fr} {q : Nat → Addr} {n : Nat} {H : Hp} {s : L2.St} {g : EV} (i : Nat) (h : Sl K q n H s g) : Sl K q n H (s.set i none) (g.set i none) := by
  refine ⟨by simp [h.1], fun j e hj => ?_⟩
  by_cases hi : i = j
  · subst hi
    by_cases hl : i < g.length
    · rw [List.getElem?_set_self hl] at hj
      cases hj
    · rw [List.getElem?_eq_none (by simpa using hl)] at hj
      cases hj
  · rw [List.getElem?_set_ne hi] at hj ⊢
    exact h.2 j e hj
theorem Sl.wipe {K : Fr} {q : Nat → Addr} {n : Nat} {H : Hp} {s : L2.St} {g : EV} (h : Sl K q n H s g) : ∀ vs : List Nat, Sl K q n H (L2.wipe s vs) (wpD g vs)
  | [] => h
  | v :: vs => (Sl.wipe h vs).gone v
theorem wipe_in {s : L2.St} {i : Nat} : ∀ {vs : List Nat}, i ∈ vs → i < s.length → (L2.wipe s vs)[i]? = some none
  | v :: vs, h, hl => by
    unfold L2.wipe
    by_cases e : v = i
    · subst e
      rw [List.getElem?_set_self (by rw [wipe_length]; exact hl)]
    · rw [List.getElem?_set_ne e]
      exact wipe_in (by simpa [Ne.symm e] using h) hl
theorem wipe_eq {s s' : L2.St} {vs : List Nat} (hl : s'.length = s.length) (h : ∀ j, j ∉ vs → s'[j]? = s[j]?) : L2.wipe s' vs = L2.wipe s vs := by
  apply List.ext_getElem?
  intro i
  by_cases hv : i ∈ vs
  · by_cases hi : i < s.length
    · rw [wipe_in hv hi, wipe_in hv (by omega)]
    · rw [List.getElem?_eq_none (by rw [wipe_length]; omega), List.getElem?_eq_none (by rw [wipe_length]; omega)]
  · rw [wipe_out hv, wipe_out hv]
    exact h i hv
structure ETs (X : Cx) (cl : Cl) (E : XK) (es : List Expr) (m : BM) : Prop where
  ex : ∃ tt, PTs X es tt ∧ ∀ g S r S', m g S = some (r, S') → ∀ q s H Q, Wd X.K q S H → Sl X.K q S.length H s g → PostB X.K cl q S.length H E Q r S' → tt s H Q
theorem ETs.pts {X : Cx} {cl : Cl} {E : XK} {es : List Expr} {t : BM} (h : ETs X cl E es t) : PTs X es (rdT X.K cl E t) := by
  obtain ⟨te, pe, ee⟩ := h
  exact ⟨fun pins s σ H Q I ⟨g, S, r, S', q, h, w, sl, po⟩ => pe.run pins s σ H Q I (ee g S r S' h q σ H Q w sl po)⟩
def bYes : BM := fun _ S => some (.ok true, S)
theorem ets_nil {X : Cx} {cl : Cl} {E : XK} : ETs X cl E [] bYes := by
  refine ⟨_, pts_nil, fun g S r S' h q s H Q w sl po => ?_⟩
  cases h
  exact po q H Gr.refl w
theorem ets_one {X : Cx} {cl : Cl} {E : XK} {c : Expr} {t : BM} (h : ET X cl E c t) : ETs X cl E [c] t := by
  obtain ⟨te, pe, ee⟩ := h
  exact ⟨te, pts_one pe, ee⟩
def cmD (tg : GM) (t : BM) (el : EM) (g : EV) : List D → ST → Option (List D × ST)
  | [], S => some ([], S)
  | d :: ds, S => match tg d g S with
    | none => none
    | some (g1, S1) => match t g1 S1 with
      | some (.ok true, S2) => match el g1 S2 with
        | some (.ok x, S3) => match cmD tg t el g ds S3 with
          | some (xs, S4) => some (x :: xs, S4)
          | none => none
        | _ => none
      | some (.ok false, S2) => cmD tg t el g ds S2
      | _ => none
def oLc (it : AM) (tg : GM) (t : BM) (el : EM) (vs : List Nat) : AM := fun g S => bd (it g S) fun ds S1 => match cmD tg t el (wpD g vs) ds S1 with
  | some (xs, S2) => if few xs.length = true then some (.ok xs, S2) else none
  | none => none
theorem cmD_len {tg : GM} {t : BM} {el : EM} {g : EV} : ∀ {ds : List D} {S S' : ST} {xs : List D}, cmD tg t el g ds S = some (xs, S') → xs.length ≤ ds.length
  | [], _, _, _, h => by cases h; exact Nat.le_refl _
  | d :: ds, S, S', xs, h => by
    unfold cmD at h
    split at h
    · cases h
    · split at h
      · split at h
        · split at h
          · rename_i hh
            cases h
            have := cmD_len hh
            simp; omega
          · cases h
        · cases h
      · have := cmD_len h
        simp; omega
      · cases h
section
variable {X : Cx} {cl : Cl} {E : XK} {e a b c tg iter elt : Expr} {es ifs : List Expr} {pos : Pos} {m : EM} {mr : AM} {t : BM} {f : GM} {ix vs : List Nat}
theorem lc_post {K : Fr} {wi : TI} (hv : ∀ i ∈ ix, i ∈ vs) (hwi : ∀ g S r S', mr g S = some (r, S') → ∀ q s H R, Wd K q S H → Sl K q S.length H s g → PostI K cl q S.length H E R r S' → wi s H R)
    {g : EV} {S S' : ST} {z : Rs (List D)} (h : oLc mr f t m vs g S = some (z, S')) {q : Nat → Addr} {s : L2.St} {H : Hp} {Q : VK} (w : Wd K q S H) (sl : Sl K q S.length H s g) (po : PostO K cl q S.length H E Q z S') :
    tLc wi (rdG K ix f) (rdT K cl E0 t) (rdE K cl E0 m) vs s H Q := by
  rcases bd_inv h with ⟨ds, S1, h1, h⟩ | ⟨c, fs, h1, rfl⟩
  · refine hwi g S _ S1 h1 q s H _ w sl fun q1 H1 J g1 w1 wk L hL => ?_
    split at h
    · rename_i total S2 hc
      split at h
      · rename_i hfew
        cases h
        have hlen : total.length ≤ 100000 := of_decide_eq_true hfew
        refine ⟨fun i k H2 => k = ds.length - i ∧ i ≤ ds.length ∧ ∃ q2 S2 acc accD rest, Gr q1 S1.length H1 q2 S2.length H2 ∧ Wd K q2 S2 H2 ∧ H2 L = some (.lst acc) ∧ (∀ m, m < S2.length → q2 m ≠ L) ∧ Dts K q2 S2.length H2 acc accD ∧ accD ++ rest = total ∧ cmD f t m (wpD g vs) (ds.drop i) S2 = some (rest, S'),
          ⟨ds.length, by simp, Nat.zero_le _, q1, S1, [], [], total, Gr.new hL, w1.new hL, upd_same, fun m hm => w1.ne hL hm, .nil, rfl, by simpa using hc⟩, ?_⟩
        rintro i k H2 ⟨rfl, hi, q2, S2, acc, accD, rest, gr2, w2, hacc, hne, dacc, hr, hf⟩
        obtain ⟨wg, ws⟩ := wk q2 S2.length H2 gr2.ge i
        by_cases hlt : i < ds.length
        · rw [List.drop_eq_getElem_cons hlt] at hf
          obtain ⟨go, yld⟩ := wg ds[i] (List.getElem?_eq_getElem hlt)
          refine .inr ⟨go, fun H3 => ∃ q3 S3 acc accD rest, Gr q1 S1.length H1 q3 S3.length H3 ∧ Wd K q3 S3 H3 ∧ H3 L = some (.lst acc) ∧ (∀ m, m < S3.length → q3 m ≠ L) ∧ Dts K q3 S3.length H3 acc accD ∧ accD ++ rest = total ∧ cmD f t m (wpD g vs) (ds.drop (i + 1)) S3 = some (rest, S'),
            fun H3 z => ⟨ds.length - (i + 1), by omega, rfl, hlt, z⟩, fun x H3 y => ?_⟩
          obtain ⟨gr3, wd3, d3⟩ := yld x H3 y
          have w3 := wd3 S2 rfl w2
          have gs : Gr q S.length H q2 S2.length H3 := (g1.trans gr2).trans gr3
          have al : acc.length ≤ 100000 := by
            rw [dacc.length]
            have := congrArg List.length hr
            rw [List.length_append] at this
            omega
          unfold cmD at hf
          split at hf
          · cases hf
          · rename_i gA SA hA
            refine ⟨ds[i], wpD g vs, S2, gA, SA, q2, hA, w3, (sl.mono gs).wipe vs, d3, fun q4 H4 s4 gr4 w4 sl4 but4 => ⟨?_, ?_⟩⟩
            · have e1 : L2.wipe s4 vs = L2.wipe (L2.wipe s vs) vs := wipe_eq but4.1 fun j hj => but4.2 j fun z => hj (hv j z)
              rw [e1]
              exact wipe_eq (wipe_length s vs) fun j hj => wipe_out hj
            · split at hf
              · rename_i SB hB
                refine ⟨gA, SA, _, SB, q4, hB, w4, sl4, fun q5 H5 gr5 w5 => ?_⟩
                show rdE K cl E0 m s4 H5 _
                split at hf
                · rename_i y SC hC
                  refine ⟨gA, SB, _, SC, q5, hC, w5, sl4.mono gr5, fun q6 H6 v gr6 w6 d6 => ?_⟩
                  split at hf
                  · rename_i xs SD hD
                    cases hf
                    have gl := ((gr3.trans gr4).trans gr5).trans gr6
                    have hL6 : H6 L = some (.lst acc) := gl.fr L _ hacc hne
                    have ne6 := gl.out hacc hne
                    refine ⟨acc, hL6, Nat.lt_of_le_of_lt al (by decide), q6, SC, acc ++ [v], accD ++ [y], xs, (gr2.trans gl).over hL, w6.off hL6 trivial ne6, upd_same, ne6, ?_, by rw [List.append_assoc]; exact hr, hD⟩
                    exact ((dacc.mono gl.ge).append (.cons d6 .nil)).mono (Ge.wr hL6 trivial)
                  · cases hf
                · cases hf
              · rename_i SB hB
                refine ⟨gA, SA, _, SB, q4, hB, w4, sl4, fun q5 H5 gr5 w5 => ?_⟩
                have gl := (gr3.trans gr4).trans gr5
                exact ⟨q5, SB, acc, accD, rest, gr2.trans gl, w5, gl.fr L _ hacc hne, gl.out hacc hne, dacc.mono gl.ge, hr, hf⟩
              · cases hf
        · have e : i = ds.length := by omega
          subst e
          rw [List.drop_length] at hf
          cases hf
          rw [List.append_nil] at hr
          subst hr
          exact .inl ⟨ws rfl, po q2 H2 L acc (g1.trans gr2) w2 (g1.free hL) hacc hne dacc⟩
      · cases h
    · cases h
  · exact hwi g S _ S' h1 q s H _ w sl po
variable {scope : Scope} {own : List (Str × Nat)}
theorem eo_lc (hv : ∀ i ∈ ix, i ∈ own.map (·.2)) (hc : X.calm = true) (hN : X.N.Nodup) (hi : EI X cl E tg iter mr) (ok : BlkOk X.N X.env.scope scope own)
    (hg : ∀ (s : Shared) (H : Hp) (C : Addr) (cl : List (Str × Addr)) (fp : List Addr), EG (X.blk s H scope (compEnvC scope cl C X.env) fp) tg ix f)
    (ht : ∀ (s : Shared) (H : Hp) (C : Addr) (l : List (Str × Addr)) (fp : List Addr), ETs (X.blk s H scope (compEnvC scope l C X.env) fp) cl E0 ifs t)
    (he : ∀ (s : Shared) (H : Hp) (C : Addr) (l : List (Str × Addr)) (fp : List Addr), EE (X.blk s H scope (compEnvC scope l C X.env) fp) cl E0 elt m) (hs : ∀ x, foldedSetIterable iter X.env x = pure x := by intro _; rfl) :
    EO X cl E (.ListComp elt [⟨tg, iter, ifs, 0⟩] scope pos) (oLc mr f t m (own.map (·.2))) := by
  obtain ⟨wi, pi, ei⟩ := hi
  exact ⟨_, pe_lc (g := rdG X.K ix f) (tt := rdT X.K cl E0 t) (te := rdE X.K cl E0 m) hc hN pi ok (fun s H C l fp => (hg s H C l fp).pg) (fun s H C l fp => (ht s H C l fp).pts) (fun s H C l fp => (he s H C l fp).pe) hs, fun g S r S' h q s H Q w sl po => lc_post hv ei h w sl po⟩
/-- a statement behind which something is shut -/
def FzS (nx : L2.St → Hp → Prop) : L2.St → Hp → Prop := fun s H => nx s H ∨ ∃ a u, H a = some u ∧ Shut u ∧ ∀ o, nx s (upd H a (.frz o u))
theorem ps_fz {st : Stmt} {ts : TS} (h : PS X st ts) : PS X st (fun D s H => ts { D with nx := FzS D.nx } s H) := ⟨fun pins s σ H D I w => thn (h.run pins s σ H { D with nx := FzS D.nx } I w) fun fl s1 z => by
  cases fl with
  | next =>
    obtain ⟨σ', H', I', q⟩ := z
    rcases q with q | ⟨a, u, e, hu, q⟩
    · exact ⟨σ', H', I', q⟩
    · obtain ⟨o, I2⟩ := inv_shut I' e hu
      exact ⟨σ', _, I2, q o⟩
  | brk => exact z
  | cont => exact z
  | ret v => exact z⟩
theorem st_setLc (i : Nat) {y : Str} {py spos : Pos} (hv : ∀ i ∈ ix, i ∈ own.map (·.2)) (hc : X.calm = true) (hN : X.N.Nodup) (hi : EI X cl E tg iter mr) (ok : BlkOk X.N X.env.scope scope own)
    (hg : ∀ (s : Shared) (H : Hp) (C : Addr) (cl : List (Str × Addr)) (fp : List Addr), EG (X.blk s H scope (compEnvC scope cl C X.env) fp) tg ix f)
    (ht : ∀ (s : Shared) (H : Hp) (C : Addr) (l : List (Str × Addr)) (fp : List Addr), ETs (X.blk s H scope (compEnvC scope l C X.env) fp) cl E0 ifs t)
    (he : ∀ (s : Shared) (H : Hp) (C : Addr) (l : List (Str × Addr)) (fp : List Addr), EE (X.blk s H scope (compEnvC scope l C X.env) fp) cl E0 elt m)
    (hsw : swapsWith (.ListComp elt [⟨tg, iter, ifs, 0⟩] scope pos) (some (.Name y py)) spos.line X.env = pure true)
    (hy : X.N[i]? = some y := by rfl) (hyl : X.env.scope.names.lookup y = some .local := by rfl) (hs : ∀ x, foldedSetIterable iter X.env x = pure x := by intro _; rfl) :
    ES X cl E (.Assign [.Name y py] (.ListComp elt [⟨tg, iter, ifs, 0⟩] scope pos) spos) (sAsg (eFz (oLc mr f t m (own.map (·.2)))) (gVar i)) := by
  obtain ⟨wi, pi, ei⟩ := hi
  refine ⟨_, ps_fz (ps_setLc (g := rdG X.K ix f) (tt := rdT X.K cl E0 t) (te := rdE X.K cl E0 m) hc hN hy hyl hsw pi ok (fun s H C l fp => (hg s H C l fp).pg) (fun s H C l fp => (ht s H C l fp).pts) (fun s H C l fp => (he s H C l fp).pe) hs), fun g S o S' h q s H D w sl po => ?_⟩
  rcases bs_inv h with ⟨d, S1, h1, h⟩ | ⟨c, fs, h1, rfl⟩
  · cases h
    rcases bd_inv h1 with ⟨xs, S2, h2, h⟩ | ⟨c, fs, h2, e⟩
    · cases h
      refine lc_post hv ei h2 w sl fun q1 H1 L vs g1 w1 h0 hL hn d1 => ?_
      have hu : Shut (.lst vs) := .inl ⟨vs, rfl⟩
      refine .inr ⟨L, _, hL, hu, fun o => po q1 _ _ (g1.over h0) (w1.off hL trivial hn) ?_⟩
      have sl2 : Sl X.K q1 S'.length (upd H1 L (.frz o (.lst vs))) s g := ⟨sl.1, fun j d e => let ⟨v, x1, x2⟩ := sl.2 j d e; ⟨v, x1, x2.mono (g1.over h0).ge⟩⟩
      exact sl2.set i (.lst (o := o) upd_same (d1.mono (Ge.wr hL trivial)))
    · cases e
  · rcases bd_inv h1 with ⟨xs, S2, h2, h⟩ | ⟨c, fs, h2, e⟩
    · cases h
    · cases e
      exact lc_post hv ei h2 w sl po
theorem st_setLcP (i : Nat) {y : Str} {py spos : Pos} (hv : ∀ i ∈ ix, i ∈ own.map (·.2)) (hc : X.calm = true) (hN : X.N.Nodup) (hi : EI X cl E tg iter mr) (ok : BlkOk X.N X.env.scope scope own)
    (hg : ∀ (s : Shared) (H : Hp) (C : Addr) (cl : List (Str × Addr)) (fp : List Addr), EG (X.blk s H scope (compEnvC scope cl C X.env) fp) tg ix f)
    (ht : ∀ (s : Shared) (H : Hp) (C : Addr) (l : List (Str × Addr)) (fp : List Addr), ETs (X.blk s H scope (compEnvC scope l C X.env) fp) cl E0 ifs t)
    (he : ∀ (s : Shared) (H : Hp) (C : Addr) (l : List (Str × Addr)) (fp : List Addr), EE (X.blk s H scope (compEnvC scope l C X.env) fp) cl E0 elt m)
    (hsw : swapsWith (.ListComp elt [⟨tg, iter, ifs, 0⟩] scope pos) (some (.Name y py)) spos.line X.env = pure true)
    (hy : X.N[i]? = some y := by rfl) (hyl : X.env.scope.names.lookup y = some .local := by rfl) (hs : ∀ x, foldedSetIterable iter X.env x = pure x := by intro _; rfl) :
    ES X cl E (.Assign [.Name y py] (.ListComp elt [⟨tg, iter, ifs, 0⟩] scope pos) spos) (sAsg (ePtr (oLc mr f t m (own.map (·.2)))) (gVar i)) := by
  obtain ⟨wi, pi, ei⟩ := hi
  refine ⟨_, ps_setLc (g := rdG X.K ix f) (tt := rdT X.K cl E0 t) (te := rdE X.K cl E0 m) hc hN hy hyl hsw pi ok (fun s H C l fp => (hg s H C l fp).pg) (fun s H C l fp => (ht s H C l fp).pts) (fun s H C l fp => (he s H C l fp).pe) hs, fun g S o S' h q s H D w sl po => ?_⟩
  rcases bs_inv h with ⟨d, S1, h1, h⟩ | ⟨c, fs, h1, rfl⟩
  · cases h
    rcases bd_inv h1 with ⟨xs, S2, h2, h⟩ | ⟨c, fs, h2, e⟩
    · cases h
      refine lc_post hv ei h2 w sl fun q1 H1 L vs g1 w1 h0 hL hn d1 => ?_
      have e1 : (S2 ++ [MO.lst xs]).length = S2.length + 1 := by rw [List.length_append, List.length_singleton]
      have gr : Gr q S.length H (put q1 S2.length L) (S2 ++ [MO.lst xs]).length H1 := by rw [e1]; exact g1.adopt h0
      refine po (put q1 S2.length L) H1 _ gr (w1.adopt hn ⟨vs, hL, d1.mono .adopt⟩) ((sl.mono gr).set i ?_)
      rw [e1]
      have := Dt.ptr (K := X.K) (q := put q1 S2.length L) (n := S2.length + 1) (H := H1) (m := S2.length) (Nat.lt_succ_self _)
      rw [put_eq] at this
      exact this
    · cases e
  · rcases bd_inv h1 with ⟨xs, S2, h2, h⟩ | ⟨c, fs, h2, e⟩
    · cases h
    · cases e
      exact lc_post hv ei h2 w sl po
end
end U

set_option Elab.async false
set_option linter.all false
set_option maxRecDepth 100000
set_option maxHeartbeats 1000000
namespace U
open PySem L2
/-! ### defs -/
abbrev DM := List D → ST → Option (Rs D × ST)
def spM (K : Fr) (cl : Cl) (n : Nat) (m : DM) : Sp := fun vs H Q E => vs.length = n ∧ ∃ q S ds r S', Wd K q S H ∧ Dts K q S.length H vs ds ∧ m ds S = some (r, S') ∧ Post K cl q S.length H E Q r S'
/-- what a def's body hands back -/
def fin (x : Option (Out × ST)) : Option (Rs D × ST) := match x with
  | some (.rt d, S) => some (.ok d, S)
  | some (.nx _, S) => some (.ok .non, S)
  | some (.ex c fs, S) => some (.ex c fs, S)
  | _ => none
def slots (n : Nat) (ds : List D) : EV := ds.map some ++ List.replicate (n - ds.length) none
def mkD (n : Nat) (body : SM) : DM := fun ds S => fin (body (slots n ds) S)
theorem sl_start {K : Fr} {q : Nat → Addr} {n : Nat} {H : Hp} {N : List Str} {vs : List V} {ds : List D} (r : Dts K q n H vs ds) : Sl K q n H (L2.start N vs) (slots N.length ds) := by
  have hl := r.length
  refine ⟨by simp [L2.start, slots, hl], fun i d e => ?_⟩
  unfold slots at e
  unfold L2.start
  by_cases hi : i < ds.length
  · rw [List.getElem?_append_left (by simpa using hi), List.getElem?_map] at e
    rw [List.getElem?_append_left (by simp [hl, hi]), List.getElem?_map]
    cases e1 : ds[i]? with
    | none => rw [e1] at e; cases e
    | some x =>
      rw [e1] at e
      cases e
      obtain ⟨v, e2, r2⟩ := r.get e1
      exact ⟨v, by rw [e2]; rfl, r2⟩
  · rw [List.getElem?_append_right (by simpa using hi)] at e
    exfalso
    rw [List.getElem?_replicate] at e
    split at e <;> cases e
/-! ### a def whose callers stand in no text-making: room, promise, run -/
structure RoomG (k : Nat) (A : Around) : Prop extends Room k A where
  gd : A.guards = some []
theorem RoomG.mono {j k : Nat} {A : Around} (r : RoomG k A) (h : j ≤ k) : RoomG j A := ⟨Room.mono r.toRoom h, r.gd⟩
theorem RoomG.units {k : Nat} {A : Around} (r : RoomG k A) : A.units + 64 < cLine := r.toRoom.units
theorem RoomG.down {k : Nat} {A : Around} (r : RoomG (k + 1) A) (env : Env) : RoomG k (A.deeper env) := ⟨r.toRoom.deeper env, r.gd⟩
structure FnG (P : Program) (w : World) (K : Fr) (mg : Str → Option Value) (base : Heap) (CX : CXT) (k : Nat) (f : Addr) (fd : FuncData) (ps : List Str) (sp : Sp) : Prop where
  len : ∀ vs H Q E, sp vs H Q E → vs.length = ps.length
  run : ∀ (A : Around) (outer : List Env) (s : Shared) (H : Hp) (args : Args) (us : List Value) (vs : List V) (Q : VK) (E : XK), RoomG k A → Env0 P w K mg base A outer s H → BindsTo s fd args (ps.zip us) → Vals vs us → sp vs H Q E → codeAny (model P w) A (.call (.ref f) args) (CR CX outer P w H s Q E) s
section
open PySem.Spec PyProof.Rows
theorem fng_of {CX : CXT} {P : Program} {w : World} {K : Fr} {mg : Str → Option Value} {base : Heap} {k : Nat} {f : Addr} {name qual : Str} {params : Arguments} {body : List Stmt} {scope : Scope} {dvs : List V} {kws : List (Str × V)} {fd : FuncData} {N ps : List Str} {sp : Sp} (F : FunD K name qual params body scope dvs kws f fd) (S : FnScope N ps scope) (len : ∀ vs H Q E, sp vs H Q E → vs.length = ps.length)
    (hb : ∀ (cdv : Value) (A : Around) (outer : List Env) (s : Shared) (H : Hp) (vs : List V) (Q : VK) (E : XK), RoomG k (A.deeper (envOfC qual scope s.heap.objs.size f cdv)) → sp vs H Q E → ∃ t, PSs (cxOf CX P w K mg base N qual scope f cdv A outer s H E) body t ∧ t { nx := fun _ H' => Q .non H', rt := Q } (start N vs) H) : FnG P w K mg base CX (k + 1) f fd ps sp := by
  obtain ⟨oc, od, dV, kV, doc, pm, an, cdv, ct, osl, rfl, lk, hcd, _, _⟩ := F.ex
  constructor
  · exact len
  · intro A outer s H args us vs Q E hr e0 hbd r hsp
    have hl := len vs H Q E hsp
    have kp : ∀ b o, base.get? b = some o → s.heap.get? b = some o := fun b o e => (e0.bs b o e).1
    have KX := e0.mod.kin.keeps kp
    have hk : ∀ y ∈ ps.zip us, scope.names.lookup y.1 = some .local ∨ (scope.names.lookup y.1 = some .cell ∧ ((cellsFrom (s.heap.objs.size + 1) scope.names []).lookup y.1).isSome = true) := by
      rintro ⟨n, v⟩ hy
      exact (S.par n (List.of_mem_zip hy).1).elim (fun q => .inl q) fun q => .inr ⟨q, PySem.W.cellsFrom_some _ _ _ (.inl q)⟩
    refine codeAny_call_function hr.toRoom.depth (KX _ _ lk) rfl S.co S.gen rfl (PySem.W.codeRec_of KX hcd) (hbd _ _ _ _ (wpAny_newFunctionEnv_cells S.kind hk ?_))
    rintro env rfl s1 x
    refine ⟨(e0.mod.nolimit.keeps kp).keeps x.toInCall.keep, codeAny_func ?_⟩
    obtain ⟨t, ht, hq⟩ := hb cdv A outer s H vs Q E (hr.down _) hsp
    refine wpAny_mono (ht.run [] s1 (start N vs) H _ (inv_start S hr.hd e0 hl r x) hq) (fun fl s' hs => ?_) fun e s' hs => hs
    cases fl with
    | ret u => obtain ⟨v, σ', H', J, rv, q⟩ := hs; exact ⟨v, H', J.os, J.bare, J.base, J.hok, rv, q⟩
    | next => obtain ⟨σ', H', J, q⟩ := hs; exact ⟨.non, H', J.os, J.bare, J.base, J.hok, rfl, q⟩
    | brk => exact hs.elim fun _ ⟨_, _, q⟩ => q.elim
    | cont => exact hs.elim fun _ ⟨_, _, q⟩ => q.elim
section
variable {X : Cx} {CX : CXT} {k : Nat} {f : Addr} {fd : FuncData} {ps : List Str} {sp : Sp} {E : XK} {x : Str} {p pos : Pos} {e : Expr} {es : List Expr} {t : TA}
theorem rung {pins : List (Addr × Obj)} {σ : L2.St} {H : Hp} {s : Shared} {Q : VK} {us : List Value} {vs : List V} {args : Args} (F : FnG X.prog X.w X.K X.mg X.base CX k f fd ps sp) (hr : RoomG k X.A) (hx : Passes CX X E) (I : Inv X pins σ H s) (hb : BindsTo s fd args (ps.zip us)) (r : Vals vs us) (h : sp vs H Q E) :
    wpAny (model X.prog X.w) X.A (call (.ref f) args.pos args.kw) (EP X pins σ Q) X.xe s := by
  refine wpAny_call (codeAny_mono (F.run X.A X.stack s H args us vs Q E hr I.env0 hb r h) ?_)
  rintro (e | fl) s' hq
  · exact hx pins σ H s e s' I hq
  · cases fl with
    | ret u => exact I.after hq
    | next => exact hq.elim
    | brk => exact hq.elim
    | cont => exact hq.elim
theorem peg_call (F : FnG X.prog X.w X.K X.mg X.base CX k f fd ps sp) (hr : RoomG k X.A) (hg : Gl X x) (hm : X.mg x = some (.ref f)) (hk : PySem.W.keepIn X.K (.ref f) = true) (hb : Binds X.K fd ps []) (hx : Passes CX X E) (ha : PA X (e :: es) t) (hdb : (x == ("__debug__" : Str)) = false)
    (he : starEach (e :: es) X.env = (false, eval e X.env) :: starEach es X.env) (hpl : (backTo pos (starEach es X.env)).any (·.1) = false) : PE X (.Call (.Name x p) (e :: es) [] pos) (tCall sp [] E t) := by
  constructor
  intro pins s σ H Q I h
  refine wpAny_Call_Name_kw (ld_glob I hg hm (PySem.W.callWith_K (h₀ := X.base) I.ok.mod.kin hk (thn (ha.run pos pins s σ H _ I h) ?_) he hpl) hdb)
  rintro us s1 ⟨vs, H1, I1, r, q⟩
  rw [List.append_nil] at q
  have b := hb s1 us I1.kIn (by rw [List.append_nil, ← r.length]; exact F.len vs H1 Q E q)
  rw [List.append_nil] at b
  exact ⟨I1.kIn, rung F hr hx I1 b r q⟩
theorem peg_call0 (F : FnG X.prog X.w X.K X.mg X.base CX k f fd ps sp) (hr : RoomG k X.A) (hg : Gl X x) (hm : X.mg x = some (.ref f)) (hk : PySem.W.keepIn X.K (.ref f) = true) (hb : Binds X.K fd ps []) (hx : Passes CX X E) (hdb : (x == ("__debug__" : Str)) = false) : PE X (.Call (.Name x p) [] [] pos) (tCall sp [] E tNil) := by
  constructor
  intro pins s σ H Q I h
  have q : sp [] H Q E := h
  have b := hb s [] I.kIn (by rw [List.append_nil]; exact F.len [] H Q E q)
  rw [List.append_nil] at b
  refine wpAny_Call_Name_kw (ld_glob I hg hm ?_ hdb)
  exact PySem.W.callWith_K0 I.kIn hk (rung F hr hx I b .nil q)
end
end
/-- the def that the name x holds keeps its mirror m, calls j deep -/
def OkA (P : Program) (w : World) (K : Fr) (mg : Str → Option Value) (base : Heap) (cl : Cl) (x : Str) (j : Nat) (ps : List Str) (m : DM) (f : Addr) (fd : FuncData) : Prop :=
  FnG P w K mg base (L2.CX P w) j f fd ps (spM K cl ps.length m) ∧ mg x = some (.ref f) ∧ PySem.W.keepIn K (.ref f) = true ∧ Binds K fd ps []
def Okf (P : Program) (w : World) (K : Fr) (mg : Str → Option Value) (base : Heap) (cl : Cl) (x : Str) (j : Nat) (ps : List Str) (m : DM) : Prop :=
  ∃ f fd, OkA P w K mg base cl x j ps m f fd
section
variable {P : Program} {w : World} {K : Fr} {mg : Str → Option Value} {base : Heap} {cl : Cl}
theorem fn_mk {x qual : Str} {params : Arguments} {body : List Stmt} {scope : Scope} {dvs : List V} {kws : List (Str × V)} {f : Addr} {fd : FuncData} {N ps : List Str} {k : Nat} {mb : SM} (F : FunD K x qual params body scope dvs kws f fd) (S : FnScope N ps scope)
    (hb : ∀ (cdv : Value) (A : Around) (outer : List Env) (s : Shared) (H : Hp) (E : XK), RoomG k (A.deeper (PyProof.Rows.envOfC qual scope s.heap.objs.size f cdv)) → ESs (cxOf (L2.CX P w) P w K mg base N qual scope f cdv A outer s H E) cl E body mb) :
    FnG P w K mg base (L2.CX P w) (k + 1) f fd ps (spM K cl ps.length (mkD N.length mb)) := by
  refine fng_of F S (fun vs H Q E h => h.1) fun cdv A outer s H vs Q E hr h => ?_
  obtain ⟨t, pt, et⟩ := hb cdv A outer s H E hr
  refine ⟨t, pt, ?_⟩
  obtain ⟨hl, q, S, ds, r, S', wd, dd, hm, po⟩ := h
  unfold mkD fin at hm
  split at hm
  · rename_i d S1 hb
    cases hm
    exact et _ S _ _ hb q _ H _ wd (sl_start dd) fun q1 H1 v g1 w1 d1 => po q1 H1 v g1 w1 d1
  · rename_i g S1 hb
    cases hm
    exact et _ S _ _ hb q _ H _ wd (sl_start dd) fun q1 H1 s1 g1 w1 sl1 => po q1 H1 .non g1 w1 .non
  · rename_i c fs S1 hb
    cases hm
    exact et _ S _ _ hb q _ H _ wd (sl_start dd) po
  · cases hm
theorem okf_mk {x qual : Str} {params : Arguments} {body : List Stmt} {scope : Scope} {kws : List (Str × V)} {f : Addr} {fd : FuncData} {N ps : List Str} {k : Nat} {mb : SM} (F : FunD K x qual params body scope [] kws f fd) (hm : mg x = some (.ref f)) (S : FnScope N ps scope)
    (hbn : ∀ (kV doc pm : Value) (an : Option Addr) (cdv ct : Value) (us : List Value), us.length = ps.length → bindArgs (PySem.W.fnOf x qual params body scope .none kV doc pm an cdv ct) ⟨us, []⟩ = pure (ps.zip us))
    (hb : ∀ (cdv : Value) (A : Around) (outer : List Env) (s : Shared) (H : Hp) (E : XK), RoomG k (A.deeper (PyProof.Rows.envOfC qual scope s.heap.objs.size f cdv)) → ESs (cxOf (L2.CX P w) P w K mg base N qual scope f cdv A outer s H E) cl E body mb) :
    OkA P w K mg base cl x (k + 1) ps (mkD N.length mb) f fd := ⟨fn_mk F S hb, hm, F.kp, F.bindsN hbn⟩
theorem OkA.okf {x : Str} {j : Nat} {ps : List Str} {m : DM} {f : Addr} {fd : FuncData} (h : OkA P w K mg base cl x j ps m f fd) : Okf P w K mg base cl x j ps m := ⟨f, fd, h⟩
end
/-! ### calls of them -/
section
variable {X : Cx} {cl : Cl} {E : XK} {e a b c : Expr} {es : List Expr} {pos p : Pos} {m ma mb : EM} {mr mk : AM} {x : Str} {j : Nat} {ps : List Str} {d : DM}
theorem spM_ca {K : Fr} {n : Nat} (hn : ∀ ds S r S', d ds S = some (r, S') → ds.length = n) : CaE K cl E (fun vs H Q => spM K cl n d (vs ++ []) H Q E) d := by
  intro xs S z S' h q H vs Q w hx po
  refine ⟨by rw [List.append_nil, hx.length]; exact hn xs S z S' h, q, S, xs, z, S', w, by rw [List.append_nil]; exact hx, h, ?_⟩
  cases z with
  | ok d => exact fun q' H' v g' w' hd => .inl (po q' H' v g' w' hd)
  | ex c fs => exact po
/-- the mirror asks as many things as there are parameters -/
def Ar (n : Nat) (d : DM) : DM := fun ds S => if ds.length = n then d ds S else none
theorem Ar.len {n : Nat} {ds : List D} {S S' : ST} {r : Rs D} (h : Ar n d ds S = some (r, S')) : ds.length = n := by
  unfold Ar at h
  split at h
  · assumption
  · cases h
theorem Ar.get {n : Nat} {ds : List D} {S S' : ST} {r : Rs D} (h : Ar n d ds S = some (r, S')) : d ds S = some (r, S') := by
  unfold Ar at h
  split at h
  · exact h
  · cases h
theorem ee_call (F : Okf X.prog X.w X.K X.mg X.base cl x j ps d) (hr : RoomG j X.A) (hx : Passes (L2.CX X.prog X.w) X E) (ha : EA X cl E (e :: es) mr) (hg : Gl X x := by rfl) (hdb : (x == ("__debug__" : Str)) = false := by decide)
    (he : starEach (e :: es) X.env = (false, eval e X.env) :: starEach es X.env := by rfl) (hpl : (backTo pos (starEach es X.env)).any (·.1) = false := by rfl) {nn : Nat} (hnn : ps.length = nn := by rfl) : EE X cl E (.Call (.Name x p) (e :: es) [] pos) (eCall (Ar nn d) mr) := by
  subst hnn
  obtain ⟨f, fd, F, hm, hk, hb⟩ := F
  obtain ⟨ta, pa, ea⟩ := ha
  refine ⟨_, peg_call F hr hg hm hk hb hx pa hdb he hpl, fun g S z S' h q s H Q w sl po => ?_⟩
  rcases bd_inv h with ⟨xs, S1, h1, h⟩ | ⟨c, fs, h1, rfl⟩
  · refine ea g S _ S1 h1 q s H _ w sl fun q1 H1 vs g1 w1 d1 => ?_
    exact ⟨by rw [List.append_nil, d1.length]; exact Ar.len h, q1, S1, xs, z, S', w1, by rw [List.append_nil]; exact d1, Ar.get h, po.to g1⟩
  · exact ea g S _ S' h1 q s H _ w sl (Post.ex (Q' := fun _ _ => False) po)
theorem ee_call0 (F : Okf X.prog X.w X.K X.mg X.base cl x j ps d) (hr : RoomG j X.A) (hx : Passes (L2.CX X.prog X.w) X E) (hg : Gl X x := by rfl) (hdb : (x == ("__debug__" : Str)) = false := by decide) {nn : Nat} (hnn : ps.length = nn := by rfl) : EE X cl E (.Call (.Name x p) [] [] pos) (eCall (Ar nn d) aNil) := by
  subst hnn
  obtain ⟨f, fd, F, hm, hk, hb⟩ := F
  refine ⟨_, peg_call0 F hr hg hm hk hb hx hdb, fun g S z S' h q s H Q w sl po => ?_⟩
  have h : Ar ps.length d [] S = some (z, S') := h
  exact ⟨Ar.len h, q, S, [], z, S', w, .nil, Ar.get h, po⟩
/-! the end of a law -/
theorem cx_false {P : Program} {w : World} {l : List Env} {H : Hp} {s : Shared} {u : Value} {s' : Shared} (h : L2.CX P w l H s (fun _ _ _ => False) u s') : False := by
  obtain ⟨_, _, _, _, _, _, _, _, _, _, _, _, z⟩ := h
  exact z
theorem dts_ints {K : Fr} {q : Nat → Addr} {n : Nat} {H : Hp} : ∀ ns : List Int, Dts K q n H (ns.map V.int) (ns.map D.int)
  | [] => .nil
  | i :: ns => .cons (.int i) (dts_ints ns)
theorem fzl_of {K : Fr} {H : Hp} {a : Addr} {xs : List V} (hO : Only H) (h : SqL K H a xs) : FzL K H a xs := by
  rcases h with (h | ⟨o, h⟩) | h
  · rcases hO a with z | ⟨o, ys, z⟩
    · rw [h] at z; cases z
    · rw [h] at z; cases z
  · exact .inl ⟨o, h⟩
  · exact .inr h
/-- from the mirror of the law to its promise -/
theorem law_sp {K : Fr} {cl : Cl} {d : DM} {H : Hp} {a : Addr} {ns : List Int} {S' : ST} (hO : Only H) (h : SqL K H a (ns.map V.int)) (hd : d [.kls (ns.map D.int)] [] = some (.ok (.bl true), S')) :
    spM K cl 1 d [.ref a] H (fun v _ => v = .bl true) fun _ _ _ => False :=
  ⟨rfl, fun _ => 0, [], _, _, S', ⟨fun m _ h => absurd h (Nat.not_lt_zero _), fun m o h => by simp at h⟩, .cons (.kls (fzl_of hO h) (dts_ints ns)) .nil, hd, fun q' H' v g w r => r.bl_inv⟩
end
end U

set_option Elab.async false
set_option linter.all false
set_option maxRecDepth 100000
set_option maxHeartbeats 1000000
namespace U
open PySem L2
/-! ### built-ins by their names -/
section
variable {X : Cx} {cl : Cl} {E : XK} {e a b c : Expr} {es : List Expr} {pos p : Pos} {m ma mb : EM} {mr : AM} {x : Str}
theorem ee_blt {id : String} {r : List V → Hp → VK → Prop} {f : List D → ST → Option (Rs D × ST)} (hc : CallR X (.builtin id) r) (hf : CaE X.K cl E r f) (hm : X.mg x = none) (hv : bootBuiltins x = some (.builtin id)) (ha : EA X cl E (e :: es) mr)
    (hg : Gl X x := by rfl) (hn : x ≠ "__name__" := by decide) (hdb : (x == ("__debug__" : Str)) = false := by decide) (he : starEach (e :: es) X.env = (false, eval e X.env) :: starEach es X.env := by rfl) (hpl : (backTo pos (starEach es X.env)).any (·.1) = false := by rfl) :
    EE X cl E (.Call (.Name x p) (e :: es) [] pos) (eCall f mr) := ee_callP hf ha fun ta pa => pe_callB hc hg hm hv pa hn hdb he hpl
theorem ee_ty {T : String} {r : List V → Hp → VK → Prop} {f : List D → ST → Option (Rs D × ST)} (hc : CallR X (.type T) r) (hf : CaE X.K cl E r f) (hm : X.mg x = none) (hv : bootBuiltins x = some (.type T)) (ha : EA X cl E (e :: es) mr)
    (hg : Gl X x := by rfl) (hn : x ≠ "__name__" := by decide) (hdb : (x == ("__debug__" : Str)) = false := by decide) (he : starEach (e :: es) X.env = (false, eval e X.env) :: starEach es X.env := by rfl) (hpl : (backTo pos (starEach es X.env)).any (·.1) = false := by rfl) :
    EE X cl E (.Call (.Name x p) (e :: es) [] pos) (eCall f mr) := ee_callP hf ha fun ta pa => pe_callTy hc hg hm hv pa hn hdb he hpl
theorem eo_ty {T : String} {r : List V → Hp → VK → Prop} {f : List D → ST → Option (Rs (List D) × ST)} (hc : CallR X (.type T) r) (hf : CaO X.K cl E r f) (hm : X.mg x = none) (hv : bootBuiltins x = some (.type T)) (ha : EA X cl E (e :: es) mr)
    (hg : Gl X x := by rfl) (hn : x ≠ "__name__" := by decide) (hdb : (x == ("__debug__" : Str)) = false := by decide) (he : starEach (e :: es) X.env = (false, eval e X.env) :: starEach es X.env := by rfl) (hpl : (backTo pos (starEach es X.env)).any (·.1) = false := by rfl) :
    EO X cl E (.Call (.Name x p) (e :: es) [] pos) (oCall f mr) := eo_callP hf ha fun ta pa => pe_callTy hc hg hm hv pa hn hdb he hpl
theorem eo_blt {id : String} {r : List V → Hp → VK → Prop} {f : List D → ST → Option (Rs (List D) × ST)} (hc : CallR X (.builtin id) r) (hf : CaO X.K cl E r f) (hm : X.mg x = none) (hv : bootBuiltins x = some (.builtin id)) (ha : EA X cl E (e :: es) mr)
    (hg : Gl X x := by rfl) (hn : x ≠ "__name__" := by decide) (hdb : (x == ("__debug__" : Str)) = false := by decide) (he : starEach (e :: es) X.env = (false, eval e X.env) :: starEach es X.env := by rfl) (hpl : (backTo pos (starEach es X.env)).any (·.1) = false := by rfl) :
    EO X cl E (.Call (.Name x p) (e :: es) [] pos) (oCall f mr) := eo_callP hf ha fun ta pa => pe_callB hc hg hm hv pa hn hdb he hpl
theorem ee_gint {i : Int} (h : ∃ t, X.mg x = some (.int i t)) (hg : Gl X x := by rfl) (hdb : (x == ("__debug__" : Str)) = false := by decide) : EE X cl E (.Name x pos) (eC (.int i)) := by
  obtain ⟨t, h⟩ := h
  exact ee_glob (v := .int i) hg h ⟨t, rfl⟩ (fun _ _ _ => .int i) hdb
theorem ee_gstr {i : Str} (h : ∃ t, X.mg x = some (.str i t)) (hg : Gl X x := by rfl) (hdb : (x == ("__debug__" : Str)) = false := by decide) : EE X cl E (.Name x pos) (eC (.str i)) := by
  obtain ⟨t, h⟩ := h
  exact ee_glob (v := .str i) hg h ⟨t, rfl⟩ (fun _ _ _ => .str i) hdb
end
theorem b_int : bootBuiltins "int" = some (.type "int") := by decide +kernel
theorem b_bool : bootBuiltins "bool" = some (.type "bool") := by decide +kernel
theorem b_str : bootBuiltins "str" = some (.type "str") := by decide +kernel
theorem b_tuple : bootBuiltins "tuple" = some (.type "tuple") := by decide +kernel
theorem b_list : bootBuiltins "list" = some (.type "list") := by decide +kernel
theorem b_dict : bootBuiltins "dict" = some (.type "dict") := by decide +kernel
theorem b_isi : bootBuiltins "isinstance" = some (.builtin "isinstance") := by decide +kernel
theorem b_len : bootBuiltins "len" = some (.builtin "len") := by decide +kernel
theorem b_all : bootBuiltins "all" = some (.builtin "all") := by decide +kernel
theorem b_any : bootBuiltins "any" = some (.builtin "any") := by decide +kernel
theorem b_abs : bootBuiltins "abs" = some (.builtin "abs") := by decide +kernel
theorem b_max : bootBuiltins "max" = some (.builtin "max") := by decide +kernel
theorem b_min : bootBuiltins "min" = some (.builtin "min") := by decide +kernel
/-! ### name, *name = a tuple -/
section
open PySem.Spec PyProof.Rows PySem.Calls
variable {prog : Program} {w : World} {A : Around} {E : Value → Shared → Prop} {s : Shared}
theorem star_tup {l : Addr} {items : Array Value} {n i : Nat} {Q : List Value → Shared → Prop} (hl : PyProof.Rows.IsTup s.heap l items) (hh : A.handled = none) (hi : i < n) (hn : n ≤ items.size + 1) (hz : items.size ≤ 16384)
    (h : ∀ h' tk, Heap.ExtBut s.heap.objs.size s.heap h' → Q (items.toList.take i ++ [.ref h'.objs.size] ++ (items.toList.drop i).drop (items.size + 1 - n)) { s with heap := h'.push { cls := .type "list", data := .seq ((items.toList.drop i).take (items.size + 1 - n)).toArray }, toks := tk }) :
    wpAny (model prog w) A (unpackItems (.ref l) n (some i)) Q E s := by
  have hlt : l ≠ s.heap.objs.size := by obtain ⟨o, ho, _⟩ := hl; exact Nat.ne_of_lt (Heap.lt_size ho)
  unfold unpackItems
  refine wpAny_bind ?_
  unfold notIterableAtAll
  refine wpAny_bind (wpAny_specialOf hl.typeIs slot_tuple_iter.lookup ?_)
  refine wpAny_pure ?_
  simp only [Bool.false_eq_true, if_false]
  refine wpAny_bind (wpAny_holding (PyProof.Rows.iter_tuple hl ?_))
  refine wpAny_bind (wpAny_holding (PyProof.Rows.draw_tuple hlt i 0 _ _ ⟨_, Heap.get?_push_size _ rfl, rfl, rfl⟩ (hl.push _) (by omega) fun h1 hit1 hs1 => ?_))
  have hl1 : PyProof.Rows.IsTup h1 l items := (hl.push _).extBut hs1.extBut hlt
  rw [Nat.zero_add] at hit1
  obtain ⟨oi, hoi, _⟩ := id hit1
  obtain ⟨ol, hol, _⟩ := id hl1
  rw [List.drop_zero]
  have hfl : (items.toList.take i).length = i := by rw [List.length_take, Array.length_toList]; omega
  rw [if_neg (show ¬ ((items.toList.take i).length < i) by rw [hfl]; omega)]
  refine wpAny_bind (wpAny_holding (PySem.W.kun_collect (s := { s with heap := h1 }) (T := "tuple_iterator") (.inr (.inr (.inr rfl))) (Walks.tuple (A := A.in1) hh s.heap.objs.size l hlt items) (fun j u st => st.1.typeIs) (k := i) (by omega) ⟨hit1, hl1⟩ (Heap.lt_size hoi) (Heap.lt_size hol) (fun h2 tk hk => ?_) (by rw [sizeLine_eq]; omega)))
  have hrl : (items.toList.drop i).length = items.size - i := by rw [List.length_drop, Array.length_toList]
  have hmid : (items.toList.drop i).length - (n - 1 - i) = items.size + 1 - n := by rw [hrl]; omega
  show wpAny _ _ (if (items.toList.drop i).length < n - 1 - i then _ else _) _ _ _
  rw [if_neg (by rw [hrl]; omega)]
  show wpAny _ _ (newList ((items.toList.drop i).take ((items.toList.drop i).length - (n - 1 - i))) >>= fun d => pure (items.toList.take i ++ [d] ++ (items.toList.drop i).drop ((items.toList.drop i).length - (n - 1 - i)))) _ _ _
  rw [hmid]
  have he : Heap.ExtBut s.heap.objs.size s.heap h2 := fun b o hb e => hk b o hb (hs1.extBut b o hb (Heap.get?_push_of_some _ e))
  exact wpAny_bind (wpAny_newList (s := { s with heap := h2, toks := tk }) (wpAny_pure (h h2 tk he)) (by rw [List.length_take, hrl, sizeLine_eq]; omega))
end
section
open PyProof.Rows (assign_Tuple)
variable {X : Cx} {pos px py ps : Pos} {x y : Str} {k : Nat}
def gStarT (K : Fr) (i j : Nat) : TG := fun v s H Q => ∃ a z zs, v = .ref a ∧ SqT K H a (z :: zs) ∧ zs.length ≤ 16000 ∧ ∀ p, H p = none → ∀ o, Q ((s.set i (some z)).set j (some (.ref p))) (upd H p (.frz o (.lst zs)))
theorem pg_star (i j : Nat) (hc : X.calm = true) (hN : X.N.Nodup) (hi : X.N[i]? = some x) (hj : X.N[j]? = some y) (hx : Loc X.env.scope x) (hy : Loc X.env.scope y) (fx : X.fn x = true ∨ X.env.scope.names.lookup x = some .local) (fy : X.fn y = true ∨ X.env.scope.names.lookup y = some .local) :
    PG X (.Tuple [.Name x px, .Starred (.Name y py) ps] k pos) (gStarT X.K i j) := by
  refine ⟨fun pins s σ H v u Q I r hw => ?_⟩
  obtain ⟨a, z, zs, rfl, hq, hl, q⟩ := hw
  cases r
  obtain ⟨its, rv, ht, hz⟩ := I.tuple hq
  cases rv with
  | @cons _ uz _ uzs rz rzs =>
    have l1 := rzs.length
    rw [assign_Tuple]
    refine wpAny_bind (wpAny_standAt ?_)
    have e1 : (assignEach [.Name x px, .Starred (.Name y py) ps] X.env) = [(false, assign (.Name x px) X.env), (true, assign (.Name y py) X.env)] := rfl
    unfold unpack
    rw [e1]
    show wpAny _ _ (holding [.ref a] (unpackItems (.ref a) 2 (some 1)) >>= fun items => assignInOrder [assign (.Name x px) X.env, assign (.Name y py) X.env] items) _ _ _
    refine wpAny_bind (wpAny_holding (star_tup ht (I.ok.hd hc) (by decide) (by rw [List.size_toArray]; simp) (by rw [List.size_toArray]; simp; omega) fun h' tk he => ?_))
    have e2 : List.take 1 (uz :: uzs).toArray.toList ++ [.ref h'.objs.size] ++ List.drop ((uz :: uzs).toArray.size + 1 - 2) (List.drop 1 (uz :: uzs).toArray.toList) = [uz, .ref h'.objs.size] := by simp
    have e3 : List.take ((uz :: uzs).toArray.size + 1 - 2) (List.drop 1 (uz :: uzs).toArray.toList) = uzs := by simp
    rw [e2, e3]
    have I1 : Inv X pins σ H { s with heap := h', toks := tk } := I.kept fun b o e => he b o (Nat.ne_of_lt (Heap.lt_size e)) e
    have I2 := I1.lnew (t' := tk) rzs (by rw [sizeLine_eq]; omega)
    obtain ⟨o, I3⟩ := inv_shut I2 upd_same (.inl ⟨zs, rfl⟩)
    rw [upd_upd] at I3
    refine PyProof.Rows.assignInOrder_cons (wpAny_assign_Name (store_ok I3 hN hi hx rz (fun s4 I4 => ?_) fx))
    refine PyProof.Rows.assignInOrder_cons (wpAny_assign_Name (store_ok (v := .ref h'.objs.size) I4 hN hj hy rfl (fun s5 I5 => PyProof.Rows.assignInOrder_nil ?_) fy))
    exact ⟨_, _, I5, q _ I1.fresh o⟩
def gStar (i j : Nat) : GM := fun d g S => match d with
  | .tup (x :: xs) => if xs.length ≤ 16000 then some ((g.set i (some x)).set j (some (.lst xs)), S) else none
  | _ => none
theorem eg_star (i j : Nat) (hc : X.calm = true) (hN : X.N.Nodup) (hi : X.N[i]? = some x := by rfl) (hj : X.N[j]? = some y := by rfl) (hx : Loc X.env.scope x := by first | exact Or.inl rfl | exact Or.inr rfl) (hy : Loc X.env.scope y := by first | exact Or.inl rfl | exact Or.inr rfl)
    (fx : X.fn x = true ∨ X.env.scope.names.lookup x = some .local := by first | exact .inl rfl | exact .inr rfl) (fy : X.fn y = true ∨ X.env.scope.names.lookup y = some .local := by first | exact .inl rfl | exact .inr rfl) :
    EG X (.Tuple [.Name x px, .Starred (.Name y py) ps] k pos) [i, j] (gStar i j) := by
  refine ⟨_, pg_star i j hc hN hi hj hx hy fx fy, fun d g S g' S' h q s H v Q w sl hd kk => ?_⟩
  unfold gStar at h
  split at h
  · split at h
    · rename_i hl
      cases h
      obtain ⟨a, vs, rfl, sq, r⟩ := hd.tup_inv
      cases r with
      | cons r1 r2 =>
        have l2 := r2.length
        refine ⟨a, _, _, rfl, sq, by omega, fun p hp o => ?_⟩
        refine kk q _ _ (Gr.new hp) (w.new hp) (((sl.mono (Gr.new hp)).set i (r1.mono (Gr.new hp).ge)).set j (.lst (o := o) upd_same (r2.mono (Gr.new hp).ge))) ⟨by simp, fun z hz => ?_⟩
        simp only [List.mem_cons, List.not_mem_nil, or_false, not_or] at hz
        rw [List.getElem?_set_ne (Ne.symm hz.2), List.getElem?_set_ne (Ne.symm hz.1)]
    · cases h
  · cases h
/-! ### a, b = a tuple of two -/
def gTwo (i j : Nat) : GM := fun d g S => match d with
  | .tup [x, y] => some ((g.set i (some x)).set j (some y), S)
  | _ => none
theorem eg_two (i j : Nat) (hc : X.calm = true) (hN : X.N.Nodup) (hi : X.N[i]? = some x := by rfl) (hj : X.N[j]? = some y := by rfl) (hx : Loc X.env.scope x := by first | exact Or.inl rfl | exact Or.inr rfl) (hy : Loc X.env.scope y := by first | exact Or.inl rfl | exact Or.inr rfl)
    (fx : X.fn x = true ∨ X.env.scope.names.lookup x = some .local := by first | exact .inl rfl | exact .inr rfl) (fy : X.fn y = true ∨ X.env.scope.names.lookup y = some .local := by first | exact .inl rfl | exact .inr rfl) :
    EG X (.Tuple [.Name x px, .Name y py] k pos) [i, j] (gTwo i j) := by
  refine ⟨_, pg_tup (n := 2) hc (pgs_cons (pg_name (i := i) hN hi hx fx) (pgs_cons (pg_name (i := j) hN hj hy fy) pgs_nil)), fun d g S g' S' h q s H v Q w sl hd kk => ?_⟩
  unfold gTwo at h
  split at h
  · cases h
    obtain ⟨a, vs, rfl, sq, r⟩ := hd.tup_inv
    obtain ⟨u1, u2, rfl, r1, r2⟩ := dts2 r
    refine ⟨a, _, rfl, sq, rfl, u1, [u2], rfl, u2, [], rfl, rfl, ?_⟩
    refine kk q H _ Gr.refl w ((sl.set i r1).set j r2) ⟨by simp, fun z hz => ?_⟩
    simp only [List.mem_cons, List.not_mem_nil, or_false, not_or] at hz
    rw [List.getElem?_set_ne (Ne.symm hz.2), List.getElem?_set_ne (Ne.symm hz.1)]
  · cases h
end
/-! ### f(k = v) -/
structure EK (X : Cx) (cl : Cl) (E : XK) (es : List Keyword) (m : AM) : Prop where
  ex : ∃ ta, PK X es ta ∧ ∀ g S r S', m g S = some (r, S') → ∀ q s H Q, Wd X.K q S H → Sl X.K q S.length H s g → PostA X.K cl q S.length H E Q r S' → ta s H Q
section
variable {X : Cx} {cl : Cl} {E : XK} {e a b c : Expr} {es : List Expr} {kws : List Keyword} {pos p kpos : Pos} {m ma mb : EM} {mr mk : AM} {x : Str} {nm : Option Str} {d : DM} {ps ks : List Str} {j n : Nat}
theorem ek_nil : EK X cl E [] aNil := by
  refine ⟨tNil, pk_nil, fun g S z S' h q s H Q w sl po => ?_⟩
  cases h
  exact po q H [] Gr.refl w .nil
theorem ek_cons (ha : EE X cl E e ma) (hr : EK X cl E kws mr) : EK X cl E (⟨nm, e, kpos⟩ :: kws) (aCons ma mr) := by
  obtain ⟨ta, pa, ea⟩ := ha
  obtain ⟨tr, pr, er⟩ := hr
  refine ⟨tCons ta tr, pk_cons pa pr, fun g S z S' h q s H Q w sl po => ?_⟩
  rcases bd_inv h with ⟨x, S1, h1, h⟩ | ⟨c, fs, h1, rfl⟩
  · refine ea g S _ S1 h1 q s H _ w sl fun q1 H1 vx g1 w1 d1 => ?_
    rcases bd_inv h with ⟨y, S2, h2, h⟩ | ⟨c, fs, h2, rfl⟩
    · cases h
      refine er g S1 _ _ h2 q1 s H1 _ w1 (sl.mono g1) fun q2 H2 vy g2 w2 d2 => ?_
      exact po q2 H2 (vx :: vy) (g1.trans g2) w2 (.cons (d1.mono g2.ge) d2)
    · exact er g S1 _ S' h2 q1 s H1 _ w1 (sl.mono g1) (Post.to (Q := fun _ _ => False) (r := .ex c fs) g1 po)
  · exact ea g S _ S' h1 q s H _ w sl (Post.ex (Q := fun _ _ => False) po)
/-- the def behind x, called with n positional things and the keywords ks: gV, gD put them in their order -/
def Okk (P : Program) (w : World) (K : Fr) (mg : Str → Option Value) (base : Heap) (cl : Cl) (x : Str) (j : Nat) (ps : List Str) (m : DM) (n : Nat) (ks : List Str) (gD : List D → List D → List D) : Prop :=
  ∃ f fd gv gV, FnG P w K mg base (L2.CX P w) j f fd ps (spM K cl ps.length m) ∧ mg x = some (.ref f) ∧ PySem.W.keepIn K (.ref f) = true ∧ KBn K fd ps n ks gv gV ∧
    ∀ q N H vs zs ds es, vs.length = n → zs.length = ks.length → Dts K q N H vs ds → Dts K q N H zs es → Dts K q N H (gV vs zs) (gD ds es)
section
open PyProof.Rows
theorem peg_callN0 {CX : CXT} {k : Nat} {f : Addr} {fd : FuncData} {sp : Sp} {E : XK} {tk : TA} {gv : List Value → List Value → List Value} {gV : List V → List V → List V} (F : FnG X.prog X.w X.K X.mg X.base CX k f fd ps sp) (hr : RoomG k X.A) (hg : Gl X x) (hm : X.mg x = some (.ref f)) (hk : PySem.W.keepIn X.K (.ref f) = true) (hb : KBn X.K fd ps 0 ks gv gV) (hx : Passes CX X E) (hkw : PK X kws tk)
    (hall : (backToKw pos (keywordEach kws X.env)).all (·.1.isSome) = true) (hks : (backToKw pos (keywordEach kws X.env)).filterMap (·.1) = ks) (hdb : (x == ("__debug__" : Str)) = false) (hpl : ((backTo pos (starEach [] X.env)).any (·.1) || (backToKw pos (keywordEach kws X.env)).any (·.1.isNone)) = false) : PE X (.Call (.Name x p) [] kws pos) (tCallN 0 ks.length sp gV E tNil tk) := by
  constructor
  intro pins s σ H Q I h
  refine wpAny_Call_Name_kw (ld_glob I hg hm (PySem.W.callWith_KW0 (h₀ := X.base) I.ok.mod.kin hk hall (thn (hkw.run pos pins s σ H _ I h) ?_) hpl) hdb)
  rintro ws s2 ⟨zs, H2, I2, rz, l1, l2, q2⟩
  rw [hks]
  exact ⟨I2.kIn, rung (args := ⟨[], ks.zip ws⟩) F hr hx I2 (hb.to s2 [] ws I2.kIn rfl (rz.length.symm.trans l2)) (hb.rel .nil rz) q2⟩
theorem peg_callN {CX : CXT} {k n : Nat} {f : Addr} {fd : FuncData} {sp : Sp} {E : XK} {t tk : TA} {e : Expr} {es : List Expr} {gv : List Value → List Value → List Value} {gV : List V → List V → List V} (F : FnG X.prog X.w X.K X.mg X.base CX k f fd ps sp) (hr : RoomG k X.A) (hg : Gl X x) (hm : X.mg x = some (.ref f)) (hk : PySem.W.keepIn X.K (.ref f) = true) (hb : KBn X.K fd ps n ks gv gV) (hx : Passes CX X E) (ha : PA X (e :: es) t) (hkw : PK X kws tk)
    (hall : (backToKw pos (keywordEach kws X.env)).all (·.1.isSome) = true) (hks : (backToKw pos (keywordEach kws X.env)).filterMap (·.1) = ks) (hdb : (x == ("__debug__" : Str)) = false) (he : starEach (e :: es) X.env = (false, eval e X.env) :: starEach es X.env) (hpl : ((backTo pos (starEach (e :: es) X.env)).any (·.1) || (backToKw pos (keywordEach kws X.env)).any (·.1.isNone)) = false) : PE X (.Call (.Name x p) (e :: es) kws pos) (tCallN n ks.length sp gV E t tk) := by
  constructor
  intro pins s σ H Q I h
  refine wpAny_Call_Name_kw (ld_glob I hg hm (PySem.W.callWith_KW (h₀ := X.base) I.ok.mod.kin hk hall (thn (ha.run pos pins s σ H _ I h) ?_) hpl he) hdb)
  rintro us s1 ⟨vs, H1, I1, r, q⟩
  refine thn (hkw.run pos pins s1 σ H1 _ I1 q) ?_
  rintro ws s2 ⟨zs, H2, I2, rz, l1, l2, q2⟩
  rw [hks]
  exact ⟨I2.kIn, rung (args := ⟨us, ks.zip ws⟩) F hr hx I2 (hb.to s2 us ws I2.kIn (r.length.symm.trans l1) (rz.length.symm.trans l2)) (hb.rel r rz) q2⟩
end
def eCallK (n k : Nat) (gD : List D → List D → List D) (d : DM) (a b : AM) : EM := fun g S => bd (a g S) fun xs S1 => bd (b g S1) fun zs S2 => if xs.length = n ∧ zs.length = k then d (gD xs zs) S2 else none
theorem ee_callK {kn pn : Nat} {gD : List D → List D → List D} (F : Okk X.prog X.w X.K X.mg X.base cl x j ps d n ks gD) (hl : ∀ ds es, ds.length = n → es.length = kn → (gD ds es).length = pn) (hr : RoomG j X.A) (hx : Passes (L2.CX X.prog X.w) X E) (ha : EA X cl E (e :: es) mr) (hk : EK X cl E kws mk) (hg : Gl X x := by rfl)
    (hall : (backToKw pos (keywordEach kws X.env)).all (·.1.isSome) = true := by rfl) (hks : (backToKw pos (keywordEach kws X.env)).filterMap (·.1) = ks := by rfl) (hdb : (x == ("__debug__" : Str)) = false := by decide)
    (he : starEach (e :: es) X.env = (false, eval e X.env) :: starEach es X.env := by rfl) (hpl : ((backTo pos (starEach (e :: es) X.env)).any (·.1) || (backToKw pos (keywordEach kws X.env)).any (·.1.isNone)) = false := by rfl) (hkn : ks.length = kn := by rfl) (hpn : ps.length = pn := by rfl) :
    EE X cl E (.Call (.Name x p) (e :: es) kws pos) (eCallK n kn gD d mr mk) := by
  subst hkn hpn
  obtain ⟨f, fd, gv, gV, F, hm, kp, hb, rel⟩ := F
  obtain ⟨ta, pa, ea⟩ := ha
  obtain ⟨tk, pk, ek⟩ := hk
  refine ⟨_, peg_callN F hr hg hm kp hb hx pa pk hall hks hdb he hpl, fun g S z S' h q s H Q w sl po => ?_⟩
  rcases bd_inv h with ⟨xs, S1, h1, h⟩ | ⟨c, fs, h1, rfl⟩
  · refine ea g S _ S1 h1 q s H _ w sl fun q1 H1 vs g1 w1 d1 => ?_
    rcases bd_inv h with ⟨zs, S2, h2, h⟩ | ⟨c, fs, h2, rfl⟩
    · refine ek g S1 _ S2 h2 q1 s H1 _ w1 (sl.mono g1) fun q2 H2 us g2 w2 d2 => ?_
      split at h
      · rename_i hh
        have l1 : vs.length = n := by rw [d1.length]; exact hh.1
        have l2 : us.length = ks.length := by rw [d2.length]; exact hh.2
        have dd := rel q2 S2.length H2 vs us xs zs l1 l2 (d1.mono g2.ge) d2
        exact ⟨l1, l2, by rw [dd.length]; exact hl xs zs hh.1 hh.2, q2, S2, _, z, S', w2, dd, h, po.to (g1.trans g2)⟩
      · cases h
    · exact ek g S1 _ S' h2 q1 s H1 _ w1 (sl.mono g1) (Post.ex (Q := Q) (Q' := fun _ _ => False) (po.to g1))
  · exact ea g S _ S' h1 q s H _ w sl (Post.ex (Q' := fun _ _ => False) po)
theorem ee_callK0 {kn pn : Nat} {gD : List D → List D → List D} (F : Okk X.prog X.w X.K X.mg X.base cl x j ps d 0 ks gD) (hl : ∀ ds es, ds.length = 0 → es.length = kn → (gD ds es).length = pn) (hr : RoomG j X.A) (hx : Passes (L2.CX X.prog X.w) X E) (hk : EK X cl E kws mk) (hg : Gl X x := by rfl)
    (hall : (backToKw pos (keywordEach kws X.env)).all (·.1.isSome) = true := by rfl) (hks : (backToKw pos (keywordEach kws X.env)).filterMap (·.1) = ks := by rfl) (hdb : (x == ("__debug__" : Str)) = false := by decide)
    (hpl : ((backTo pos (starEach [] X.env)).any (·.1) || (backToKw pos (keywordEach kws X.env)).any (·.1.isNone)) = false := by rfl) (hkn : ks.length = kn := by rfl) (hpn : ps.length = pn := by rfl) :
    EE X cl E (.Call (.Name x p) [] kws pos) (eCallK 0 kn gD d aNil mk) := by
  subst hkn hpn
  obtain ⟨f, fd, gv, gV, F, hm, kp, hb, rel⟩ := F
  obtain ⟨tk, pk, ek⟩ := hk
  refine ⟨_, peg_callN0 F hr hg hm kp hb hx pk hall hks hdb hpl, fun g S z S' h q s H Q w sl po => ?_⟩
  rcases bd_inv h with ⟨xs, S1, h1, h⟩ | ⟨c, fs, h1, rfl⟩
  · cases h1
    rcases bd_inv h with ⟨zs, S2, h2, h⟩ | ⟨c, fs, h2, rfl⟩
    · refine ek g S _ S2 h2 q s H _ w sl fun q2 H2 us g2 w2 d2 => ?_
      split at h
      · rename_i hh
        have l2 : us.length = ks.length := by rw [d2.length]; exact hh.2
        have dd := rel q2 S2.length H2 [] us [] zs rfl l2 .nil d2
        exact ⟨rfl, l2, by rw [dd.length]; exact hl [] zs rfl hh.2, q2, S2, _, z, S', w2, dd, h, po.to g2⟩
      · cases h
    · exact ek g S _ S' h2 q s H _ w sl (Post.ex (Q := Q) (Q' := fun _ _ => False) po)
  · cases h1
end
end U

set_option Elab.async false
set_option linter.all false
set_option maxRecDepth 100000
set_option maxHeartbeats 1000000
namespace U
open PySem L2
section
variable {X : Cx} {cl : Cl} {E : XK} {e a b c : Expr} {es : List Expr} {pos p : Pos} {m ma mb mc : EM} {mr : AM} {x : Str}
/-- a list of the store that is shut where it is handed on -/
def shF (x : D) (S : ST) : Option (Rs D × ST) := match x with
  | .ptr n => match stL S n with
    | some ds => some (.ok (.lst ds), S.set n .dead)
    | none => none
  | x => some (.ok x, S)
def eSh (a : EM) : EM := fun g S => bd (a g S) shF
theorem ee_sh (h : EE X cl E e m) : EE X cl E e (eSh m) := by
  obtain ⟨te, pe, ee⟩ := h
  refine ⟨_, pe_fz pe, fun g S z S' h q s H Q w sl po => ?_⟩
  rcases bd_inv h with ⟨x, S1, h1, h⟩ | ⟨c, fs, h1, rfl⟩
  · refine ee g S _ S1 h1 q s H _ w sl fun q1 H1 v g1 w1 d1 => ?_
    unfold shF at h
    split at h
    · split at h
      · rename_i ds e
        cases h
        obtain ⟨rfl, hm⟩ := d1.ptr_inv
        obtain ⟨vs, e1, r1⟩ := w1.ob _ _ (stL_some e)
        have hu : Shut (.lst vs) := .inl ⟨vs, rfl⟩
        refine .inr ⟨_, _, rfl, e1, hu, fun o => ?_⟩
        have el : ∀ n, (S1.set n MO.dead).length = S1.length := fun _ => List.length_set
        refine po q1 _ _ ?_ (w1.wr hm e1 trivial ⟨o, _, upd_same⟩) ?_
        · rw [el]; exact g1.trans (Gr.wr hm e1 trivial)
        · rw [el]; exact .lst (o := o) upd_same (r1.mono (Ge.wr e1 trivial))
      · cases h
    · cases h
      exact .inl (po q1 H1 v g1 w1 d1)
  · exact ee g S _ S' h1 q s H _ w sl (Post.ex (Q := Q) po)
theorem et_chain {op op' : CmpOp} {r r' : R2} {f f' : D → D → ST → Option (Rs D × ST)} (ho : OpR X (compareOp op) r) (ho' : OpR X (compareOp op') r') (hf : CpE X.K cl E r f) (hf' : CpE X.K cl E r' f')
    (ha : EE X cl E a ma) (hb : EE X cl E b mb) (hc : EE X cl E c mc) (hm : lastMarks [op, op'] [b, c] = false := by rfl) : ET X cl E (.Compare a [op, op'] [b, c] pos) (bVal (eChain f f' ma mb mc)) := by
  obtain ⟨ta, pa, ea⟩ := ha
  obtain ⟨tb, pb, eb⟩ := hb
  obtain ⟨tc, pc, ec⟩ := hc
  refine ⟨_, pt_chain ho ho' pa pb pc hm, fun g S z S' h q s H Q w sl po => ?_⟩
  have key : ∀ (z : Rs D) (S' : ST) (Q : VK), eChain f f' ma mb mc g S = some (z, S') → Post X.K cl q S.length H E Q z S' → tChain r r' ta tb tc s H Q := by
    intro z S' Q h po
    rcases bd_inv h with ⟨x, S1, h1, h⟩ | ⟨c, fs, h1, rfl⟩
    · refine ea g S _ S1 h1 q s H _ w sl fun q1 H1 vx g1 w1 d1 => ?_
      rcases bd_inv h with ⟨y, S2, h2, h⟩ | ⟨c, fs, h2, rfl⟩
      · refine eb g S1 _ S2 h2 q1 s H1 _ w1 (sl.mono g1) fun q2 H2 vy g2 w2 d2 => ?_
        rcases bd_inv h with ⟨k, S3, h3, h⟩ | ⟨c, fs, h3, rfl⟩
        · refine hf x y S2 _ S3 h3 q2 H2 vx vy _ w2 (d1.mono g2.ge) d2 fun q3 H3 vz g3 w3 d3 => ?_
          rcases bd_inv h with ⟨k', S4, h4, h⟩ | ⟨c, fs, h4, rfl⟩
          · obtain ⟨kb, rfl, e4, rfl⟩ := toB_inv h4
            cases e4
            obtain rfl := d3.bl_inv
            refine ⟨k', rfl, ?_⟩
            cases k' with
            | true =>
              show tc s H3 fun w' H4 => r' vy w' H4 Q
              rcases bd_inv (x := mc g S3) h with ⟨v, S5, h5, h⟩ | ⟨c, fs, h5, rfl⟩
              · refine ec g S3 _ S5 h5 q3 s H3 _ w3 (sl.mono ((g1.trans g2).trans g3)) fun q4 H4 vw g4 w4 d4 => ?_
                exact hf' y v S5 z S' h q4 H4 vy vw Q w4 (d2.mono (g3.trans g4).ge) d4 (po.to (((g1.trans g2).trans g3).trans g4))
              · exact ec g S3 _ S' h5 q3 s H3 _ w3 (sl.mono ((g1.trans g2).trans g3)) (Post.ex (Q := Q) (po.to ((g1.trans g2).trans g3)))
            | false =>
              cases h
              exact po q3 H3 (.bl false) ((g1.trans g2).trans g3) w3 (.bl false)
          · obtain ⟨_, _, e4, _⟩ := toB_inv h4
            cases e4
        · exact hf x y S2 _ S' h3 q2 H2 vx vy _ w2 (d1.mono g2.ge) d2 (Post.ex (Q := Q) (po.to (g1.trans g2)))
      · exact eb g S1 _ S' h2 q1 s H1 _ w1 (sl.mono g1) (Post.ex (Q := Q) (po.to g1))
    · exact ea g S _ S' h1 q s H _ w sl (Post.ex (Q := Q) po)
  rcases bd_inv h with ⟨x, S1, h1, h⟩ | ⟨c, fs, h1, rfl⟩
  · obtain ⟨kb, rfl, e4, rfl⟩ := toB_inv h
    subst e4
    refine key _ _ _ h1 fun q3 H3 v g3 w3 d3 => ?_
    obtain rfl := d3.bl_inv
    exact ⟨kb, rfl, po q3 H3 g3 w3⟩
  · exact key _ _ _ h1 (Post.ex (Q := fun _ _ => False) po)
end
end U

set_option Elab.async false
set_option linter.all false
set_option maxRecDepth 100000
set_option maxHeartbeats 1000000
namespace U
open PySem L2
/-! ### small dict displays, shut -/
def keyD : D → Option Key
  | .int i => some (.inl i)
  | .str s => some (.inr s)
  | _ => none
def eDic0 : EM := fun _ S => some (.ok (.dic []), S)
def eDic1 (a b : EM) : EM := fun g S => bd (a g S) fun x S1 => bd (b g S1) fun y S2 => match keyD x with
  | some k => some (.ok (.dic [(k, y)]), S2)
  | none => none
section
variable {X : Cx} {cl : Cl} {E : XK} {e a b c : Expr} {es : List Expr} {pos p : Pos} {m ma mb mc : EM} {mr : AM} {x : Str}
theorem ee_dic0 : EE X cl E (.Dict [] [] pos) eDic0 := by
  refine ⟨_, pe_fz pe_dnewK, fun g S z S' h q s H Q w sl po => ?_⟩
  cases h
  intro p hp
  refine .inr ⟨p, _, rfl, upd_same, .inr (.inl ⟨[], rfl⟩), fun o => ?_⟩
  rw [upd_upd]
  exact po q _ _ (Gr.new hp) (w.new hp) (.dic (o := o) upd_same .nil)
theorem keyD_inv {K : Fr} {q : Nat → Addr} {n : Nat} {H : Hp} {v : V} {d : D} {k : Key} (h : keyD d = some k) (r : Dt K q n H v d) : v = kV k := by
  cases r <;> simp only [keyD] at h <;> first | (cases h; done) | (cases h; rfl)
theorem ee_dic1 (ha : EE X cl E a ma) (hb : EE X cl E b mb) : EE X cl E (.Dict [some a] [b] pos) (eDic1 ma mb) := by
  obtain ⟨ta, pa, ea⟩ := ha
  obtain ⟨tb, pb, eb⟩ := hb
  refine ⟨_, pe_fz (pe_disp (pps_cons pa pb pps_nil) rfl rfl (by simp) (by simp)), fun g S z S' h q s H Q w sl po => ?_⟩
  intro p hp
  have g0 : Gr q S.length H q S.length (upd H p (.dK [])) := Gr.new hp
  have w0 : Wd X.K q S (upd H p (.dK [])) := w.new hp
  have n0 : ∀ m, m < S.length → q m ≠ p := fun m hm => w.ne hp hm
  rcases bd_inv h with ⟨x, S1, h1, h⟩ | ⟨c, fs, h1, rfl⟩
  · refine ea g S _ S1 h1 q s _ _ w0 (sl.mono g0) fun q1 H1 vx g1 w1 d1 => ?_
    rcases bd_inv h with ⟨y, S2, h2, h⟩ | ⟨c, fs, h2, rfl⟩
    · refine eb g S1 _ S2 h2 q1 s H1 _ w1 (sl.mono (g0.trans g1)) fun q2 H2 vy g2 w2 d2 => ?_
      split at h
      · rename_i k hk
        cases h
        have gg := g1.trans g2
        have e2 : H2 p = some (.dK []) := gg.fr p _ upd_same n0
        have n2 := gg.out upd_same n0
        obtain rfl := keyD_inv hk d1
        refine ⟨e2, [(k, vy)], rfl, by simp, .inr ⟨p, _, rfl, upd_same, .inr (.inl ⟨_, rfl⟩), fun o => ?_⟩⟩
        rw [upd_upd]
        refine po q2 _ _ ((g0.trans gg).over hp) (w2.off e2 trivial n2) (.dic (o := o) (kv := mergeK [] [(k, vy)]) upd_same ?_)
        exact .cons (d2.mono (Ge.wr e2 trivial)) .nil
      · cases h
    · exact eb g S1 _ S' h2 q1 s H1 _ w1 (sl.mono (g0.trans g1)) (Post.ex (Q := Q) (po.to (g0.trans g1)))
  · exact ea g S _ S' h1 q s _ _ w0 (sl.mono g0) (Post.ex (Q := Q) (po.to g0))
/-! ### a tuple of the module -/
theorem ee_gtup {d : D} (h : ∃ a, X.mg x = some (.ref a) ∧ ∀ q n H, Dt X.K q n H (.ref a) d) (hg : Gl X x := by rfl) (hdb : (x == ("__debug__" : Str)) = false := by decide) : EE X cl E (.Name x pos) (eC d) := by
  obtain ⟨a, h, hd⟩ := h
  exact ee_glob (v := .ref a) hg h rfl hd hdb
end
end U

set_option Elab.async false
set_option linter.all false
set_option maxRecDepth 100000
set_option maxHeartbeats 1000000
/-! ### tools of the plain part -/
namespace U
open PySem L2
def sq (x : Option (Out × ST)) (b : SM) : Option (Out × ST) := match x with
  | some (.nx g1, S1) => b g1 S1
  | r => r
def vr (x : Option (Option D)) (S : ST) : Option (Rs D × ST) := match x with
  | some (some d) => some (.ok d, S)
  | _ => none
def ga (x : Option (EV × ST)) : Option (Out × ST) := match x with
  | some (g2, S2) => some (.nx g2, S2)
  | none => none
def lcE (x : Option (List D × ST)) : Option (Rs (List D) × ST) := match x with
  | some (xs, S2) => if few xs.length = true then some (.ok xs, S2) else none
  | none => none
def cOp (op : D → D → ST → Option (Rs D × ST)) (q : EM) (g : EV) (x : D) (S : ST) : Option (Rs D × ST) := bd (q g S) (op x)
def cOk {α : Type} (f : α → D) (x : α) (S : ST) : Option (Rs D × ST) := some (.ok (f x), S)
def cA2 (x : D) (xs : List D) (S : ST) : Option (Rs (List D) × ST) := some (.ok (x :: xs), S)
def cA (r : AM) (g : EV) (x : D) (S : ST) : Option (Rs (List D) × ST) := bd (r g S) (cA2 x)
def cAsg (G : GM) (g : EV) (d : D) (S : ST) : Option (Out × ST) := ga (G d g S)
def cRt (d : D) (S : ST) : Option (Out × ST) := some (.rt d, S)
def cDr (g : EV) (_ : D) (S : ST) : Option (Out × ST) := some (.nx g, S)
def cIf (A B : SM) (g : EV) (c : Bool) (S : ST) : Option (Out × ST) := if c = true then A g S else B g S
def cPar2 (i j : Nat) (g : EV) (x y : D) (S : ST) : Option (Out × ST) := some (.nx ((g.set i (some x)).set j (some y)), S)
def cPar (i j : Nat) (q : EM) (g : EV) (x : D) (S : ST) : Option (Out × ST) := bs (q g S) (cPar2 i j g x)
def cFor (G : GM) (A : SM) (g : EV) (ds : List D) (S : ST) : Option (Out × ST) := forD G A ds g S
def cAnd (u : BM) (g : EV) (c : Bool) (S : ST) : Option (Rs Bool × ST) := if c = true then u g S else some (.ok false, S)
def cOr (u : BM) (g : EV) (c : Bool) (S : ST) : Option (Rs Bool × ST) := if c = true then some (.ok true, S) else u g S
def cNot (c : Bool) (S : ST) : Option (Rs Bool × ST) := some (.ok (!c), S)
def cEAnd2 (q : EM) (g : EV) (c : Bool) (S : ST) : Option (Rs D × ST) := if c = true then q g S else some (.ok (.bl false), S)
def cEAnd (q : EM) (g : EV) (x : D) (S : ST) : Option (Rs D × ST) := bd (toB x S) (cEAnd2 q g)
def cEOr2 (q : EM) (g : EV) (c : Bool) (S : ST) : Option (Rs D × ST) := if c = true then some (.ok (.bl true), S) else q g S
def cEOr (q : EM) (g : EV) (x : D) (S : ST) : Option (Rs D × ST) := bd (toB x S) (cEOr2 q g)
def cENot2 (c : Bool) (S : ST) : Option (Rs D × ST) := some (.ok (.bl (!c)), S)
def cENot (x : D) (S : ST) : Option (Rs D × ST) := bd (toB x S) cENot2
def cEIf (p q : EM) (g : EV) (c : Bool) (S : ST) : Option (Rs D × ST) := if c = true then p g S else q g S
def cCh3 (op' : D → D → ST → Option (Rs D × ST)) (r : EM) (g : EV) (y : D) (k : Bool) (S : ST) : Option (Rs D × ST) := if k = true then bd (r g S) (op' y) else some (.ok (.bl false), S)
def cCh2 (op' : D → D → ST → Option (Rs D × ST)) (r : EM) (g : EV) (y z : D) (S : ST) : Option (Rs D × ST) := bd (toB z S) (cCh3 op' r g y)
def cCh1 (op op' : D → D → ST → Option (Rs D × ST)) (r : EM) (g : EV) (x y : D) (S : ST) : Option (Rs D × ST) := bd (op x y S) (cCh2 op' r g y)
def cCh (op op' : D → D → ST → Option (Rs D × ST)) (q r : EM) (g : EV) (x : D) (S : ST) : Option (Rs D × ST) := bd (q g S) (cCh1 op op' r g x)
def cTup (xs : List D) (S : ST) : Option (Rs D × ST) := if few xs.length = true then some (.ok (.tup xs), S) else none
def cLst (xs : List D) (S : ST) : Option (Rs (List D) × ST) := if few xs.length = true then some (.ok xs, S) else none
def cFz (xs : List D) (S : ST) : Option (Rs D × ST) := some (.ok (.lst xs), S)
def cPtr (xs : List D) (S : ST) : Option (Rs D × ST) := some (.ok (.ptr S.length), S ++ [.lst xs])
def cLc (G : GM) (t : BM) (p : EM) (g : EV) (ds : List D) (S : ST) : Option (Rs (List D) × ST) := lcE (cmD G t p g ds S)
def cMt (tt : String) (mt : D → List D → ST → Option (Rs D × ST)) (ra : AM) (g : EV) (x : D) (S : ST) : Option (Rs D × ST) := if rcv tt S x = true then bd (ra g S) (mt x) else none
def cCut2 (h : OM) (g : EV) (x : D) (lo : Option Int) (S : ST) : Option (Rs D × ST) := bd (h g S) (cutF x lo)
def cCut (l h : OM) (g : EV) (x : D) (S : ST) : Option (Rs D × ST) := bd (l g S) (cCut2 h g x)
def cK2 (n k : Nat) (gD : List D → List D → List D) (d : DM) (xs zs : List D) (S : ST) : Option (Rs D × ST) := if xs.length = n ∧ zs.length = k then d (gD xs zs) S else none
def cK (n k : Nat) (gD : List D → List D → List D) (d : DM) (b : AM) (g : EV) (xs : List D) (S : ST) : Option (Rs D × ST) := bd (b g S) (cK2 n k gD d xs)
def cCat3 (x y : Option (List D)) (S : ST) : Option (Rs (List D) × ST) := match x, y with
  | some a, some b => if few (a.length + b.length) = true then some (.ok (a ++ b), S) else none
  | _, _ => none
def cCat2 (x y : D) (S : ST) : Option (Rs (List D) × ST) := cCat3 (lsT S x) (lsT S y) S
def cCat (q : EM) (g : EV) (x : D) (S : ST) : Option (Rs (List D) × ST) := bd (q g S) (cCat2 x)
section
variable {α β : Type} {x y : Option (Rs α × ST)} {f : α → ST → Option (Rs β × ST)} {k : α → ST → Option (Out × ST)} {a : α} {S S1 S2 : ST} {c : Str} {fs : List (Str × D)} {g g1 : EV} {p q r : EM} {ra rb : AM} {t u : BM} {A B : SM} {G : GM} {d e : D} {op op' : D → D → ST → Option (Rs D × ST)} {un : D → ST → Option (Rs D × ST)} {ca : List D → ST → Option (Rs D × ST)} {co : List D → ST → Option (Rs (List D) × ST)} {n i j : Nat} {ds es : List D}
theorem bd_1 : bd (some (.ok a, S)) f = f a S := rfl
theorem bd_2 : bd (some (.ex c fs, S)) f = some (.ex c fs, S) := rfl
theorem bs_1 : bs (some (.ok a, S)) k = k a S := rfl
theorem bs_2 : bs (some (.ex c fs, S)) k = some (.ex c fs, S) := rfl
theorem sq_1 : sq (some (.nx g, S)) B = B g S := rfl
theorem sq_2 : sq (some (.rt d, S)) B = some (.rt d, S) := rfl
theorem sq_3 : sq (some (.ex c fs, S)) B = some (.ex c fs, S) := rfl
theorem sq_4 : sq (some (.bk g, S)) B = some (.bk g, S) := rfl
theorem sq_5 : sq (some (.ct g, S)) B = some (.ct g, S) := rfl
theorem vr_1 : vr (some (some d)) S = some (.ok d, S) := rfl
theorem ga_1 : ga (some (g, S)) = some (.nx g, S) := rfl
theorem lcE_1 : lcE (some (ds, S)) = if few ds.length = true then some (.ok ds, S) else none := rfl
theorem sSeq_e : sSeq A B g S = sq (A g S) B := rfl
theorem sAsg_e : sAsg p G g S = bs (p g S) (cAsg G g) := rfl
theorem cAsg_1 : cAsg G g d S = ga (G d g S) := rfl
theorem sRet_e : sRet p g S = bs (p g S) cRt := rfl
theorem cRt_1 : cRt d S = some (.rt d, S) := rfl
theorem sDrop_e : sDrop p g S = bs (p g S) (cDr g) := rfl
theorem cDr_1 : cDr g d S = some (.nx g, S) := rfl
theorem sIf_e : sIf t A B g S = bs (t g S) (cIf A B g) := rfl
theorem cIf_t : cIf A B g true S = A g S := rfl
theorem cIf_f : cIf A B g false S = B g S := rfl
theorem cIf_1 {b : Bool} : cIf A B g b S = if b = true then A g S else B g S := rfl
theorem sSkip_e : sSkip g S = some (.nx g, S) := rfl
theorem sBrk_e : sBrk g S = some (.bk g, S) := rfl
theorem sCnt_e : sCnt g S = some (.ct g, S) := rfl
theorem sPar_e : sPar i j p q g S = bs (p g S) (cPar i j q g) := rfl
theorem cPar_1 : cPar i j q g d S = bs (q g S) (cPar2 i j g d) := rfl
theorem cPar2_1 : cPar2 i j g d e S = some (.nx ((g.set i (some d)).set j (some e)), S) := rfl
theorem sFor_e : sFor ra G A g S = bs (ra g S) (cFor G A g) := rfl
theorem cFor_1 : cFor G A g ds S = forD G A ds g S := rfl
theorem gVar_e : gVar i d g S = some (g.set i (some d), S) := rfl
theorem eVar_e : eVar i g S = vr g[i]? S := rfl
theorem eC_e : eC d g S = some (.ok d, S) := rfl
theorem eOp_e : eOp op p q g S = bd (p g S) (cOp op q g) := rfl
theorem cOp_1 : cOp op q g d S = bd (q g S) (op d) := rfl
theorem eUn_e : eUn un p g S = bd (p g S) un := rfl
theorem aNil_e : aNil g S = some (.ok [], S) := rfl
theorem aCons_e : aCons p ra g S = bd (p g S) (cA ra g) := rfl
theorem cA_1 : cA ra g d S = bd (ra g S) (cA2 d) := rfl
theorem cA2_1 : cA2 d ds S = some (.ok (d :: ds), S) := rfl
theorem eCall_e : eCall ca ra g S = bd (ra g S) ca := rfl
theorem oCall_e : oCall co ra g S = bd (ra g S) co := rfl
theorem iCall_e : iCall co ra g S = bd (ra g S) co := rfl
theorem iVal_e : iVal p g S = bd (p g S) itF := rfl
theorem toB_1 {b : Bool} : toB (.bl b) S = some (.ok b, S) := rfl
theorem bVal_e : bVal p g S = bd (p g S) toB := rfl
theorem bAnd_e : bAnd t u g S = bd (t g S) (cAnd u g) := rfl
theorem cAnd_1 {b : Bool} : cAnd u g b S = if b = true then u g S else some (.ok false, S) := rfl
theorem bOr_e : bOr t u g S = bd (t g S) (cOr u g) := rfl
theorem cOr_1 {b : Bool} : cOr u g b S = if b = true then some (.ok true, S) else u g S := rfl
theorem bNot_e : bNot t g S = bd (t g S) cNot := rfl
theorem cNot_1 {b : Bool} : cNot b S = some (.ok (!b), S) := rfl
theorem eAnd_e : eAnd p q g S = bd (p g S) (cEAnd q g) := rfl
theorem cEAnd_1 : cEAnd q g d S = bd (toB d S) (cEAnd2 q g) := rfl
theorem cEAnd2_1 {b : Bool} : cEAnd2 q g b S = if b = true then q g S else some (.ok (.bl false), S) := rfl
theorem eOr_e : eOr p q g S = bd (p g S) (cEOr q g) := rfl
theorem cEOr_1 : cEOr q g d S = bd (toB d S) (cEOr2 q g) := rfl
theorem cEOr2_1 {b : Bool} : cEOr2 q g b S = if b = true then some (.ok (.bl true), S) else q g S := rfl
theorem eNot_e : eNot p g S = bd (p g S) cENot := rfl
theorem cENot_1 : cENot d S = bd (toB d S) cENot2 := rfl
theorem cENot2_1 {b : Bool} : cENot2 b S = some (.ok (.bl (!b)), S) := rfl
theorem eIf_e : eIf t p q g S = bd (t g S) (cEIf p q g) := rfl
theorem cEIf_1 {b : Bool} : cEIf p q g b S = if b = true then p g S else q g S := rfl
theorem eChain_e : eChain op op' p q r g S = bd (p g S) (cCh op op' q r g) := rfl
theorem cCh_1 : cCh op op' q r g d S = bd (q g S) (cCh1 op op' r g d) := rfl
theorem cCh1_1 : cCh1 op op' r g d e S = bd (op d e S) (cCh2 op' r g e) := rfl
theorem cCh2_1 : cCh2 op' r g d e S = bd (toB e S) (cCh3 op' r g d) := rfl
theorem cCh3_1 {b : Bool} : cCh3 op' r g d b S = if b = true then bd (r g S) (op' d) else some (.ok (.bl false), S) := rfl
theorem eTup_e : eTup ra g S = bd (ra g S) cTup := rfl
theorem cTup_1 : cTup ds S = if few ds.length = true then some (.ok (.tup ds), S) else none := rfl
theorem oLst_e : oLst ra g S = bd (ra g S) cLst := rfl
theorem cLst_1 : cLst ds S = if few ds.length = true then some (.ok ds, S) else none := rfl
theorem eFz_e : eFz ra g S = bd (ra g S) cFz := rfl
theorem cFz_1 : cFz ds S = some (.ok (.lst ds), S) := rfl
theorem ePtr_e : ePtr ra g S = bd (ra g S) cPtr := rfl
theorem cPtr_1 : cPtr ds S = some (.ok (.ptr S.length), S ++ [.lst ds]) := rfl
theorem oLc_e {vs : List Nat} : oLc ra G t p vs g S = bd (ra g S) (cLc G t p (wpD g vs)) := rfl
theorem cLc_1 : cLc G t p g ds S = lcE (cmD G t p g ds S) := rfl
theorem eSh_e : eSh p g S = bd (p g S) shF := rfl
theorem itF_1 : itF (.tup ds) S = some (.ok ds, S) := rfl
theorem itF_2 : itF (.lst ds) S = some (.ok ds, S) := rfl
theorem itF_3 : itF (.kls ds) S = some (.ok ds, S) := rfl
theorem addF_1 {i j : Int} : addF (.int i) (.int j) S = some (.ok (.int (i + j)), S) := rfl
theorem addF_2 : addF (.tup ds) (.tup es) S = if few (ds.length + es.length) = true then some (.ok (.tup (ds ++ es)), S) else none := rfl
theorem addF_3 : addF (.lst ds) (.lst es) S = if few (ds.length + es.length) = true then some (.ok (.lst (ds ++ es)), S) else none := rfl
theorem intF_1 {cc : Int → Int → Bool} {ff : Int → Int → Int} {i j : Int} : intF cc ff (.int i) (.int j) S = if cc i j = true then some (.ok (.int (ff i j)), S) else none := rfl
theorem subF_1 {i j : Int} : subF (.int i) (.int j) S = some (.ok (.int (i - j)), S) := rfl
theorem modF_1 {i j : Int} : modF (.int i) (.int j) S = if decide (0 < j) = true then some (.ok (.int (i % j)), S) else none := rfl
theorem fdvF_1 {i j : Int} : fdvF (.int i) (.int j) S = if (decide (0 < j) && decide (j.natAbs.log2 < 9000)) = true then some (.ok (.int (i / j)), S) else none := rfl
theorem powF_1 {i j : Int} : powF (.int i) (.int j) S = if (decide (0 ≤ j) && decide (j ≤ 1000000) && decide (i.natAbs < 2 ^ 64)) = true then some (.ok (.int (i ^ j.toNat)), S) else none := rfl
theorem mulF_1 {i j : Int} : mulF (.int i) (.int j) S = if (decide (-(2 ^ 64) < i) && decide (i < 2 ^ 64)) || (decide (-(2 ^ 64) < j) && decide (j < 2 ^ 64)) then some (.ok (.int (i * j)), S) else none := rfl
theorem mulF_2 {k : Int} : mulF (.tup ds) (.int k) S = if !ds.isEmpty && decide (2 ≤ k) && decide (k ≤ 1000) && decide (ds.length ≤ 1000) then some (.ok (.tup (List.replicate k.toNat ds).flatten), S) else none := rfl
theorem negF_1 {i : Int} : negF (.int i) S = some (.ok (.int (-i)), S) := rfl
theorem ltF_1 {i j : Int} : ltF (.int i) (.int j) S = some (.ok (.bl (decide (i < j))), S) := rfl
theorem leF_1 {i j : Int} : leF (.int i) (.int j) S = some (.ok (.bl (decide (i ≤ j))), S) := rfl
theorem gtF_1 {i j : Int} : gtF (.int i) (.int j) S = some (.ok (.bl (decide (j < i))), S) := rfl
theorem geF_1 {i j : Int} : geF (.int i) (.int j) S = some (.ok (.bl (decide (j ≤ i))), S) := rfl
def atE (x : Option D) (S : ST) : Option (Rs D × ST) := match x with
  | some x => some (.ok x, S)
  | none => none
theorem atE_1 : atE (some d) S = some (.ok d, S) := rfl
theorem ixF_1 {i : Int} : ixF (.tup ds) (.int i) S = atE (atI ds i) S := by unfold ixF atE; rfl
theorem ixF_2 {i : Int} : ixF (.lst ds) (.int i) S = atE (atI ds i) S := by unfold ixF atE; rfl
theorem ixF_3 {i : Int} : ixF (.kls ds) (.int i) S = atE (atI ds i) S := by unfold ixF atE; rfl
def pxE (x : Option (List D)) (i : Int) (S : ST) : Option (Rs D × ST) := match x with
  | some ds => atE (atI ds i) S
  | none => none
theorem pxE_1 {i : Int} : pxE (some ds) i S = atE (atI ds i) S := rfl
theorem ixF_4 {i : Int} : ixF (.ptr n) (.int i) S = pxE (stL S n) i S := by unfold ixF pxE atE sqS lsS; rfl
def plE (x : Option (List D)) (S : ST) : Option (Rs D × ST) := match x with
  | some ds => some (.ok (.int ds.length), S)
  | none => none
theorem plE_1 : plE (some ds) S = some (.ok (.int ds.length), S) := rfl
theorem lenF_4 : lenF [.ptr n] S = plE (stL S n) S := rfl
theorem eMt_e {tt : String} {mt : D → List D → ST → Option (Rs D × ST)} : eMt tt mt p ra g S = bd (p g S) (cMt tt mt ra g) := rfl
theorem cMt_1 {tt : String} {mt : D → List D → ST → Option (Rs D × ST)} : cMt tt mt ra g d S = if rcv tt S d = true then bd (ra g S) (mt d) else none := rfl
theorem eCut_e {l h : OM} : eCut p l h g S = bd (p g S) (cCut l h g) := rfl
theorem cCut_1 {l h : OM} : cCut l h g d S = bd (l g S) (cCut2 h g d) := rfl
theorem cCut2_1 {h : OM} {lo : Option Int} : cCut2 h g d lo S = bd (h g S) (cutF d lo) := rfl
theorem qNone_e : qNone g S = some (.ok none, S) := rfl
theorem qSome_e : qSome p g S = bd (p g S) toI := rfl
theorem toI_1 {i : Int} : toI (.int i) S = some (.ok (some i), S) := rfl
theorem cutF_1 {lo hi : Option Int} : cutF (.tup ds) lo hi S = some (.ok (.tup (cutD ds lo hi)), S) := rfl
theorem cutF_2 {lo hi : Option Int} : cutF (.lst ds) lo hi S = some (.ok (.lst (cutD ds lo hi)), S) := rfl
theorem cutF_3 {lo hi : Option Int} : cutF (.kls ds) lo hi S = some (.ok (.lst (cutD ds lo hi)), S) := rfl
theorem cutF_4 {lo hi : Option Int} {z : Str} : cutF (.str z) lo hi S = if few z.length = true then some (.ok (.str (cutS z lo hi)), S) else none := rfl
theorem eCallK_e {k : Nat} {gD : List D → List D → List D} {m : DM} : eCallK n k gD m ra rb g S = bd (ra g S) (cK n k gD m rb g) := rfl
theorem cK_1 {k : Nat} {gD : List D → List D → List D} {m : DM} : cK n k gD m rb g ds S = bd (rb g S) (cK2 n k gD m ds) := rfl
theorem cK2_1 {k : Nat} {gD : List D → List D → List D} {m : DM} : cK2 n k gD m ds es S = if ds.length = n ∧ es.length = k then m (gD ds es) S else none := rfl
theorem eDic0_e : eDic0 g S = some (.ok (.dic []), S) := rfl
theorem oCat_e : oCat p q g S = bd (p g S) (cCat q g) := by
  unfold oCat cCat cCat2 cCat3
  rfl
theorem cCat_1 : cCat q g d S = bd (q g S) (cCat2 d) := rfl
theorem cCat2_1 : cCat2 d e S = cCat3 (lsT S d) (lsT S e) S := rfl
theorem cCat3_1 : cCat3 (some ds) (some es) S = if few (ds.length + es.length) = true then some (.ok (ds ++ es), S) else none := rfl
theorem lsT_1 : lsT S (.lst ds) = some ds := rfl
theorem lsT_2 : lsT S (.ptr n) = stL S n := rfl
theorem rcv_p : rcv "list" S (.ptr n) = (stL S n).isSome := by unfold rcv lsS; simp
def apE (x : Option (List D)) (n : Nat) (d : D) (S : ST) : Option (Rs D × ST) := match x with
  | some ds => if few (ds.length + 1) = true then some (.ok .non, S.set n (.lst (ds ++ [d]))) else none
  | none => none
theorem apE_1 : apE (some ds) n d S = if few (ds.length + 1) = true then some (.ok .non, S.set n (.lst (ds ++ [d]))) else none := rfl
theorem appF_1 : appF (.ptr n) [d] S = apE (stL S n) n d S := rfl
theorem stL_app : stL (S ++ [.lst ds]) S.length = some ds := by unfold stL; simp
theorem set_app {o o' : MO} : List.set (S ++ [o]) S.length o' = S ++ [o'] := by simp
theorem stL_0 {S l : List MO} : stL (S ++ l) S.length = stL l 0 := by unfold stL; rw [List.getElem?_append_right (Nat.le_refl _), Nat.sub_self]
theorem stL_k {S l : List MO} {k : Nat} : stL (S ++ l) (S.length + k) = stL l k := by unfold stL; rw [List.getElem?_append_right (Nat.le_add_right _ _), Nat.add_sub_cancel_left]
theorem stL_c {l : List MO} : stL (.lst ds :: l) 0 = some ds := rfl
theorem stL_s {l : List MO} {o : MO} {k : Nat} : stL (o :: l) (k + 1) = stL l k := by unfold stL; rw [List.getElem?_cons_succ]
theorem set_0 {S l : List MO} {o : MO} : List.set (S ++ l) S.length o = S ++ l.set 0 o := by rw [List.set_append_right, Nat.sub_self]; omega
theorem set_k {S l : List MO} {k : Nat} {o : MO} : List.set (S ++ l) (S.length + k) o = S ++ l.set k o := by rw [List.set_append_right, Nat.add_sub_cancel_left]; omega
def shE (x : Option (List D)) (n : Nat) (S : ST) : Option (Rs D × ST) := match x with
  | some ds => some (.ok (.lst ds), S.set n .dead)
  | none => none
theorem shE_1 : shE (some ds) n S = some (.ok (.lst ds), S.set n .dead) := rfl
theorem shF_1 : shF (.ptr n) S = shE (stL S n) n S := rfl
theorem lenF_1 : lenF [.tup ds] S = some (.ok (.int ds.length), S) := rfl
theorem lenF_2 : lenF [.lst ds] S = some (.ok (.int ds.length), S) := rfl
theorem lenF_3 : lenF [.kls ds] S = some (.ok (.int ds.length), S) := rfl
theorem absF_1 {i : Int} : absF [.int i] S = some (.ok (.int (if i < 0 then -i else i)), S) := rfl
theorem intOfF_1 {b : Bool} : intOfF [.bl b] S = some (.ok (.int (if b then 1 else 0)), S) := rfl
theorem intOfF_2 {i : Int} : intOfF [.int i] S = some (.ok (.int i), S) := rfl
theorem rng1F_1 {i : Int} : rng1F [.int i] S = if okI i = true then some (.ok (rngD 0 i), S) else none := rfl
theorem rng2F_1 {i j : Int} : rng2F [.int i, .int j] S = if (okI i && okI j) = true then some (.ok (rngD i j), S) else none := rfl
theorem Ar_e {m : DM} : Ar n m ds S = if ds.length = n then m ds S else none := rfl
theorem mkD_e : mkD n A ds S = fin (A (slots n ds) S) := rfl
theorem fin_1 : fin (some (.rt d, S)) = some (.ok d, S) := rfl
theorem fin_2 : fin (some (.nx g, S)) = some (.ok .non, S) := rfl
theorem fin_3 : fin (some (.ex c fs, S)) = some (.ex c fs, S) := rfl
theorem few_e : few n = decide (n ≤ 100000) := rfl
theorem tupOfF_1 : tupOfF [.lst ds] S = some (.ok (.tup ds), S) := rfl
theorem tupOfF_2 : tupOfF [.tup ds] S = some (.ok (.tup ds), S) := rfl
theorem tupOfF_3 : tupOfF [.kls ds] S = some (.ok (.tup ds), S) := rfl
theorem lstOfF_1 : lstOfF [.lst ds] S = some (.ok ds, S) := rfl
theorem lstOfF_2 : lstOfF [.tup ds] S = some (.ok ds, S) := rfl
theorem lstOfF_3 : lstOfF [.kls ds] S = some (.ok ds, S) := rfl
theorem isF_1 {ff : Bool → Bool} {a b : Bool} : isF ff (.bl a) (.bl b) S = some (.ok (.bl (ff (decide (a = b)))), S) := rfl
end
/-- a loop whose body always goes on -/
theorem for_inv {tg : GM} {body : SM} (I : EV → ST → Prop) : ∀ (ds : List D) (g : EV) (S : ST), (∀ d ∈ ds, ∀ g S, I g S → ∃ g1 S1 g2 S2, tg d g S = some (g1, S1) ∧ body g1 S1 = some (.nx g2, S2) ∧ I g2 S2) → I g S → ∃ g' S', forD tg body ds g S = some (.nx g', S') ∧ I g' S'
  | [], g, S, _, h => ⟨g, S, rfl, h⟩
  | d :: ds, g, S, st, h => by
    obtain ⟨g1, S1, g2, S2, e1, e2, i2⟩ := st d (List.mem_cons_self ..) g S h
    obtain ⟨g', S', e3, i3⟩ := for_inv I ds g2 S2 (fun d hd => st d (List.mem_cons_of_mem _ hd)) i2
    exact ⟨g', S', by simp only [forD, e1, e2, e3], i3⟩
/-- the same, told how many steps were gone -/
theorem for_inv_n {tg : GM} {body : SM} (I : Nat → EV → ST → Prop) : ∀ (ds : List D) (n : Nat) (g : EV) (S : ST), (∀ i d, ds[i]? = some d → ∀ g S, I (n + i) g S → ∃ g1 S1 g2 S2, tg d g S = some (g1, S1) ∧ body g1 S1 = some (.nx g2, S2) ∧ I (n + i + 1) g2 S2) → I n g S → ∃ g' S', forD tg body ds g S = some (.nx g', S') ∧ I (n + ds.length) g' S'
  | [], n, g, S, _, h => ⟨g, S, rfl, h⟩
  | d :: ds, n, g, S, st, h => by
    obtain ⟨g1, S1, g2, S2, e1, e2, i2⟩ := st 0 d rfl g S h
    obtain ⟨g', S', e3, i3⟩ := for_inv_n I ds (n + 1) g2 S2 (fun i d hd g S hi => by
      have := st (i + 1) d (by simpa using hd) g S (by rwa [show n + (i + 1) = n + 1 + i by omega])
      rwa [show n + (i + 1) + 1 = n + 1 + i + 1 by omega] at this) i2
    exact ⟨g', S', by simp only [forD, e1, e2, e3], by rwa [show n + (d :: ds).length = n + 1 + ds.length by simp; omega]⟩
/-- a comprehension without if, part by part -/
theorem cm_map {tg : GM} {el : EM} {g : EV} {S : ST} {f : D → D} : ∀ (ds : List D), (∀ d ∈ ds, ∃ g1, tg d g S = some (g1, S) ∧ el g1 S = some (.ok (f d), S)) → cmD tg bYes el g ds S = some (ds.map f, S)
  | [], _ => rfl
  | d :: ds, h => by
    obtain ⟨g1, e1, e2⟩ := h d (List.mem_cons_self ..)
    simp only [cmD, e1, bYes, e2, cm_map ds fun d hd => h d (List.mem_cons_of_mem _ hd), List.map_cons]
end U
namespace U
open PySem L2
theorem at_nat {α : Type} {xs : List α} {k : Nat} (h : k < xs.length) : atI xs (k : Int) = some xs[k] := by
  unfold atI ixN
  rw [if_pos (Int.natCast_nonneg k), if_pos (Int.ofNat_lt.mpr h)]
  simp [h]
theorem at_int {xs : List Int} (k : Nat) (h : k < xs.length) : atI (xs.map D.int) (k : Int) = some (.int (xs.getD k 0)) := by
  rw [at_nat (by simpa using h)]
  simp [List.getD, h]
theorem at_mem {α : Type} {xs : List α} {i : Int} (h0 : 0 ≤ i) (h1 : i < xs.length) : ∃ x ∈ xs, atI xs i = some x := by
  obtain ⟨k, rfl⟩ := Int.eq_ofNat_of_zero_le h0
  exact ⟨_, List.getElem_mem (Int.ofNat_lt.mp h1), at_nat (Int.ofNat_lt.mp h1)⟩
theorem rng_mem {d : D} {n : Int} (h : d ∈ rngD 0 n) : ∃ k : Nat, (k : Int) < n ∧ d = .int k := by
  simp only [rngD, List.mem_map, List.mem_range] at h
  obtain ⟨k, hk, rfl⟩ := h
  exact ⟨k, by omega, by simp⟩
theorem blDs_map : ∀ (bs : List Bool), blDs (bs.map D.bl) = some bs
  | [] => rfl
  | b :: bs => by simp [blDs, blDs_map bs]
end U
namespace U
open PySem L2
theorem eqF_int {f : Bool → Bool} {i j : Int} {S : ST} : eqF f (.int i) (.int j) S = some (.ok (.bl (f (i == j))), S) := by rfl
theorem eqF_str {f : Bool → Bool} {a b : Str} {S : ST} : eqF f (.str a) (.str b) S = some (.ok (.bl (f (decide (a = b)))), S) := by rfl
theorem isiF_1 {c : String} {x : D} {S : ST} {t : String} (h : tyD S x = some t) : isiF [c] x S = some (.ok (.bl (isaB t c)), S) := by unfold isiF; rw [h]; simp
theorem isiF_tup {c : String} {xs : List D} {S : ST} : isiF [c] (.tup xs) S = some (.ok (.bl (isaB "tuple" c)), S) := isiF_1 rfl
theorem isiF_lst {c : String} {xs : List D} {S : ST} : isiF [c] (.lst xs) S = some (.ok (.bl (isaB "list" c)), S) := isiF_1 rfl
theorem isiF_int {c : String} {i : Int} {S : ST} : isiF [c] (.int i) S = some (.ok (.bl (isaB "int" c)), S) := isiF_1 rfl
theorem isiF_str {c : String} {i : Str} {S : ST} : isiF [c] (.str i) S = some (.ok (.bl (isaB "str" c)), S) := isiF_1 rfl
theorem isiF_bl {c : String} {i : Bool} {S : ST} : isiF [c] (.bl i) S = some (.ok (.bl (isaB "bool" c)), S) := isiF_1 rfl
theorem at_0 {α : Type} {x : α} {xs : List α} : atI (x :: xs) 0 = some x := by
  unfold atI ixN
  simp
theorem gStar_1 {i j : Nat} {x : D} {xs : List D} {g : EV} {S : ST} : gStar i j (.tup (x :: xs)) g S = if xs.length ≤ 16000 then some ((g.set i (some x)).set j (some (.lst xs)), S) else none := rfl
end U

set_option Elab.async false
set_option linter.all false
set_option maxRecDepth 100000
set_option maxHeartbeats 1000000
namespace U
open PySem L2
section
variable {P : Program} {w : World} {K : Fr} {mg : Str → Option Value} {base : Heap} {cl : Cl} {x qual : Str} {params : Arguments} {body : List Stmt} {scope : Scope} {kws : List (Str × V)} {f : Addr} {fd : FuncData} {ps ks : List Str} {n j : Nat} {m : DM}
/-- a call with names, of a def without defaults -/
theorem kbn_plain (F : FunD K x qual params body scope [] kws f fd) (g : {α : Type} → List α → List α → List α) (hrel : ∀ {vs zs : List V} {us ws : List Value}, Vals vs us → Vals zs ws → Vals (g vs zs) (g us ws))
    (h : ∀ (kV doc pm : Value) (an : Option Addr) (cdv ct : Value) (us ws : List Value), us.length = n → ws.length = ks.length → bindArgs (PySem.W.fnOf x qual params body scope .none kV doc pm an cdv ct) ⟨us, ks.zip ws⟩ = pure (ps.zip (g us ws))) : KBn K fd ps n ks g g := by
  obtain ⟨oc, od, dV, kV, doc, pm, an, cdv, ct, osl, rfl, lk, hcd, hD, hK⟩ := F.ex
  rcases hD with ⟨_, rfl⟩ | ⟨e, _⟩
  · exact ⟨fun s us ws X l1 l2 => .of_eq (h kV doc pm an cdv ct us ws l1 l2), hrel⟩
  · exact absurd rfl e
theorem okk_plain (A : OkA P w K mg base cl x j ps m f fd) (F : FunD K x qual params body scope [] kws f fd) (g : {α : Type} → List α → List α → List α) (hrel : ∀ {vs zs : List V} {us ws : List Value}, Vals vs us → Vals zs ws → Vals (g vs zs) (g us ws))
    (h : ∀ (kV doc pm : Value) (an : Option Addr) (cdv ct : Value) (us ws : List Value), us.length = n → ws.length = ks.length → bindArgs (PySem.W.fnOf x qual params body scope .none kV doc pm an cdv ct) ⟨us, ks.zip ws⟩ = pure (ps.zip (g us ws)))
    (hd : ∀ (q : Nat → Addr) (N : Nat) (H : Hp) (vs zs : List V) (ds es : List D), vs.length = n → zs.length = ks.length → Dts K q N H vs ds → Dts K q N H zs es → Dts K q N H (g vs zs) (g ds es)) : Okk P w K mg base cl x j ps m n ks g :=
  ⟨f, fd, g, g, A.1, A.2.1, A.2.2.1, kbn_plain F g hrel h, hd⟩
/-- the thing i of the one row or the other -/
def pk {α : Type} (us ws : List α) (c : Bool) (i : Nat) : List α := if c then (us.drop i).take 1 else (ws.drop i).take 1
def pks {α : Type} (cs : List (Bool × Nat)) (us ws : List α) : List α := cs.flatMap fun c => pk us ws c.1 c.2
theorem Vals.append' {vs zs : List V} {us ws : List Value} (h : Vals vs us) (h2 : Vals zs ws) : Vals (vs ++ zs) (us ++ ws) := h.append h2
theorem vals_take {vs : List V} {us : List Value} (h : Vals vs us) : ∀ n, Vals (vs.take n) (us.take n) := fun n => h.take n
theorem pks_vals {vs zs : List V} {us ws : List Value} (h : Vals vs us) (h2 : Vals zs ws) : ∀ cs : List (Bool × Nat), Vals (pks cs vs zs) (pks cs us ws)
  | [] => .nil
  | c :: cs => by
    show Vals (pk vs zs c.1 c.2 ++ pks cs vs zs) (pk us ws c.1 c.2 ++ pks cs us ws)
    refine Vals.append ?_ (pks_vals h h2 cs)
    unfold pk
    split
    · exact (h.drop _).take _
    · exact (h2.drop _).take _
theorem pks_dts {K : Fr} {q : Nat → Addr} {N : Nat} {H : Hp} {vs zs : List V} {ds es : List D} (h : Dts K q N H vs ds) (h2 : Dts K q N H zs es) : ∀ cs : List (Bool × Nat), Dts K q N H (pks cs vs zs) (pks cs ds es)
  | [] => .nil
  | c :: cs => by
    show Dts K q N H (pk vs zs c.1 c.2 ++ pks cs vs zs) (pk ds es c.1 c.2 ++ pks cs ds es)
    refine Dts.append ?_ (pks_dts h h2 cs)
    unfold pk
    split
    · exact (h.drop _).take _
    · exact (h2.drop _).take _
end
/-! the law's call, from a promise that asks who stands around -/
section
open PySem.Spec PyProof.Rows
theorem hid_ns {H : Hp} {h : Heap} {a : Addr} {vs : Array Value} (ha : h.get? a = some { cls := .type "list", data := .seq vs }) (hA : ∀ b, H b ≠ none → b = a) {b : Addr} {m : Str → Option Value} (n : h.Ns b m) : (hidT h H).Ns b m := by
  obtain ⟨o, es, ep, e, d, r⟩ := n
  refine ⟨o, es, ep, hidT_get e ?_, d, r⟩
  by_cases q : H b = none
  · exact q
  · obtain rfl := hA b q
    rw [ha] at e
    cases e
    exact absurd (show Data.seq vs _ = Data.dict es ep from d) (fun z => by cases z)
theorem lawg_core {P : Program} {w : World} {K : Fr} {mg mb : Str → Option Value} {CX : CXT} {k : Nat} {fa a : Addr} {fd : FuncData} {x : Str} {sp : Sp} {s1 : Shared} {vs : List Value} {ns : List Int} {H : Hp}
    (KX : K.In s1.heap) (hns : s1.heap.Ns mainGlobals mg) (hb : s1.heap.Ns builtinsNs mb) (hbb : ∀ x : Str, x ≠ "__name__" → mb x = bootBuiltins x) (hlim : s1.heap.NoLimit) (hg : s1.gens = #[]) (ha : s1.heap.get? a = some { cls := .type "list", data := .seq vs.toArray }) (hr : RoomG k callerA)
    (F : ∀ base : Heap, K.In base → base.Ns mainGlobals mg → FnG P w K mg base CX k fa fd [x] sp) (hbind : ∀ (s : Shared) (u : Value), BindsTo s fd ⟨[u], []⟩ [(x, u)]) (hsp : Only H → SqL K H a (ns.map V.int) → sp [.ref a] H (fun v _ => v = .bl true) fun _ _ _ => False)
    (hCX : ∀ H e s', CX [] H s1 (fun _ _ _ => False) e s' → False) (hO : Only H) (hS : SqL K H a (ns.map V.int)) (hok : HOk P w H s1.heap) (hA : ∀ b, H b ≠ none → b = a) (hK : H a ≠ none → K.lookup a = none) :
    codeAny (model P w) callerA (.call (.ref fa) ⟨[.ref a], []⟩) (fun r s' => r = .ok (.ret (.bool true)) ∧ OldK s1.heap s'.heap ∧ s'.os = s1.os ∧ AllBare s'.gens) s1 := by
  have hKb : K.In (hidT s1.heap H) := by
    intro b o e
    refine hidT_get (KX b o e) ?_
    by_cases q : H b = none
    · exact q
    · have z := hA b q
      subst z
      rw [hK q] at e
      cases e
  have nsg := hid_ns ha hA hns
  have hM : Mod K mg (hidT s1.heap H) := by
    obtain ⟨mc, h1, h2⟩ := hlim
    exact ⟨hKb, nsg, ⟨mb, hid_ns ha hA hb, hbb⟩, ⟨mc, hid_ns ha hA h1, h2⟩⟩
  have no : ∀ b, b ∉ ([] : List Addr) := by simp
  have e0 : Env0 P w K mg (hidT s1.heap H) callerA [] s1 H := { frames := rfl, mod := hM, bs := fun b o e => of_hidT e, bsz := Nat.le_of_eq (hidT_size _ _), funs := trivial, frf := fun b z => absurd z (no b), hok := hok, bare := .of_eq hg }
  refine codeAny_mono ((F _ hKb nsg).run callerA [] s1 H ⟨[.ref a], []⟩ [.ref a] [.ref a] _ _ hr e0 (hbind s1 (.ref a)) (.cons rfl .nil) (hsp hO hS)) ?_
  rintro (e | fl) s' h
  · exact (hCX H e s' h).elim
  · cases fl with
    | next => exact h.elim
    | brk => exact h.elim
    | cont => exact h.elim
    | ret u =>
      obtain ⟨v, H', os, bare, un, hok', r', q⟩ := h
      obtain rfl : v = .bl true := q
      obtain rfl : u = Value.bool true := r'
      refine ⟨rfl, OldK.of_keep ?_, os, bare⟩
      intro b o e
      by_cases q : H b = none
      · exact un.keep b o e q (no b) (by simp)
      · rcases hO b with z | ⟨ob, xs, z⟩
        · exact absurd z q
        · have e1 := (hok b _ z).1
          have e2 := (hok' b _ (un.frzs b ob _ z)).1
          rw [e] at e1
          cases e1
          exact e2
theorem lawg_call {P : Program} {w : World} {K : Fr} {mg mb : Str → Option Value} {CX : CXT} {k : Nat} {fa a : Addr} {fd : FuncData} {x : Str} {sp : Sp} {s1 : Shared} {vs : List Value} {ns : List Int} (KX : K.In s1.heap) (hns : s1.heap.Ns mainGlobals mg) (hb : s1.heap.Ns builtinsNs mb) (hbb : ∀ x : Str, x ≠ "__name__" → mb x = bootBuiltins x) (hlim : s1.heap.NoLimit) (hg : s1.gens = #[])
    (ha : s1.heap.get? a = some { cls := .type "list", data := .seq vs.toArray }) (hi : IntsAre vs ns) (hl : ns.length ≤ sizeLine) (hr : RoomG k callerA) (F : ∀ base : Heap, K.In base → base.Ns mainGlobals mg → FnG P w K mg base CX k fa fd [x] sp) (hbind : ∀ (s : Shared) (u : Value), BindsTo s fd ⟨[u], []⟩ [(x, u)])
    (hsp : ∀ H : Hp, Only H → SqL K H a (ns.map V.int) → sp [.ref a] H (fun v _ => v = .bl true) fun _ _ _ => False) (hCX : ∀ H e s', CX [] H s1 (fun _ _ _ => False) e s' → False) :
    codeAny (model P w) callerA (.call (.ref fa) ⟨[.ref a], []⟩) (fun r s' => r = .ok (.ret (.bool true)) ∧ OldK s1.heap s'.heap ∧ s'.os = s1.os ∧ AllBare s'.gens) s1 := by
  have rv := vals_ints hi
  have lenV := hi.length
  rcases hk : K.lookup a with _ | o
  · have at_a : ∀ b, (if b = a then some (HO.frz { cls := .type "list", data := .seq vs.toArray } (.lst (ns.map V.int))) else none) ≠ none → b = a := fun b z => Classical.byContradiction fun hb => z (if_neg hb)
    refine lawg_core (H := fun b => if b = a then some (.frz { cls := .type "list", data := .seq vs.toArray } (.lst (ns.map V.int))) else none) KX hns hb hbb hlim hg ha hr F hbind (hsp _) hCX (fun b => ?_) (.inl (.inr ⟨_, if_pos rfl⟩)) (fun b u z => ?_) at_a fun _ => hk
    · rcases Classical.em (b = a) with hb | hb
      · exact .inr ⟨_, _, if_pos hb⟩
      · exact .inl (if_neg hb)
    · rcases Classical.em (b = a) with hb | hb
      · subst hb
        cases (if_pos rfl).symm.trans z
        exact ⟨ha, by rw [List.length_map]; exact hl, vs, _, rv, ha⟩
      · cases (if_neg hb).symm.trans z
  · have e := KX a o hk
    rw [ha] at e
    cases e
    refine lawg_core (H := fun _ => none) KX hns hb hbb hlim hg ha hr F hbind (hsp _) hCX (fun _ => .inl rfl) (.inr ⟨_, vs.toArray, _, hk, rfl, rfl, rfl, ?_, by simpa using rv⟩) (fun b u z => by cases (show (none : Option HO) = some u from z)) (fun b z => (z rfl).elim) fun z => (z rfl).elim
    rw [List.size_toArray, lenV]
    exact hl
end
/-- the law's end: the world may be in the rule of what a call throws -/
theorem walk_w {l : PySem.W.OpenLaw} {q : Program} {loose : List Str} {XP : (Str → Option Value) → Heap → Prop} {YP : World → Heap → Prop} {d : DefRec} {x : Str} {k : Nat} {dm : DM} (hn : l.most = some 63) (hdf : d.params.defaults = []) (hr : RoomG k callerA)
    (F : ∀ (w : World) (mg : Str → Option Value) (fa : Addr) (h : Heap), YP w h → h.Ns mainGlobals mg → mg d.name = some (.ref fa) → ∃ (K : Fr) (fd : FuncData), K.In h ∧ (∀ (s : Shared) (u : Value), BindsTo s fd ⟨[u], []⟩ [(x, u)]) ∧ ∀ base : Heap, K.In base → base.Ns mainGlobals mg → FnG l.prog w K mg base (L2.CX l.prog w) k fa fd [x] (spM K (fun _ => 0) 1 dm))
    (ht : ∀ ns : List Int, ns.length ≤ 63 → ∃ S', dm [.kls (ns.map .int)] [] = some (.ok (.bl true), S')) : PySem.W.WalkO q loose XP YP l.row.toRowW d [] (fun f vs => PySem.call f vs) := by
  refine Att.attach_call hn hdf fun w s0 s1 mg mb fa o pm cd doc a vs ns G Y ho hd hcd hmg hobj hints hlen hg => ?_
  obtain ⟨K, fd, KX, hb, hF⟩ := F w mg fa _ Y G.T.g hmg
  obtain ⟨S, e⟩ := ht ns hlen
  exact lawg_call KX G.T.g G.T.b G.T.builtins G.T.nolimit hg hobj hints (Nat.le_trans hlen (by decide)) hr hF hb (fun H hO hS => law_sp hO hS e) fun H u s2 z => cx_false z
end U

set_option Elab.async false
set_option linter.all false
set_option maxRecDepth 100000
set_option maxHeartbeats 1000000
namespace U
open PySem L2
/-! ### repr of data -/
def rRepr (K : Fr) : List V → Hp → VK → Prop := fun xs H Q => ∃ v d, xs = [v] ∧ Dp K H v d ∧ d.showable = true ∧ d.hasDict = false ∧ d.depth ≤ 60 ∧ d.shown.length ≤ sizeLine ∧ Q (.str d.shown) H
section
variable {X : Cx} {cl : Cl} {E : XK} {e a b : Expr} {es : List Expr} {pos apos : Pos} {m ma mb : EM} {mr : AM}
theorem cr_repr {k : Nat} (hr : RoomG k X.A) : CallR X (.builtin "repr") (rRepr X.K) := by
  intro pins s σ H xs us Q I r h
  obtain ⟨v, d, rfl, hd, hs, hn, hdp, hz, q⟩ := h
  obtain ⟨u, rfl, rv⟩ := vals1 r
  have hun : X.A.units + (d.depth + 1) < cLine := by have := hr.units; omega
  obtain ⟨as, rd⟩ := Dp.reads I d v u hd rv
  have big : ∀ p, u = .ref p → wpAny (model X.prog X.w) X.A (call (.builtin "repr") [u]) (EP X pins σ Q) X.xe s := by
    rintro p rfl
    exact repr_of_reads' rd hs (PyData.noDict_hsm hn) hr.gd hun (fun _ _ e => e) (fun h' u tk hk => ⟨.str d.shown, H, I.kept hk, ⟨_, rfl⟩, q⟩) hz
  cases hd with
  | non => cases rv; exact P.repr_of_none ⟨.str (PyData.shown .none), H, I.tok _, ⟨_, rfl⟩, q⟩
  | bl b => cases rv; exact P.repr_of_bool ⟨.str (PyData.shown (.bool b)), H, I.tok _, ⟨_, rfl⟩, q⟩
  | int i =>
    obtain ⟨t, rfl⟩ := rv
    exact P.repr_of_int (of_decide_eq_true hs) ⟨.str (PyData.shown (.int i)), H, I.tok _, ⟨_, rfl⟩, q⟩
  | str x =>
    obtain ⟨t, rfl⟩ := rv
    exact P.repr_of_str ⟨.str (PyData.shown (.str x)), H, I.tok _, ⟨_, rfl⟩, q⟩ hz
  | lst _ _ => cases rv; exact big _ rfl
  | tup _ _ => cases rv; exact big _ rfl
def reprF (xs : List D) (S : ST) : Option (Rs D × ST) := match xs with
  | [x] => match pyS S x with
    | some d => if (d.showable && !d.hasDict && decide (d.depth ≤ 60) && decide (d.shown.length ≤ 100000)) = true then some (.ok (.str d.shown), S) else none
    | none => none
  | _ => none
theorem reprE {K : Fr} : CaE K cl E (rRepr K) reprF := by
  intro xs S z S' h q H vs Q w hx po
  unfold reprF at h
  split at h
  · split at h
    · rename_i d e
      split at h
      · rename_i hc
        cases h
        simp only [Bool.and_eq_true, Bool.not_eq_true', decide_eq_true_eq] at hc
        obtain ⟨v, rfl, r⟩ := dts1 hx
        exact ⟨v, d, rfl, pyS_py w r e, hc.1.1.1, hc.1.1.2, hc.1.2, Nat.le_trans hc.2 (by decide), fz_val w po (.str _)⟩
      · cases h
    · cases h
  · cases h
/-! ### str(n), int(text) -/
def strOfF (xs : List D) (S : ST) : Option (Rs D × ST) := match xs with
  | [.int i] => if decide (i.natAbs.log2 < 1920) = true then some (.ok (.str (toString i)), S) else none
  | _ => none
theorem strOfE {K : Fr} : CaE K cl E (fun xs H Q => ∃ i, xs = [.int i] ∧ i.natAbs.log2 < 1920 ∧ Q (.str (toString i)) H) strOfF := by
  intro xs S z S' h q H vs Q w hx po
  unfold strOfF at h
  split at h
  · split at h
    · rename_i hc
      cases h
      obtain ⟨v, rfl, r⟩ := dts1 hx
      obtain rfl := r.int_inv
      exact ⟨_, rfl, of_decide_eq_true hc, fz_val w po (.str _)⟩
    · cases h
  · cases h
def intTxF (xs : List D) (S : ST) : Option (Rs D × ST) := match xs with
  | [.str a] => match PySem.intText? a with
    | some n => if decide (a.length ≤ 640) = true then some (.ok (.int n), S) else none
    | none => none
  | _ => none
theorem intTxE {K : Fr} : CaE K cl E (fun xs H Q => ∃ a n, xs = [.str a] ∧ PySem.intText? a = some n ∧ a.length ≤ 640 ∧ Q (.int n) H) intTxF := by
  intro xs S z S' h q H vs Q w hx po
  unfold intTxF at h
  split at h
  · split at h
    · rename_i n e
      split at h
      · rename_i hc
        cases h
        obtain ⟨v, rfl, r⟩ := dts1 hx
        obtain rfl := r.str_inv
        exact ⟨_, n, rfl, e, of_decide_eq_true hc, fz_val w po (.int _)⟩
      · cases h
    · cases h
  · cases h
/-! ### methods of texts with one thing -/
def M1E (K : Fr) (cl : Cl) (E : XK) (r : V → List V → Hp → VK → Prop) (f : D → D → ST → Option (Rs D × ST)) : Prop :=
  ∀ x y S z S', f x y S = some (z, S') → ∀ q H vx vy Q, Wd K q S H → Dt K q S.length H vx x → Dt K q S.length H vy y → Post K cl q S.length H E Q z S' → r vx [vy] H (Fz Q)
def isStr : D → Bool
  | .str _ => true
  | _ => false
def eM1 (f : D → D → ST → Option (Rs D × ST)) (a b : EM) : EM := fun g S => bd (a g S) fun x S1 => if isStr x = true then bd (b g S1) fun y S2 => f x y S2 else none
theorem isStr_inv {K : Fr} {q : Nat → Addr} {n : Nat} {H : Hp} {v : V} {d : D} (h : isStr d = true) (r : Dt K q n H v d) : ∃ a, v = .str a := by
  cases d <;> simp [isStr] at h
  exact ⟨_, r.str_inv⟩
theorem ee_m1 {name : Str} {r : V → List V → Hp → VK → Prop} {f : D → D → ST → Option (Rs D × ST)} (hf : M1E X.K cl E r f) (ha : EE X cl E a ma) (hb : EE X cl E b mb) (hp : ∀ ta tb, PE X a ta → PE X b tb → PE X (.Call (.Attribute a name apos) [b] [] pos) (tM1 r ta tb)) : EE X cl E (.Call (.Attribute a name apos) [b] [] pos) (eM1 f ma mb) := by
  obtain ⟨ta, pa, ea⟩ := ha
  obtain ⟨tb, pb, eb⟩ := hb
  refine ⟨_, pe_fz (hp ta tb pa pb), fun g S z S' h q s H Q w sl po => ?_⟩
  rcases bd_inv h with ⟨x, S1, h1, h⟩ | ⟨c, fs, h1, rfl⟩
  · refine ea g S _ S1 h1 q s H _ w sl fun q1 H1 vx g1 w1 d1 => ?_
    split at h
    · rename_i hst
      refine ⟨isStr_inv hst d1, ?_⟩
      rcases bd_inv h with ⟨y, S2, h2, h⟩ | ⟨c, fs, h2, rfl⟩
      · exact eb g S1 _ S2 h2 q1 s H1 _ w1 (sl.mono g1) fun q2 H2 vy g2 w2 d2 => hf x y S2 z S' h q2 H2 vx vy Q w2 (d1.mono g2.ge) d2 (po.to (g1.trans g2))
      · exact eb g S1 _ S' h2 q1 s H1 _ w1 (sl.mono g1) (Post.ex (Q := Q) (Q' := fun _ _ => False) (po.to g1))
    · cases h
  · exact ea g S _ S' h1 q s H _ w sl (Post.ex (Q := Q) po)
/-- texts of a list -/
def strDs : List D → Option (List Str)
  | [] => some []
  | d :: ds => match d, strDs ds with
    | .str a, some b => some (a :: b)
    | _, _ => none
theorem strDs_inv {K : Fr} {q : Nat → Addr} {n : Nat} {H : Hp} : ∀ {vs : List V} {ds : List D} {zs : List Str}, strDs ds = some zs → Dts K q n H vs ds → vs = zs.map V.str
  | _, _, _, h, .nil => by simp only [strDs] at h; cases h; rfl
  | _, _, _, h, .cons r rs => by
    simp only [strDs] at h
    split at h
    · rename_i a b e2
      cases h
      obtain rfl := r.str_inv
      rw [strDs_inv e2 rs]
      rfl
    · cases h
def joinF (x y : D) (S : ST) : Option (Rs D × ST) := match x with
  | .str a => match sqS S y with
    | some ds => match strDs ds with
      | some ys => if decide ((ys.map (·.length)).sum + ys.length * a.length ≤ 100000) = true then some (.ok (.str (Txt.join a ys)), S) else none
      | none => none
    | none => none
  | _ => none
theorem joinE {K : Fr} : M1E K cl E (fun x xs H Q => ∃ a p, ∃ ys : List Str, x = .str a ∧ xs = [.ref p] ∧ (SqL K H p (ys.map V.str) ∨ SqT K H p (ys.map V.str)) ∧ (ys.map (·.length)).sum + ys.length * a.length ≤ 16777216 ∧ Q (.str (Txt.join a ys)) H) joinF := by
  intro x y S z S' h q H vx vy Q w hx hy po
  unfold joinF at h
  split at h
  · split at h
    · rename_i ds e
      split at h
      · rename_i ys e2
        split at h
        · rename_i hc
          cases h
          obtain rfl := hx.str_inv
          obtain ⟨p, vs, rfl, s, d⟩ := sqS_inv e w hy
          obtain rfl := strDs_inv e2 d
          exact ⟨_, p, ys, rfl, rfl, s, Nat.le_trans (of_decide_eq_true hc) (by decide), fz_val w po (.str _)⟩
        · cases h
      · cases h
    · cases h
  · cases h
theorem ee_join (ha : EE X cl E a ma) (hb : EE X cl E b mb) (hs : starEach [b] X.env = [(false, eval b X.env)] := by rfl) (hbase : attributeBase a "join" X.env (eval a X.env) = eval a X.env := by rfl) (hline : (apos.endLine == pos.line) = true := by rfl) : EE X cl E (.Call (.Attribute a "join" apos) [b] [] pos) (eM1 joinF ma mb) :=
  ee_m1 joinE ha hb fun ta tb pa pb => pe_join pa pb hs hbase hline
def sidxF (x y : D) (S : ST) : Option (Rs D × ST) := match x, y with
  | .str a, .str b => match Builtin.Str.occurrences a b 0 a.length 1 with
    | i :: _ => some (.ok (.int (i : Nat)), S)
    | [] => none
  | _, _ => none
theorem sidxE {K : Fr} : M1E K cl E (fun x xs H Q => ∃ a b i rest, x = .str a ∧ xs = [.str b] ∧ Builtin.Str.occurrences a b 0 a.length 1 = i :: rest ∧ Q (.int (i : Nat)) H) sidxF := by
  intro x y S z S' h q H vx vy Q w hx hy po
  unfold sidxF at h
  split at h
  · split at h
    · rename_i i rest e
      cases h
      obtain rfl := hx.str_inv
      obtain rfl := hy.str_inv
      exact ⟨_, _, i, rest, rfl, rfl, e, fz_val w po (.int _)⟩
    · cases h
  · cases h
theorem ee_sidx (ha : EE X cl E a ma) (hb : EE X cl E b mb) (hs : starEach [b] X.env = [(false, eval b X.env)] := by rfl) (hbase : attributeBase a "index" X.env (eval a X.env) = eval a X.env := by rfl) (hline : (apos.endLine == pos.line) = true := by rfl) : EE X cl E (.Call (.Attribute a "index" apos) [b] [] pos) (eM1 sidxF ma mb) :=
  ee_m1 sidxE ha hb fun ta tb pa pb => pe_m1 PySem.F.slot_str_index PySem.F.type_str_index mt_sindex pa pb hs hbase hline
/-- a list just made, by a method of a text -/
def oM1 (f : D → D → ST → Option (Rs (List D) × ST)) (a b : EM) : AM := fun g S => bd (a g S) fun x S1 => if isStr x = true then bd (b g S1) fun y S2 => f x y S2 else none
def splitF (x y : D) (S : ST) : Option (Rs (List D) × ST) := match x, y with
  | .str a, .str b => if ((b.length == 0) == false && decide (a.length ≤ 100000)) = true then some (.ok ((Txt.split a b).map D.str), S) else none
  | _, _ => none
theorem dts_strs {K : Fr} {q : Nat → Addr} {n : Nat} {H : Hp} : ∀ zs : List Str, Dts K q n H (zs.map V.str) (zs.map D.str)
  | [] => .nil
  | z :: zs => .cons (.str z) (dts_strs zs)
theorem eo_split (ha : EE X cl E a ma) (hb : EE X cl E b mb) (hs : starEach [b] X.env = [(false, eval b X.env)] := by rfl) (hbase : attributeBase a "split" X.env (eval a X.env) = eval a X.env := by rfl) (hline : (apos.endLine == pos.line) = true := by rfl) : EO X cl E (.Call (.Attribute a "split" apos) [b] [] pos) (oM1 splitF ma mb) := by
  obtain ⟨ta, pa, ea⟩ := ha
  obtain ⟨tb, pb, eb⟩ := hb
  refine ⟨_, pe_m1 PySem.F.slot_str_split PySem.F.type_str_split mt_split pa pb hs hbase hline, fun g S z S' h q s H Q w sl po => ?_⟩
  rcases bd_inv h with ⟨x, S1, h1, h⟩ | ⟨c, fs, h1, rfl⟩
  · refine ea g S _ S1 h1 q s H _ w sl fun q1 H1 vx g1 w1 d1 => ?_
    split at h
    · rename_i hst
      refine ⟨isStr_inv hst d1, ?_⟩
      rcases bd_inv h with ⟨y, S2, h2, h⟩ | ⟨c, fs, h2, rfl⟩
      · refine eb g S1 _ S2 h2 q1 s H1 _ w1 (sl.mono g1) fun q2 H2 vy g2 w2 d2 => ?_
        unfold splitF at h
        split at h
        · split at h
          · rename_i hc
            cases h
            simp only [Bool.and_eq_true, beq_iff_eq, decide_eq_true_eq] at hc
            obtain rfl := (d1.mono g2.ge).str_inv
            obtain rfl := d2.str_inv
            refine ⟨_, _, rfl, rfl, hc.1, Nat.le_trans (Nat.add_le_add_right hc.2 2) (by decide), fun l hl => ?_⟩
            exact (po.to (g1.trans g2)) q2 _ l _ (Gr.new hl) (w2.new hl) hl upd_same (fun m hm => w2.ne hl hm) (dts_strs _)
          · cases h
        · cases h
      · exact eb g S1 _ S' h2 q1 s H1 _ w1 (sl.mono g1) (Post.to (Q := fun _ _ => False) (r := .ex c fs) g1 po)
    · cases h
  · exact ea g S _ S' h1 q s H _ w sl (Post.ex (Q := fun _ _ => False) po)
/-! ### xs[i] = e -/
def gSet (mo mi : EM) : GM := fun d g S => match mo g S with
  | some (.ok (.ptr n), S1) => match mi g S1 with
    | some (.ok (.int i), S2) => match stL S2 n with
      | some ds => match ixN ds.length i with
        | some j => some (g, S2.set n (.lst (ds.set j d)))
        | none => none
      | none => none
    | _ => none
  | _ => none
theorem eg_sub {o i : Expr} {mo mi : EM} (ho : EE X cl E o mo) (hi : EE X cl E i mi) (ha : ∀ v, assign (.Subscript o i pos) X.env v = (do
      let ov ← holding [v] (eval o X.env)
      let iv ← holding [v, ov] (eval i X.env)
      standAt pos
      holding [v, ov, iv] (setItem ov iv v)
      release [v, ov, iv] []) := by intro _; rfl) : EG X (.Subscript o i pos) [] (gSet mo mi) := by
  obtain ⟨to, po, eo⟩ := ho
  obtain ⟨ti, pi, ei⟩ := hi
  refine ⟨_, pg_sub po pi set_list ha, fun d g S g' S' h q s H v Q w sl hd kk => ?_⟩
  unfold gSet at h
  split at h
  · rename_i n S1 e1
    split at h
    · rename_i k S2 e2
      split at h
      · rename_i ds e3
        split at h
        · rename_i j e4
          cases h
          refine eo g S _ S1 e1 q s H _ w sl fun q1 H1 vo g1 w1 d1 => ?_
          refine ei g S1 _ S2 e2 q1 s H1 _ w1 (sl.mono g1) fun q2 H2 vi g2 w2 d2 => ?_
          obtain ⟨rfl, hm⟩ := (d1.mono g2.ge).ptr_inv
          obtain rfl := d2.int_inv
          obtain ⟨ws, e5, r5⟩ := w2.ob _ _ (stL_some e3)
          have gg := g1.trans g2
          have le : (S2.set n (MO.lst (ds.set j d))).length = S2.length := List.length_set
          refine ⟨_, ws, k, j, rfl, rfl, e5, by rw [r5.length]; exact e4, ?_⟩
          have hv := hd.mono gg.ge
          refine kk q2 _ s ?_ (w2.wr (x := .lst _) hm e5 trivial ⟨_, upd_same, (r5.set j hv).mono (Ge.wr e5 trivial)⟩) ?_ ⟨rfl, fun _ _ => rfl⟩
          · rw [le]; exact gg.trans (Gr.wr hm e5 trivial)
          · rw [le]; exact (sl.mono gg).mono (Gr.wr hm e5 trivial)
        · cases h
      · cases h
    · cases h
  · cases h
end
end U
namespace U
open PySem L2
theorem b_repr : bootBuiltins "repr" = some (.builtin "repr") := by decide +kernel
/-- int(..) of a number, a truth, a text -/
def intAnyF (xs : List D) (S : ST) : Option (Rs D × ST) := match xs with
  | [.str a] => intTxF [.str a] S
  | xs => intOfF xs S
theorem cr_int {X : Cx} : CallR X (.type "int") (fun xs H Q => ((∃ i, xs = [.int i] ∧ Q (.int i) H) ∨ ∃ k, xs = [.bl k] ∧ Q (.int (if k then 1 else 0)) H) ∨ ∃ a n, xs = [.str a] ∧ PySem.intText? a = some n ∧ a.length ≤ 640 ∧ Q (.int n) H) := CallR.or call_int1 call_int_str
theorem intAnyE {K : Fr} {cl : Cl} {E : XK} : CaE K cl E (fun xs H Q => ((∃ i, xs = [.int i] ∧ Q (.int i) H) ∨ ∃ k, xs = [.bl k] ∧ Q (.int (if k then 1 else 0)) H) ∨ ∃ a n, xs = [.str a] ∧ PySem.intText? a = some n ∧ a.length ≤ 640 ∧ Q (.int n) H) intAnyF := by
  intro xs S z S' h q H vs Q w hx po
  unfold intAnyF at h
  split at h
  · exact .inr (intTxE _ S z S' h q H vs Q w hx po)
  · exact .inl (intOfE _ S z S' h q H vs Q w hx po)
end U

set_option Elab.async false
set_option linter.all false
set_option maxRecDepth 100000
set_option maxHeartbeats 1000000
namespace U
open PySem L2
/-! ### defs with keyword-only parameters that have defaults -/
def OkB (P : Program) (w : World) (K : Fr) (mg : Str → Option Value) (base : Heap) (cl : Cl) (x : Str) (j : Nat) (ps : List Str) (m : DM) (f : Addr) (fd : FuncData) : Prop :=
  FnG P w K mg base (L2.CX P w) j f fd ps (spM K cl ps.length m) ∧ mg x = some (.ref f) ∧ PySem.W.keepIn K (.ref f) = true
/-- the def behind x, called with n positional things, the rest are its defaults dm -/
def Okd (P : Program) (w : World) (K : Fr) (mg : Str → Option Value) (base : Heap) (cl : Cl) (x : Str) (j : Nat) (ps : List Str) (m : DM) (dm : List D) : Prop :=
  ∃ f fd ds dvs, OkB P w K mg base cl x j ps m f fd ∧ Vals dvs ds ∧ Binds K fd ps ds ∧ ∀ q N H, Dts K q N H dvs dm
section
variable {P : Program} {w : World} {K : Fr} {mg : Str → Option Value} {base : Heap} {cl : Cl} {x qual : Str} {params : Arguments} {body : List Stmt} {scope : Scope} {dvs : List V} {kws : List (Str × V)} {f : Addr} {fd : FuncData} {N ps ks : List Str} {n k j : Nat} {m : DM} {mb : SM}
theorem okb_mk (F : FunD K x qual params body scope dvs kws f fd) (hm : mg x = some (.ref f)) (S : FnScope N ps scope)
    (hb : ∀ (cdv : Value) (A : Around) (outer : List Env) (s : Shared) (H : Hp) (E : XK), RoomG k (A.deeper (PyProof.Rows.envOfC qual scope s.heap.objs.size f cdv)) → ESs (cxOf (L2.CX P w) P w K mg base N qual scope f cdv A outer s H E) cl E body mb) :
    OkB P w K mg base cl x (k + 1) ps (mkD N.length mb) f fd := ⟨fn_mk F S hb, hm, F.kp⟩
/-- the thing i of the first, second, third row -/
def pk3 {α : Type} (us mv ws : List α) (c i : Nat) : List α := match c with
  | 0 => (us.drop i).take 1
  | 1 => (mv.drop i).take 1
  | _ => (ws.drop i).take 1
def pks3 {α : Type} (cs : List (Nat × Nat)) (us mv ws : List α) : List α := cs.flatMap fun c => pk3 us mv ws c.1 c.2
theorem pks3_vals {vs mz zs : List V} {us mv ws : List Value} (h : Vals vs us) (h1 : Vals mz mv) (h2 : Vals zs ws) : ∀ cs : List (Nat × Nat), Vals (pks3 cs vs mz zs) (pks3 cs us mv ws)
  | [] => .nil
  | c :: cs => by
    show Vals (pk3 vs mz zs c.1 c.2 ++ pks3 cs vs mz zs) (pk3 us mv ws c.1 c.2 ++ pks3 cs us mv ws)
    refine Vals.append ?_ (pks3_vals h h1 h2 cs)
    unfold pk3
    split
    · exact (h.drop _).take _
    · exact (h1.drop _).take _
    · exact (h2.drop _).take _
theorem pks3_dts {q : Nat → Addr} {N : Nat} {H : Hp} {vs mz zs : List V} {ds dm es : List D} (h : Dts K q N H vs ds) (h1 : Dts K q N H mz dm) (h2 : Dts K q N H zs es) : ∀ cs : List (Nat × Nat), Dts K q N H (pks3 cs vs mz zs) (pks3 cs ds dm es)
  | [] => .nil
  | c :: cs => by
    show Dts K q N H (pk3 vs mz zs c.1 c.2 ++ pks3 cs vs mz zs) (pk3 ds dm es c.1 c.2 ++ pks3 cs ds dm es)
    refine Dts.append ?_ (pks3_dts h h1 h2 cs)
    unfold pk3
    split
    · exact (h.drop _).take _
    · exact (h1.drop _).take _
    · exact (h2.drop _).take _
theorem okk_ko (B : OkB P w K mg base cl x j ps m f fd) (F : FunD K x qual params body scope [] kws f fd) (n : Nat) (ks : List Str) (ms : List (Str × V)) (dm : List D) (cs : List (Nat × Nat)) (hk : kws ≠ []) (hms : ∀ q ∈ ms, q ∈ kws) (hdm : ∀ q N H, Dts K q N H (ms.map (·.2)) dm)
    (h : ∀ (D : Addr) (doc pm : Value) (an : Option Addr) (cdv ct : Value) (us mv ws : List Value), us.length = n → mv.length = ms.length → ws.length = ks.length →
      KwChain D ((ms.map (·.1)).zip mv) (bindArgs (PySem.W.fnOf x qual params body scope .none (.ref D) doc pm an cdv ct) ⟨us, ks.zip ws⟩) (ps.zip (pks3 cs us mv ws))) : Okk P w K mg base cl x j ps m n ks (fun ds es => pks3 cs ds dm es) := by
  obtain ⟨mv, kb⟩ := FunD.kbinds0 F n ks ms (fun us mv ws => pks3 cs us mv ws) hk hms (fun a b c => pks3_vals a b c cs) h
  exact ⟨f, fd, _, _, B.1, B.2.1, B.2.2, kb, fun q N H vs zs ds es _ _ a b => pks3_dts a (hdm q N H) b cs⟩
theorem okd_ko (B : OkB P w K mg base cl x j ps m f fd) (F : FunD K x qual params body scope [] kws f fd) (n : Nat) (dm : List D) (hk : kws ≠ []) (hn : n + kws.length = ps.length) (hdm : ∀ q N H, Dts K q N H (kws.map (·.2)) dm)
    (h : ∀ (D : Addr) (doc pm : Value) (an : Option Addr) (cdv ct : Value) (us ks : List Value), us.length = n → ks.length = kws.length →
      KwChain D ((kws.map (·.1)).zip ks) (bindArgs (PySem.W.fnOf x qual params body scope .none (.ref D) doc pm an cdv ct) ⟨us, []⟩) (ps.zip (us ++ ks))) : Okd P w K mg base cl x j ps m dm := by
  obtain ⟨ds, dv, db⟩ := FunD.binds0 F n hk hn h
  exact ⟨f, fd, ds, _, B, dv, db, hdm⟩
end
section
open PyProof.Rows
variable {X : Cx} {cl : Cl} {E : XK} {e : Expr} {es : List Expr} {pos p : Pos} {mr : AM} {x : Str} {j : Nat} {ps : List Str} {d : DM} {dm : List D}
theorem ee_callD (F : Okd X.prog X.w X.K X.mg X.base cl x j ps d dm) (hr : RoomG j X.A) (hx : Passes (L2.CX X.prog X.w) X E) (ha : EA X cl E (e :: es) mr) (hg : Gl X x := by rfl) (hdb : (x == ("__debug__" : Str)) = false := by decide)
    (he : starEach (e :: es) X.env = (false, eval e X.env) :: starEach es X.env := by rfl) (hpl : (backTo pos (starEach es X.env)).any (·.1) = false := by rfl) {nn : Nat} (hnn : ps.length = nn := by rfl) : EE X cl E (.Call (.Name x p) (e :: es) [] pos) (eCall (fun xs S => Ar nn d (xs ++ dm) S) mr) := by
  subst hnn
  obtain ⟨f, fd, us0, dvs, ⟨F, hm, hk⟩, dv, hb, rel⟩ := F
  obtain ⟨ta, pa, ea⟩ := ha
  have pe : PE X (.Call (.Name x p) (e :: es) [] pos) (tCall (spM X.K cl ps.length d) dvs E ta) := by
    constructor
    intro pins s σ H Q I h
    refine wpAny_Call_Name_kw (ld_glob I hg hm (PySem.W.callWith_K (h₀ := X.base) I.ok.mod.kin hk (thn (pa.run pos pins s σ H _ I h) ?_) he hpl) hdb)
    rintro us s1 ⟨vs, H1, I1, r, q⟩
    have r2 := r.append dv
    exact ⟨I1.kIn, rung F hr hx I1 (hb s1 us I1.kIn (by rw [← r2.length]; exact F.len _ H1 Q E q)) r2 q⟩
  refine ⟨_, pe, fun g S z S' h q s H Q w sl po => ?_⟩
  rcases bd_inv h with ⟨xs, S1, h1, h⟩ | ⟨c, fs, h1, rfl⟩
  · refine ea g S _ S1 h1 q s H _ w sl fun q1 H1 vs g1 w1 d1 => ?_
    have dd := d1.append (rel q1 S1.length H1)
    exact ⟨by rw [dd.length]; exact Ar.len h, q1, S1, _, z, S', w1, dd, Ar.get h, po.to g1⟩
  · exact ea g S _ S' h1 q s H _ w sl (Post.ex (Q' := fun _ _ => False) po)
end
end U

set_option Elab.async false
set_option linter.all false
set_option maxRecDepth 100000
set_option maxHeartbeats 1000000
namespace U
open PySem L2
/-! ### more tools of the plain part -/
section
variable {S S1 : ST} {n i j : Nat} {ds es : List D} {d e : D} {g : EV} {p q : EM}
theorem stL_lt (h : stL S n = some ds) : n < S.length := (List.getElem?_eq_some_iff.mp (stL_some h)).1
theorem stL_set (h : n < S.length) : stL (S.set n (.lst es)) n = some es := by
  unfold stL
  rw [List.getElem?_set_self h]
theorem stL_set_ne (h : n ≠ i) {o : MO} : stL (S.set n o) i = stL S i := by
  unfold stL
  rw [List.getElem?_set_ne h]
theorem stL_old (h : stL S n = some ds) {l : ST} : stL (S ++ l) n = some ds := by
  unfold stL
  rw [List.getElem?_append_left (stL_lt h), stL_some h]
theorem set_set' {o o' : MO} : (S.set n o).set n o' = S.set n o' := List.set_set ..
/-- a comprehension without if whose parts draw from the store -/
theorem cm_inv {tg : GM} {el : EM} (I : Nat → ST → Prop) (P : D → Prop) : ∀ (ds : List D) (k : Nat) (S : ST), (∀ i d S, i < ds.length → I (k + i) S → ∃ g1 S1 x S2, tg d g S = some (g1, S1) ∧ el g1 S1 = some (.ok x, S2) ∧ P x ∧ I (k + i + 1) S2) → I k S → ∃ xs S', cmD tg bYes el g ds S = some (xs, S') ∧ xs.length = ds.length ∧ (∀ x ∈ xs, P x) ∧ I (k + ds.length) S'
  | [], k, S, _, h => ⟨[], S, rfl, rfl, by simp, h⟩
  | d :: ds, k, S, st, h => by
    obtain ⟨g1, S1, x, S2, e1, e2, px, i2⟩ := st 0 d S (by simp) h
    obtain ⟨xs, S', e3, hl, hp, i3⟩ := cm_inv I P ds (k + 1) S2 (fun i d S hi hI => by
      have := st (i + 1) d S (by simpa using hi) (by rwa [show k + (i + 1) = k + 1 + i by omega])
      rwa [show k + (i + 1) + 1 = k + 1 + i + 1 by omega] at this) i2
    refine ⟨x :: xs, S', by simp only [cmD, e1, bYes, e2, e3], by simp [hl], ?_, by rwa [show k + (d :: ds).length = k + 1 + ds.length by simp; omega]⟩
    intro y hy
    rcases List.mem_cons.mp hy with rfl | hy
    · exact px
    · exact hp y hy
/-- a comprehension that sifts -/
theorem cm_sift {tg : GM} {t : BM} {el : EM} {f : D → D} {c : D → Bool} : ∀ (ds : List D), (∀ d ∈ ds, ∃ g1, tg d g S = some (g1, S) ∧ t g1 S = some (.ok (c d), S) ∧ el g1 S = some (.ok (f d), S)) → cmD tg t el g ds S = some ((ds.filter c).map f, S)
  | [], _ => rfl
  | d :: ds, h => by
    obtain ⟨g1, e1, e2, e3⟩ := h d (List.mem_cons_self ..)
    have ih := cm_sift ds fun d hd => h d (List.mem_cons_of_mem _ hd)
    cases hc : c d with
    | true => simp only [cmD, e1, e2, hc, e3, ih, List.filter_cons_of_pos hc, List.map_cons]
    | false => simp only [cmD, e1, e2, hc, ih, List.filter_cons, Bool.false_eq_true, if_false]
/-- a store's place is written -/
def seE (x : Option (List D)) (i : Int) (d : D) (n : Nat) (g : EV) (S : ST) : Option (EV × ST) := match x with
  | some ds => match ixN ds.length i with
    | some j => some (g, S.set n (.lst (ds.set j d)))
    | none => none
  | none => none
def seI (x : Option (Rs D × ST)) (d : D) (n : Nat) (g : EV) : Option (EV × ST) := match x with
  | some (.ok (.int i), S2) => seE (stL S2 n) i d n g S2
  | _ => none
def seO (x : Option (Rs D × ST)) (mi : EM) (d : D) (g : EV) : Option (EV × ST) := match x with
  | some (.ok (.ptr n), S1) => seI (mi g S1) d n g
  | _ => none
theorem gSet_e : gSet p q d g S = seO (p g S) q d g := by
  unfold gSet seO seI seE
  rfl
theorem seO_1 : seO (some (.ok (.ptr n), S)) q d g = seI (q g S) d n g := rfl
theorem seI_1 {i : Int} : seI (some (.ok (.int i), S)) d n g = seE (stL S n) i d n g S := rfl
theorem seE_1 {i : Int} : seE (some ds) i d n g S = match ixN ds.length i with
    | some j => some (g, S.set n (.lst (ds.set j d)))
    | none => none := rfl
theorem seE_j {i : Int} (h : ixN ds.length i = some j) : seE (some ds) i d n g S = some (g, S.set n (.lst (ds.set j d))) := by
  unfold seE
  simp only [h]
/-! texts -/
theorem lenF_5 {z : Str} : lenF [.str z] S = if few z.length = true then some (.ok (.int z.length), S) else none := rfl
theorem addF_4 {a b : Str} : addF (.str a) (.str b) S = if few (a.length + b.length) = true then some (.ok (.str (a ++ b)), S) else none := rfl
def sxE (x : Option Nat) (S : ST) : Option (Rs D × ST) := match x with
  | some c => some (.ok (.str ⟨#[c]⟩), S)
  | none => none
theorem sxE_1 {c : Nat} : sxE (some c) S = some (.ok (.str ⟨#[c]⟩), S) := rfl
theorem ixF_5 {z : Str} {i : Int} : ixF (.str z) (.int i) S = if few z.length = true then sxE (atI z.cps.toList i) S else none := by unfold ixF sxE; rfl
theorem itF_4 {z : Str} : itF (.str z) S = some (.ok (signs z), S) := rfl
theorem max2F_e {i j : Int} : max2F [.int i, .int j] S = some (.ok (.int (if j > i then j else i)), S) := rfl
theorem min2F_e {i j : Int} : min2F [.int i, .int j] S = some (.ok (.int (if j < i then j else i)), S) := rfl
theorem eM1_e {f : D → D → ST → Option (Rs D × ST)} : eM1 f p q g S = bd (p g S) fun x S1 => if isStr x = true then bd (q g S1) (f x) else none := rfl
def cM1 (f : D → D → ST → Option (Rs D × ST)) (q : EM) (g : EV) (x : D) (S : ST) : Option (Rs D × ST) := if isStr x = true then bd (q g S) (f x) else none
theorem eM1_c {f : D → D → ST → Option (Rs D × ST)} : eM1 f p q g S = bd (p g S) (cM1 f q g) := rfl
theorem cM1_1 {f : D → D → ST → Option (Rs D × ST)} {a : Str} : cM1 f q g (.str a) S = bd (q g S) (f (.str a)) := rfl
def cN1 (f : D → D → ST → Option (Rs (List D) × ST)) (q : EM) (g : EV) (x : D) (S : ST) : Option (Rs (List D) × ST) := if isStr x = true then bd (q g S) (f x) else none
theorem oM1_c {f : D → D → ST → Option (Rs (List D) × ST)} : oM1 f p q g S = bd (p g S) (cN1 f q g) := rfl
theorem cN1_1 {f : D → D → ST → Option (Rs (List D) × ST)} {a : Str} : cN1 f q g (.str a) S = bd (q g S) (f (.str a)) := rfl
theorem intAnyF_b {b : Bool} : intAnyF [.bl b] S = some (.ok (.int (if b then 1 else 0)), S) := rfl
theorem intAnyF_s {a : Str} : intAnyF [.str a] S = intTxF [.str a] S := rfl
theorem strOfF_1 {i : Int} : strOfF [.int i] S = if decide (i.natAbs.log2 < 1920) = true then some (.ok (.str (toString i)), S) else none := rfl
theorem reprF_ok {p : PyData} (h : pyS S d = some p) (hs : p.showable = true) (hd : p.hasDict = false) (hp : p.depth ≤ 60) (hl : p.shown.length ≤ 100000) : reprF [d] S = some (.ok (.str p.shown), S) := by
  simp [reprF, h, hs, hd, hp, hl]
theorem reprF_non : reprF [.non] S = some (.ok (.str "None"), S) := reprF_ok (p := .none) rfl rfl rfl (by decide) (by decide)
theorem log2_small {i : Int} (h : i.natAbs < 10 ^ 40) : i.natAbs.log2 < 1920 := by
  by_cases h0 : i.natAbs = 0
  · rw [h0]; decide
  · exact Nat.lt_trans ((Nat.log2_lt h0).mpr (Nat.lt_of_lt_of_le h (by decide : 10 ^ 40 ≤ 2 ^ 200))) (by decide)
theorem shown_int_small {i : Int} (h : i.natAbs < 10 ^ 40) : (PyData.shown (.int i)).length ≤ 41 := by
  have := int_text_length_le10 (k := 40) (by decide) h
  show (Str.ofString (toString i)).length ≤ 41
  rw [ofString_length]
  exact this
theorem reprF_int {i : Int} (h : i.natAbs < 10 ^ 40) : reprF [.int i] S = some (.ok (.str (PyData.shown (.int i))), S) :=
  reprF_ok (p := .int i) rfl (decide_eq_true (log2_small h)) rfl (Nat.zero_le _) (Nat.le_trans (shown_int_small h) (by decide))
theorem at_last {α : Type} {xs : List α} {x : α} : atI (xs ++ [x]) (-1) = some x := by
  unfold atI ixN
  simp only [List.length_append, List.length_singleton]
  rw [if_neg (by decide), if_pos (by omega)]
  have e : (-1 + ((xs.length + 1 : Nat) : Int)).toNat = xs.length := by omega
  rw [e]
  simp
theorem ixN_last {n : Nat} : ixN (n + 1) (-1) = some n := by
  unfold ixN
  rw [if_neg (by decide), if_pos (by omega)]
  congr 1
  omega
theorem set_last {α : Type} {xs : List α} {x y : α} : (xs ++ [x]).set xs.length y = xs ++ [y] := by simp
theorem set_self' (h : stL S n = some ds) : S.set n (.lst ds) = S := by
  have := stL_some h
  obtain ⟨hl, e⟩ := List.getElem?_eq_some_iff.mp this
  rw [← e]
  exact List.set_getElem_self hl
theorem flDs_strs : ∀ zs : List Str, flDs (zs.map D.str) = some (zs.map V.str)
  | [] => rfl
  | z :: zs => by simp only [List.map_cons, flDs, flD, flDs_strs zs]
theorem inF_p {f : Bool → Bool} {a : Str} {zs : List Str} (h : stL S n = some (zs.map D.str)) : inF f (.str a) (.ptr n) S = some (.ok (.bl (f (inV (.str a) (zs.map V.str)))), S) := by
  have e : sqS S (.ptr n) = some (zs.map D.str) := h
  unfold inF
  simp only [e, flD, flDs_strs]
theorem pyS_p {zs : List PyData} (h : stL S n = some ds) (e : pyDs ds = some zs) : pyS S (.ptr n) = some (.list zs) := by
  unfold pyS
  simp only [h, e]
  rfl
theorem isiF_p {c : String} (h : stL S n = some ds) : isiF [c] (.ptr n) S = some (.ok (.bl (isaB "list" c)), S) := by
  refine isiF_1 ?_
  show stT S n = _
  unfold stT
  rw [stL_some h]
end
end U

set_option Elab.async false
set_option linter.all false
set_option maxRecDepth 100000
set_option maxHeartbeats 1000000
namespace U
open PySem L2
section
variable {X : Cx} {cl : Cl} {E : XK} {e a b : Expr} {es : List Expr} {pos apos p : Pos} {m ma mb mc : EM} {mr mo : AM} {tg : Expr}
/-! ### divmod -/
def dvmF (xs : List D) (S : ST) : Option (Rs D × ST) := match xs with
  | [.int i, .int j] => if (decide (0 < j) && decide (j < 1073741824)) = true then some (.ok (.tup [.int (i / j), .int (i % j)]), S) else none
  | _ => none
theorem dvmE {K : Fr} : CaE K cl E (fun xs H Q => ∃ i j, xs = [.int i, .int j] ∧ CDiv i j ∧ ∀ p, H p = none → Q (.ref p) (upd H p (.tup [.int (i / j), .int (i % j)]))) dvmF := by
  intro xs S z S' h q H vs Q w hx po
  unfold dvmF at h
  split at h
  · split at h
    · rename_i hc
      cases h
      obtain ⟨v, u, rfl, r1, r2⟩ := dts2 hx
      obtain rfl := r1.int_inv
      obtain rfl := r2.int_inv
      simp only [Bool.and_eq_true, decide_eq_true_eq] at hc
      exact ⟨_, _, rfl, hc, fun p hp => fz_tup w po hp (.cons (.int _) (.cons (.int _) .nil))⟩
    · cases h
  · cases h
theorem b_divmod : bootBuiltins "divmod" = some (.builtin "divmod") := by decide +kernel
theorem b_sorted : bootBuiltins "sorted" = some (.builtin "sorted") := by decide +kernel
/-! ### sorted ints -/
def ins (x : Int) : List Int → List Int
  | [] => [x]
  | y :: ys => if x ≤ y then x :: y :: ys else y :: ins x ys
def isort : List Int → List Int
  | [] => []
  | x :: xs => ins x (isort xs)
theorem ins_perm (x : Int) : ∀ l, (ins x l).Perm (x :: l)
  | [] => .refl _
  | y :: ys => by
    unfold ins
    split
    · exact .refl _
    · exact ((ins_perm x ys).cons y).trans (.swap x y ys)
theorem isort_perm : ∀ l, (isort l).Perm l
  | [] => .nil
  | x :: xs => (ins_perm x (isort xs)).trans ((isort_perm xs).cons x)
theorem ins_sorted (x : Int) : ∀ l : List Int, l.Pairwise (· ≤ ·) → (ins x l).Pairwise (· ≤ ·)
  | [], _ => List.pairwise_singleton ..
  | y :: ys, h => by
    unfold ins
    have h1 := List.pairwise_cons.mp h
    split
    · rename_i hxy
      refine List.pairwise_cons.mpr ⟨fun z hz => ?_, h⟩
      rcases List.mem_cons.mp hz with rfl | hz
      · exact hxy
      · exact Int.le_trans hxy (h1.1 z hz)
    · rename_i hxy
      refine List.pairwise_cons.mpr ⟨fun z hz => ?_, ins_sorted x ys h1.2⟩
      rcases List.mem_cons.mp ((ins_perm x ys).mem_iff.mp hz) with rfl | hz
      · omega
      · exact h1.1 z hz
theorem isort_sorted : ∀ l, (isort l).Pairwise (· ≤ ·)
  | [] => .nil
  | x :: xs => ins_sorted x _ (isort_sorted xs)
theorem isort_eq {l l' : List Int} (h : l'.Perm l) (hs : l'.Pairwise (· ≤ ·)) : l' = isort l :=
  List.Perm.eq_of_pairwise (fun a b _ _ h1 h2 => Int.le_antisymm h1 h2) hs (isort_sorted l) (h.trans (isort_perm l).symm)
def intDs : List D → Option (List Int)
  | [] => some []
  | d :: ds => match d, intDs ds with
    | .int a, some b => some (a :: b)
    | _, _ => none
theorem intDs_inv {K : Fr} {q : Nat → Addr} {n : Nat} {H : Hp} : ∀ {vs : List V} {ds : List D} {zs : List Int}, intDs ds = some zs → Dts K q n H vs ds → vs = zs.map V.int
  | _, _, _, h, .nil => by simp only [intDs] at h; cases h; rfl
  | _, _, _, h, .cons r rs => by
    simp only [intDs] at h
    split at h
    · rename_i a b e2
      cases h
      obtain rfl := r.int_inv
      rw [intDs_inv e2 rs]
      rfl
    · cases h
def sortF (xs : List D) (S : ST) : Option (Rs (List D) × ST) := match xs with
  | [x] => match lsS S x with
    | some ds => match intDs ds with
      | some ns => if decide (ns.length < 64) = true then some (.ok ((isort ns).map D.int), S) else none
      | none => none
    | none => none
  | _ => none
theorem sortO {K : Fr} : CaO K cl E (rSorted K) sortF := by
  intro xs S z S' h q H vs Q w hx po
  unfold sortF at h
  split at h
  · split at h
    · rename_i ds e
      split at h
      · rename_i ns e2
        split at h
        · rename_i hc
          cases h
          obtain ⟨v, rfl, r⟩ := dts1 hx
          obtain ⟨a, vs, rfl, s, d⟩ := lsS_inv e w r
          obtain rfl := intDs_inv e2 d
          refine ⟨a, ns, rfl, s, of_decide_eq_true hc, fun ns' l hp hs hl => ?_⟩
          obtain rfl := isort_eq hp hs
          exact po q _ l _ (Gr.new hl) (w.new hl) hl upd_same (fun m hm => w.ne hl hm) (dts_ints _)
        · cases h
      · cases h
    · cases h
  · cases h
/-! ### list(range(a, b)) -/
def rgF (x y : D) (S : ST) : Option (Rs (List D) × ST) := match x, y with
  | .int i, .int j => if (okI i && okI j && decide ((j - i).toNat ≤ 100000)) = true then some (.ok (rngD i j), S) else none
  | _, _ => none
def oRg2 (ma mb : EM) : AM := fun g S => bd (ma g S) fun x S1 => bd (mb g S1) fun y S2 => rgF x y S2
theorem dts_rg {K : Fr} {q : Nat → Addr} {n : Nat} {H : Hp} (i j : Int) : Dts K q n H (rgV i j) (rngD i j) := by
  unfold rgV rngD
  induction List.range (j - i).toNat with
  | nil => exact .nil
  | cons k ks ih => exact .cons (.int _) ih
theorem eo_listRg {p2 pos2 : Pos} (hc : X.calm = true) (hml : X.mg "list" = none) (hmr : X.mg "range" = none) (ha : EE X cl E a ma) (hb : EE X cl E b mb) (hgl : Gl X "list" := by rfl) (hgr : Gl X "range" := by rfl)
    (na : starEach [a, b] X.env = (false, eval a X.env) :: starEach [b] X.env := by rfl) (nb : starEach [b] X.env = (false, eval b X.env) :: starEach [] X.env := by rfl) (hp : (backTo pos2 (starEach [b] X.env)).any (·.1) = false := by rfl)
    (nc : starEach [.Call (.Name "range" p2) [a, b] [] pos2] X.env = (false, eval (.Call (.Name "range" p2) [a, b] [] pos2) X.env) :: starEach [] X.env := by rfl) :
    EO X cl E (.Call (.Name "list" p) [.Call (.Name "range" p2) [a, b] [] pos2] [] pos) (oRg2 ma mb) := by
  obtain ⟨ta, pa, ea⟩ := ha
  obtain ⟨tb, pb, eb⟩ := hb
  refine ⟨_, pe_listRg hc hgl hml (prg_2 hgr hmr pa pb na nb hp) nc, fun g S z S' h q s H Q w sl po => ?_⟩
  rcases bd_inv h with ⟨x, S1, h1, h⟩ | ⟨c, fs, h1, rfl⟩
  · refine ea g S _ S1 h1 q s H _ w sl fun q1 H1 vx g1 w1 d1 => ?_
    rcases bd_inv h with ⟨y, S2, h2, h⟩ | ⟨c, fs, h2, rfl⟩
    · refine eb g S1 _ S2 h2 q1 s H1 _ w1 (sl.mono g1) fun q2 H2 vy g2 w2 d2 => ?_
      unfold rgF at h
      split at h
      · split at h
        · rename_i hc
          cases h
          obtain rfl := (d1.mono g2.ge).int_inv
          obtain rfl := d2.int_inv
          simp only [okI, Bool.and_eq_true, decide_eq_true_eq] at hc
          exact ⟨_, _, rfl, rfl, ⟨hc.1.1.1, hc.1.1.2, hc.1.2.1, hc.1.2.2, Nat.le_trans hc.2 (by decide)⟩, fun l hl => po q2 _ l _ ((g1.trans g2).trans (Gr.new hl)) (w2.new hl) ((g1.trans g2).free hl) upd_same (fun m hm => w2.ne hl hm) (dts_rg _ _)⟩
        · cases h
      · cases h
    · exact eb g S1 _ S' h2 q1 s H1 _ w1 (sl.mono g1) (Post.to (Q := fun _ _ => False) (r := .ex c fs) g1 po)
  · exact ea g S _ S' h1 q s H _ w sl (Post.ex (Q := fun _ _ => False) po)
/-! ### range(a, b, c) -/
def rngC (lo c : Int) (n : Nat) : List D := (List.range n).map fun (i : Nat) => .int (lo + i * c)
theorem wk_rngC {K : Fr} {q : Nat → Addr} {n : Nat} {H : Hp} {lo c : Int} {k : Nat} : Wk K q n H (Itc lo c k) (rngC lo c k) := by
  intro q2 n2 H2 g i
  refine ⟨fun d e => ?_, fun e => ?_⟩
  · simp only [rngC, List.getElem?_map, Option.map_eq_some_iff] at e
    obtain ⟨j, e1, rfl⟩ := e
    obtain ⟨hlt, e2⟩ := List.getElem?_eq_some_iff.mp e1
    rw [List.getElem_range] at e2
    subst e2
    rw [List.length_range] at hlt
    refine ⟨hlt, fun x H3 y => ?_⟩
    obtain ⟨rfl, rfl⟩ := y
    exact ⟨.refl, fun _ _ w => w, .int _⟩
  · show k ≤ i
    rw [e]
    simp [rngC]
def rng3F (xs : List D) (S : ST) : Option (Rs (List D) × ST) := match xs with
  | [.int i, .int j, .int c] => if (decide (c ≠ 0) && decide (c.natAbs < 1073741824) && Builtin.Range.small i j c && decide (0 ≤ Builtin.Range.rangeSize i j c)) = true then some (.ok (rngC i c (Builtin.Range.rangeSize i j c).toNat), S) else none
  | _ => none
theorem ei_rng3 {c : Expr} (ha : EA X cl E [a, b, c] mr) (hg : Gl X "range") (hm : X.mg "range" = none) (hs : starEach [a, b, c] X.env = (false, eval a X.env) :: starEach [b, c] X.env := by rfl) (hpl : (backTo pos (starEach [b, c] X.env)).any (·.1) = false := by rfl) :
    EI X cl E tg (.Call (.Name "range" p) [a, b, c] [] pos) (iCall rng3F mr) := by
  obtain ⟨ta, pa, ea⟩ := ha
  refine ⟨_, pi_range3 hg hm pa hs hpl, fun g S z S' h q s H R w sl po => ?_⟩
  rcases bd_inv h with ⟨xs, S1, h1, h⟩ | ⟨c, fs, h1, rfl⟩
  · refine ea g S _ S1 h1 q s H _ w sl fun q1 H1 vs g1 w1 d1 => ?_
    unfold rng3F at h
    split at h
    · split at h
      · rename_i i j c hj
        cases h
        cases d1 with
        | cons r1 rs =>
          obtain ⟨v, u, rfl, r2, r3⟩ := dts2 rs
          obtain rfl := r1.int_inv
          obtain rfl := r2.int_inv
          obtain rfl := r3.int_inv
          simp only [Bool.and_eq_true, decide_eq_true_eq] at hj
          exact ⟨i, j, c, _, rfl, ⟨hj.1.1.1, hj.1.1.2, hj.1.2, (Int.toNat_of_nonneg hj.2).symm⟩, po q1 H1 _ g1 w1 wk_rngC⟩
      · cases h
    · cases h
  · exact ea g S _ S' h1 q s H _ w sl po
/-! ### xs.clear(), xs.extend(a new list), a list some times as a new one -/
def eM0 (T : String) (f : D → ST → Option (Rs D × ST)) (a : EM) : EM := fun g S => bd (a g S) fun x S1 => if rcv T S1 x = true then f x S1 else none
def clrF (x : D) (S : ST) : Option (Rs D × ST) := match x with
  | .ptr n => match stL S n with
    | some _ => some (.ok .non, S.set n (.lst []))
    | none => none
  | _ => none
theorem ee_clear (ha : EE X cl E a ma) (hbase : attributeBase a "clear" X.env (eval a X.env) = eval a X.env := by rfl) (hline : (apos.endLine == pos.line) = true := by rfl) : EE X cl E (.Call (.Attribute a "clear" apos) [] [] pos) (eM0 "list" clrF ma) := by
  obtain ⟨ta, pa, ea⟩ := ha
  refine ⟨_, pe_bm0 PySem.F.plainAttrs_list PySem.F.slot_list_clear PySem.F.type_list_clear mt_clear pa hbase hline, fun g S z S' h q s H Q w sl po => ?_⟩
  rcases bd_inv h with ⟨x, S1, h1, h⟩ | ⟨c, fs, h1, rfl⟩
  · refine ea g S _ S1 h1 q s H _ w sl fun q1 H1 vx g1 w1 d1 => ?_
    split at h
    · rename_i hty
      refine ⟨rcv_ty hty w1 d1, ?_⟩
      unfold clrF at h
      split at h
      · split at h
        · rename_i ds e
          cases h
          obtain ⟨rfl, hm⟩ := d1.ptr_inv
          obtain ⟨ws, e1, r1⟩ := w1.ob _ _ (stL_some e)
          exact ⟨_, ws, rfl, rfl, e1, post_wr (x := .lst []) w1 hm e1 trivial ⟨[], upd_same, .nil⟩ .non (po.to g1)⟩
        · cases h
      · cases h
    · cases h
  · exact ea g S _ S' h1 q s H _ w sl (Post.ex (Q := Q) po)
def extF (x : D) (xs : List D) (S : ST) : Option (Rs D × ST) := match x with
  | .ptr n => match stL S n with
    | some ds => if few (ds.length + xs.length) = true then some (.ok .non, S.set n (.lst (ds ++ xs))) else none
    | none => none
  | _ => none
def eExt (a : EM) (r : AM) : EM := fun g S => bd (a g S) fun x S1 => if rcv "list" S1 x = true then bd (r g S1) (extF x) else none
theorem ee_extend (ha : EE X cl E a ma) (hb : EO X cl E b mo) (hbase : attributeBase a "extend" X.env (eval a X.env) = eval a X.env := by rfl)
    (hfew : ((backTo pos (starEach [b] X.env)).all (fun x => !x.1) && (backToKw pos (keywordEach [] X.env)).all (fun x => x.1.isSome) && decide ([b].length + ([] : List Keyword).length + (if ([] : List Keyword).isEmpty then 0 else 1) < 30)) = true := by rfl)
    (hline : (apos.endLine == pos.line) = true := by rfl) (hs : starEach [b] X.env = (false, eval b X.env) :: starEach [] X.env := by rfl) : EE X cl E (.Call (.Attribute a "extend" apos) [b] [] pos) (eExt ma mo) := by
  obtain ⟨ta, pa, ea⟩ := ha
  obtain ⟨tb, pb, eb⟩ := hb
  refine ⟨_, pe_bm PySem.F.plainAttrs_list PySem.F.slot_list_extend PySem.F.type_list_extend mt_extend pa (pa_cons pb pa_nil hs) hbase hfew hline hs, fun g S z S' h q s H Q w sl po => ?_⟩
  rcases bd_inv h with ⟨x, S1, h1, h⟩ | ⟨c, fs, h1, rfl⟩
  · refine ea g S _ S1 h1 q s H _ w sl fun q1 H1 vx g1 w1 d1 => ?_
    split at h
    · rename_i hty
      refine ⟨rcv_ty hty w1 d1, ?_⟩
      rcases bd_inv h with ⟨xs, S2, h2, h⟩ | ⟨c, fs, h2, rfl⟩
      · refine eb g S1 _ S2 h2 q1 s H1 _ w1 (sl.mono g1) fun q2 H2 l vs g2 w2 h0 hl hn d2 => ?_
        unfold extF at h
        split at h
        · split at h
          · rename_i ds e
            split at h
            · rename_i hf
              cases h
              obtain ⟨rfl, hm⟩ := (d1.mono g2.ge).ptr_inv
              obtain ⟨ws, e1, r1⟩ := w2.ob _ _ (stL_some e)
              refine ⟨_, l, ws, vs, rfl, rfl, e1, hl, by rw [r1.length, d2.length]; exact few_le hf, ?_⟩
              exact post_wr (x := .lst _) w2 hm e1 trivial ⟨_, upd_same, (r1.append d2).mono (Ge.wr e1 trivial)⟩ .non (po.to (g1.trans g2))
            · cases h
          · cases h
        · cases h
      · exact eb g S1 _ S' h2 q1 s H1 _ w1 (sl.mono g1) (Post.ex (Q := Q) (Q' := fun _ _ => False) (po.to g1))
    · cases h
  · exact ea g S _ S' h1 q s H _ w sl (Post.ex (Q := Q) po)
def oRep (a b : EM) : AM := fun g S => bd (a g S) fun x S1 => bd (b g S1) fun y S2 => match lsT S2 x, y with
  | some a, .int k => if (decide (0 ≤ k) && decide (k ≤ 1000) && decide (a.length ≤ 1000)) = true then some (.ok (List.replicate k.toNat a).flatten, S2) else none
  | _, _ => none
theorem eo_rep (ha : EE X cl E a ma) (hb : EE X cl E b mb) : EO X cl E (.BinOp a .Mult b pos) (oRep ma mb) := by
  obtain ⟨ta, pa, ea⟩ := ha
  obtain ⟨tb, pb, eb⟩ := hb
  refine ⟨_, pe_op op_repF pa pb, fun g S z S' h q s H Q w sl po => ?_⟩
  rcases bd_inv h with ⟨x, S1, h1, h⟩ | ⟨c, fs, h1, rfl⟩
  · refine ea g S _ S1 h1 q s H _ w sl fun q1 H1 vx g1 w1 d1 => ?_
    rcases bd_inv h with ⟨y, S2, h2, h⟩ | ⟨c, fs, h2, rfl⟩
    · refine eb g S1 _ S2 h2 q1 s H1 _ w1 (sl.mono g1) fun q2 H2 vy g2 w2 d2 => ?_
      split at h
      · rename_i as k e1
        split at h
        · rename_i hf
          cases h
          simp only [Bool.and_eq_true, decide_eq_true_eq] at hf
          obtain ⟨l, vs, rfl, s1, r1⟩ := lsT_inv e1 w2 (d1.mono g2.ge)
          obtain rfl := d2.int_inv
          have hl := r1.length
          refine ⟨_, k, vs, rfl, rfl, s1, by omega, by omega, ?_, fun p hp => ?_⟩
          · rw [hl]
            exact Nat.le_trans (Nat.mul_le_mul hf.2 (show k.toNat ≤ 1000 by omega)) (by decide)
          · exact po q2 _ p _ ((g1.trans g2).trans (Gr.new hp)) (w2.new hp) ((g1.trans g2).free hp) upd_same (fun m hm => w2.ne hp hm) ((r1.rep k.toNat).mono (Gr.new hp).ge)
        · cases h
      · cases h
    · exact eb g S1 _ S' h2 q1 s H1 _ w1 (sl.mono g1) (Post.to (Q := fun _ _ => False) (r := .ex c fs) g1 po)
  · exact ea g S _ S' h1 q s H _ w sl (Post.ex (Q := fun _ _ => False) po)
end
end U

set_option Elab.async false
set_option linter.all false
set_option maxRecDepth 100000
set_option maxHeartbeats 1000000
namespace U
open PySem L2
/-! ### dicts of the store: {}, d[k], d[k] = v -/
def stD (S : ST) (n : Nat) : Option (List (Key × D)) := match S[n]? with
  | some (.dic kvs) => some kvs
  | _ => none
theorem stD_some {S : ST} {n : Nat} {kvs : List (Key × D)} (h : stD S n = some kvs) : S[n]? = some (.dic kvs) := by
  unfold stD at h
  split at h
  · rename_i e; cases h; exact e
  · cases h
def valD (kvs : List (Key × D)) (k : Key) : Option D := match kvs with
  | [] => none
  | kv :: r => if kv.1 = k then some kv.2 else valD r k
def putD (kvs : List (Key × D)) (k : Key) (d : D) : List (Key × D) := match kvs with
  | [] => [(k, d)]
  | kv :: r => if kv.1 = k then (k, d) :: r else kv :: putD r k d
def nodupK (kvs : List (Key × D)) : Bool := match kvs with
  | [] => true
  | kv :: r => (r.all fun x => decide (x.1 ≠ kv.1)) && nodupK r
section
variable {K : Fr} {q : Nat → Addr} {n : Nat} {H : Hp}
theorem valD_ok : ∀ {kv : List (Key × V)} {kvs : List (Key × D)} {k : Key} {d : D}, Dkv K q n H kv kvs → valD kvs k = some d → ∃ v, valV kv k = some v ∧ Dt K q n H v d
  | _, _, _, _, .nil, h => by cases h
  | _, _, k, d, .cons (k := k') (v := v) (vs := vs) r rs, h => by
    unfold valD at h
    split at h
    · rename_i e
      cases h
      refine ⟨v, ?_, r⟩
      have e : k' = k := e
      subst e
      simp [valV]
    · rename_i e
      have e : ¬ k' = k := e
      obtain ⟨v2, h1, h2⟩ := valD_ok rs h
      refine ⟨v2, ?_, h2⟩
      unfold valV at h1 ⊢
      rw [List.find?_cons_of_neg (by simpa using e)]
      exact h1
theorem Dkv.keys : ∀ {kv : List (Key × V)} {kvs : List (Key × D)}, Dkv K q n H kv kvs → kv.map (·.1) = kvs.map (·.1)
  | _, _, .nil => rfl
  | _, _, .cons _ rs => by simp [rs.keys]
theorem Dkv.length : ∀ {kv : List (Key × V)} {kvs : List (Key × D)}, Dkv K q n H kv kvs → kv.length = kvs.length
  | _, _, .nil => rfl
  | _, _, .cons _ rs => by simp [rs.length]
theorem Dkv.app : ∀ {kv kv2 : List (Key × V)} {kvs kvs2 : List (Key × D)}, Dkv K q n H kv kvs → Dkv K q n H kv2 kvs2 → Dkv K q n H (kv ++ kv2) (kvs ++ kvs2)
  | _, _, _, _, .nil, h => h
  | _, _, _, _, .cons r rs, h => .cons r (rs.app h)
/-- putK by going along -/
def putV (kvs : List (Key × V)) (k : Key) (v : V) : List (Key × V) := match kvs with
  | [] => [(k, v)]
  | kv :: r => if kv.1 = k then (k, v) :: r else kv :: putV r k v
theorem putV_no : ∀ {kvs : List (Key × V)} {k : Key} {v : V}, (∀ x ∈ kvs, x.1 ≠ k) → putV kvs k v = kvs ++ [(k, v)] ∧ kvs.map (fun kv => if kv.1 = k then (kv.1, v) else kv) = kvs
  | [], _, _, _ => ⟨rfl, rfl⟩
  | kv :: r, k, v, h => by
    have h1 := h kv (List.mem_cons_self ..)
    obtain ⟨h2, h3⟩ := putV_no (v := v) fun x hx => h x (List.mem_cons_of_mem _ hx)
    exact ⟨by simp [putV, h1, h2], by simp [h1]; exact h3⟩
theorem putV_eq : ∀ (kvs : List (Key × V)) (k : Key) (v : V), (kvs.map (·.1)).Nodup → putK kvs k v = putV kvs k v
  | [], k, v, _ => rfl
  | kv :: r, k, v, h => by
    have h1 := List.nodup_cons.mp (show (kv.1 :: r.map (·.1)).Nodup from h)
    by_cases e : kv.1 = k
    · have hn : ∀ x ∈ r, x.1 ≠ k := fun x hx z => h1.1 (by rw [e, ← z]; exact List.mem_map_of_mem hx)
      unfold putK
      rw [if_pos (by simp [e]), List.map_cons, (putV_no (v := v) hn).2]
      simp [putV, e]
    · have ih := putV_eq r k v h1.2
      unfold putK at ih ⊢
      by_cases a : (r.any fun kv => decide (kv.1 = k)) = true
      · rw [if_pos a] at ih
        rw [if_pos (by rw [List.any_cons, a, Bool.or_true]), List.map_cons, if_neg e, ih]
        simp [putV, e]
      · rw [if_neg a] at ih
        have hna : ¬ ((kv :: r).any fun kv => decide (kv.1 = k)) = true := by
          rw [List.any_cons, Bool.or_eq_true]
          rintro (z | z)
          · exact e (of_decide_eq_true z)
          · exact a z
        rw [if_neg hna, List.cons_append, ih]
        simp [putV, e]
theorem putD_ok : ∀ {kv : List (Key × V)} {kvs : List (Key × D)} {k : Key} {d : D} {v : V}, Dkv K q n H kv kvs → Dt K q n H v d → Dkv K q n H (putV kv k v) (putD kvs k d)
  | _, _, k, d, v, .nil, r => .cons r .nil
  | _, _, k, d, v, .cons (k := k') r0 rs, r => by
    unfold putV putD
    by_cases e : k' = k
    · rw [if_pos e, if_pos e]
      exact .cons r rs
    · rw [if_neg e, if_neg e]
      exact .cons r0 (putD_ok rs r)
theorem nodupK_ok : ∀ {kvs : List (Key × D)}, nodupK kvs = true → (kvs.map (·.1)).Nodup
  | [], _ => List.nodup_nil
  | kv :: r, h => by
    unfold nodupK at h
    rw [Bool.and_eq_true] at h
    refine List.nodup_cons.mpr ⟨fun z => ?_, nodupK_ok h.2⟩
    obtain ⟨x, hx, e⟩ := List.mem_map.mp z
    have := List.all_eq_true.mp h.1 x hx
    simp at this
    exact this e
end
section
variable {X : Cx} {cl : Cl} {E : XK} {e a b c : Expr} {es : List Expr} {pos pos' p : Pos} {m ma mb mc : EM} {mr : AM}
def eDicP : EM := fun _ S => some (.ok (.ptr S.length), S ++ [.dic []])
theorem ee_dicP : EE X cl E (.Dict [] [] pos) eDicP := by
  refine ⟨_, pe_dnewK, fun g S z S' h q s H Q w sl po => ?_⟩
  cases h
  intro p hp
  have e1 : (S ++ [MO.dic []]).length = S.length + 1 := by rw [List.length_append, List.length_singleton]
  refine po (put q S.length p) _ (.ref p) ?_ ((w.new hp).adopt (fun m hm => w.ne hp hm) ⟨[], upd_same, .nil⟩) ?_
  · rw [e1]; exact (Gr.new hp).adopt hp
  · rw [e1]
    have := Dt.ptr (K := X.K) (q := put q S.length p) (n := S.length + 1) (H := upd H p (.dK [])) (m := S.length) (Nat.lt_succ_self _)
    rw [put_eq] at this
    exact this
/-- what stands in a dict of the store or a shut one -/
def dcS (S : ST) : D → Option (List (Key × D))
  | .ptr n => stD S n
  | .dic kvs => some kvs
  | _ => none
def dgF (x y : D) (S : ST) : Option (Rs D × ST) := match dcS S x, keyD y with
  | some kvs, some k => match valD kvs k with
    | some d => some (.ok d, S)
    | none => none
  | _, _ => none
theorem dcS_inv {K : Fr} {q : Nat → Addr} {S : ST} {H : Hp} {v : V} {d : D} {kvs : List (Key × D)} (h : dcS S d = some kvs) (w : Wd K q S H) (r : Dt K q S.length H v d) : ∃ a kv, v = .ref a ∧ Rd H a (.dK kv) ∧ Dkv K q S.length H kv kvs := by
  cases r with
  | ptr hm =>
    obtain ⟨kv, e, dk⟩ := w.ob _ _ (stD_some h)
    exact ⟨_, kv, rfl, .inl e, dk⟩
  | dic e dk => cases h; exact ⟨_, _, rfl, .inr ⟨_, e⟩, dk⟩
  | _ => cases h
theorem ee_dget (hu : X.A.units + 1 < cLine) (ha : EE X cl E a ma) (hb : EE X cl E b mb) (hs : NoSl b := by exact fun _ _ => rfl) : EE X cl E (.Subscript a b pos) (eOp dgF ma mb) := by
  obtain ⟨ta, pa, ea⟩ := ha
  obtain ⟨tb, pb, eb⟩ := hb
  refine ⟨_, pe_dget hu pa pb hs, fun g S z S' h q s H Q w sl po => ?_⟩
  rcases bd_inv h with ⟨x, S1, h1, h⟩ | ⟨c, fs, h1, rfl⟩
  · refine ea g S _ S1 h1 q s H _ w sl fun q1 H1 vx g1 w1 d1 => ?_
    rcases bd_inv h with ⟨y, S2, h2, h⟩ | ⟨c, fs, h2, rfl⟩
    · refine eb g S1 _ S2 h2 q1 s H1 _ w1 (sl.mono g1) fun q2 H2 vy g2 w2 d2 => ?_
      unfold dgF at h
      split at h
      · rename_i kvs k e1 e2
        split at h
        · rename_i d e3
          cases h
          obtain ⟨l, kv, rfl, rd, dk⟩ := dcS_inv e1 w2 (d1.mono g2.ge)
          obtain rfl := keyD_inv e2 d2
          obtain ⟨v, hv, dv⟩ := valD_ok dk e3
          exact ⟨l, v, rfl, .inl ⟨kv, k, rd, rfl, hv.symm⟩, po q2 H2 v (g1.trans g2) w2 dv⟩
        · cases h
      · cases h
    · exact eb g S1 _ S' h2 q1 s H1 _ w1 (sl.mono g1) (Post.ex (Q := Q) (po.to g1))
  · exact ea g S _ S' h1 q s H _ w sl (Post.ex (Q := Q) po)
def dpF (v x y : D) (S : ST) : Option ST := match x, keyD y with
  | .ptr n, some k => match stD S n with
    | some kvs => if (nodupK kvs && few (kvs.length + 1)) = true then some (S.set n (.dic (putD kvs k v))) else none
    | none => none
  | _, _ => none
def sDPutM (mo mi mv : EM) : SM := fun g S => bs (mv g S) fun v S1 => bs (mo g S1) fun x S2 => bs (mi g S2) fun y S3 => match dpF v x y S3 with
  | some S4 => some (.nx g, S4)
  | none => none
theorem st_dput (hu : X.A.units + 1 < cLine) (ha : EE X cl E a ma) (hb : EE X cl E b mb) (hc : EE X cl E c mc) (hs : swapsWith c (some (.Subscript a b pos')) pos.line X.env = pure false := by rfl) : ES X cl E (.Assign [.Subscript a b pos'] c pos) (sDPutM ma mb mc) := by
  obtain ⟨ta, pa, ea⟩ := ha
  obtain ⟨tb, pb, eb⟩ := hb
  obtain ⟨tc, pc, ec⟩ := hc
  refine ⟨_, ps_dput hu pa pb pc hs, fun g S o S' h q s H D w sl po => ?_⟩
  rcases bs_inv h with ⟨v, S1, h1, h⟩ | ⟨c, fs, h1, rfl⟩
  · refine ec g S _ S1 h1 q s H _ w sl fun q1 H1 vv g1 w1 d1 => ?_
    rcases bs_inv h with ⟨x, S2, h2, h⟩ | ⟨c, fs, h2, rfl⟩
    · refine ea g S1 _ S2 h2 q1 s H1 _ w1 (sl.mono g1) fun q2 H2 vx g2 w2 d2 => ?_
      rcases bs_inv h with ⟨y, S3, h3, h⟩ | ⟨c, fs, h3, rfl⟩
      · refine eb g S2 _ S3 h3 q2 s H2 _ w2 (sl.mono (g1.trans g2)) fun q3 H3 vy g3 w3 d3 => ?_
        split at h
        · rename_i S4 h4
          cases h
          unfold dpF at h4
          split at h4
          · rename_i n k e2
            split at h4
            · rename_i kvs e3
              split at h4
              · rename_i hc
                cases h4
                rw [Bool.and_eq_true] at hc
                obtain ⟨rfl, hm⟩ := (d2.mono g3.ge).ptr_inv
                obtain rfl := keyD_inv e2 d3
                obtain ⟨kv, e4, dk⟩ := w3.ob _ _ (stD_some e3)
                have gg := (g1.trans g2).trans g3
                have dv := (d1.mono g2.ge).mono g3.ge
                have nd : (kv.map (·.1)).Nodup := by rw [dk.keys]; exact nodupK_ok hc.1
                have le : (S3.set n (MO.dic (putD kvs k v))).length = S3.length := List.length_set
                refine ⟨_, _, rfl, DPut.k e4 ?_, ?_⟩
                · rw [dk.length]
                  exact Nat.lt_of_lt_of_le (Nat.lt_succ_self _) (few_le hc.2)
                · rw [putV_eq kv k vv nd]
                  refine po q3 _ s ?_ (w3.wr (x := .dic _) hm e4 trivial ⟨_, upd_same, (putD_ok dk dv).mono (Ge.wr e4 trivial)⟩) ?_
                  · rw [le]; exact gg.trans (Gr.wr hm e4 trivial)
                  · rw [le]; exact (sl.mono gg).mono (Gr.wr hm e4 trivial)
              · cases h4
            · cases h4
          · cases h4
        · cases h
      · exact eb g S2 _ S' h3 q2 s H2 _ w2 (sl.mono (g1.trans g2)) (Post.to (Q := fun _ _ => False) (r := .ex c fs) (g1.trans g2) po)
    · exact ea g S1 _ S' h2 q1 s H1 _ w1 (sl.mono g1) (Post.to (Q := fun _ _ => False) (r := .ex c fs) g1 po)
  · exact ec g S _ S' h1 q s H _ w sl (Post.ex (Q := fun _ _ => False) po)
end
end U
namespace U
open PySem L2
/-! ### reading through the store -/
def mapO {α β : Type} (f : α → Option β) : List α → Option (List β)
  | [] => some []
  | d :: ds => match f d, mapO f ds with
    | some a, some b => some (a :: b)
    | _, _ => none
def pyF (S : ST) : Nat → D → Option PyData
  | 0, _ => none
  | _ + 1, .non => some .none
  | _ + 1, .bl b => some (.bool b)
  | _ + 1, .int i => some (.int i)
  | _ + 1, .str s => some (.str s)
  | k + 1, .tup ds => (mapO (pyF S k) ds).map .tuple
  | k + 1, .lst ds => (mapO (pyF S k) ds).map .list
  | k + 1, .kls ds => (mapO (pyF S k) ds).map .list
  | k + 1, .ptr n => match stL S n with
    | some ds => (mapO (pyF S k) ds).map .list
    | none => none
  | _ + 1, .dic _ => none
  | _ + 1, .cst _ => none
  | _ + 1, .ins _ _ => none
  | _ + 1, .fn _ => none
  | _ + 1, .exc _ _ _ => none
section
variable {K : Fr} {q : Nat → Addr} {S : ST} {H : Hp}
theorem mapO_dp {f : D → Option PyData} : ∀ {vs : List V} {ds : List D} {ps : List PyData}, (∀ v d p, Dt K q S.length H v d → f d = some p → Dp K H v p) → Dts K q S.length H vs ds → mapO f ds = some ps → DpAll K H vs ps
  | _, _, _, _, .nil, h => by simp only [mapO] at h; cases h; exact .nil
  | _, _, _, hf, .cons r rs, h => by
    simp only [mapO] at h
    split at h
    · rename_i a b e1 e2
      cases h
      exact .cons (hf _ _ _ r e1) (mapO_dp hf rs e2)
    · cases h
theorem pyF_dp (w : Wd K q S H) : ∀ (k : Nat) (v : V) (d : D) (p : PyData), Dt K q S.length H v d → pyF S k d = some p → Dp K H v p
  | 0, _, _, _, _, h => by cases h
  | k + 1, v, d, p, r, h => by
    have ih := pyF_dp w k
    cases r with
    | non => simp only [pyF] at h; cases h; exact .non
    | bl b => simp only [pyF] at h; cases h; exact .bl b
    | int i => simp only [pyF] at h; cases h; exact .int i
    | str z => simp only [pyF] at h; cases h; exact .str z
    | tup s rs =>
      simp only [pyF, Option.map_eq_some_iff] at h
      obtain ⟨ps, e, rfl⟩ := h
      exact .tup s (mapO_dp ih rs e)
    | lst e0 rs =>
      simp only [pyF, Option.map_eq_some_iff] at h
      obtain ⟨ps, e, rfl⟩ := h
      exact .lst (.inl (.inr ⟨_, e0⟩)) (mapO_dp ih rs e)
    | kls s rs =>
      simp only [pyF, Option.map_eq_some_iff] at h
      obtain ⟨ps, e, rfl⟩ := h
      exact .lst s.sq (mapO_dp ih rs e)
    | ptr hm =>
      simp only [pyF] at h
      split at h
      · rename_i ds e1
        simp only [Option.map_eq_some_iff] at h
        obtain ⟨ps, e, rfl⟩ := h
        obtain ⟨vs, e2, rs⟩ := w.ob _ _ (stL_some e1)
        exact .lst (SqL.of e2) (mapO_dp ih rs e)
      · cases h
    | dic _ _ => simp only [pyF] at h; cases h
    | cst => simp only [pyF] at h; cases h
    | ins _ _ => simp only [pyF] at h; cases h
    | fn => simp only [pyF] at h; cases h
    | exc _ _ _ _ => simp only [pyF] at h; cases h
end
/-- ==, != of data, read through the store -/
def eqH (f : Bool → Bool) (x y : D) (S : ST) : Option (Rs D × ST) := match strP x, strP y with
  | some a, some b => some (.ok (.bl (f (decide (a = b)))), S)
  | _, _ => eqG f (pyF S 12 x) (pyF S 12 y) S
section
variable {X : Cx} {cl : Cl} {E : XK}
theorem eqHE {K : Fr} : CpE K cl E (rEqU K) (eqH id) := by
  intro x y S z S' h q H vx vy Q w hx hy po
  unfold eqH at h
  split at h
  · rename_i e1 e2
    cases h
    obtain rfl := strP_inv e1
    obtain rfl := strP_inv e2
    obtain rfl := hx.str_inv
    obtain rfl := hy.str_inv
    refine .inl ⟨rfl, ?_⟩
    rw [dec_str]
    exact cp_val w po (.bl _)
  · unfold eqG at h
    split at h
    · rename_i a b e1 e2
      split at h
      · rename_i hs
        cases h
        rw [Bool.and_eq_true] at hs
        exact .inr ⟨a, b, pyF_dp w 12 _ _ _ hx e1, pyF_dp w 12 _ _ _ hy e2, hs.1, hs.2, cp_val w po (.bl _)⟩
      · cases h
    · cases h
theorem neHE {K : Fr} : CpE K cl E (rNeU K) (eqH not) := by
  intro x y S z S' h q H vx vy Q w hx hy po
  unfold eqH at h
  split at h
  · rename_i e1 e2
    cases h
    obtain rfl := strP_inv e1
    obtain rfl := strP_inv e2
    obtain rfl := hx.str_inv
    obtain rfl := hy.str_inv
    refine .inl ⟨rfl, ?_⟩
    rw [dec_str]
    exact cp_val w po (.bl _)
  · unfold eqG at h
    split at h
    · rename_i a b e1 e2
      split at h
      · rename_i hs
        cases h
        rw [Bool.and_eq_true] at hs
        exact .inr ⟨a, b, pyF_dp w 12 _ _ _ hx e1, pyF_dp w 12 _ _ _ hy e2, hs.1, hs.2, cp_val w po (.bl _)⟩
      · cases h
    · cases h
def reprH (xs : List D) (S : ST) : Option (Rs D × ST) := match xs with
  | [x] => match pyF S 12 x with
    | some d => if (d.showable && !d.hasDict && decide (d.depth ≤ 60) && decide (d.shown.length ≤ 100000)) = true then some (.ok (.str d.shown), S) else none
    | none => none
  | _ => none
theorem reprHE {K : Fr} : CaE K cl E (rRepr K) reprH := by
  intro xs S z S' h q H vs Q w hx po
  unfold reprH at h
  split at h
  · split at h
    · rename_i d e
      split at h
      · rename_i hc
        cases h
        simp only [Bool.and_eq_true, Bool.not_eq_true', decide_eq_true_eq] at hc
        obtain ⟨v, rfl, r⟩ := dts1 hx
        exact ⟨v, d, rfl, pyF_dp w 12 _ _ _ r e, hc.1.1.1, hc.1.1.2, hc.1.2, Nat.le_trans hc.2 (by decide), fz_val w po (.str _)⟩
      · cases h
    · cases h
  · cases h
end
end U
namespace U
open PySem L2
theorem RoomG.units1 {k : Nat} {A : Around} (r : RoomG k A) : A.units + 1 < cLine := by have := r.units; omega
end U

set_option Elab.async false
set_option linter.all false
set_option maxRecDepth 100000
set_option maxHeartbeats 1000000
namespace U
open PySem L2
/-! ### the head with one more look at what the top has left -/
def obsB (n : Nat) (fa : List He.Fa) (fn : List He.DefD) (ex : Fr → Bool) (g : Addr → Option Obj) : He.AlD × Bool := (He.obsDG n fa fn g, ex (He.frG g (He.asD g n)))
def hookB (n : Nat) (fa : List He.Fa) (fn : List He.DefD) (ex : Fr → Bool) : PySem.W.Hook where
  α := He.AlD × Bool
  obs := fun s => obsB n fa fn ex s.heap.get?
  val := fun _ => (He.valD fn, true)
  says := fun _ h => ∃ K : Fr, K.In h ∧ He.SaysD fa fn K ∧ ex K = true
  of := fun _ _ e => ⟨_, He.frG_in, congrArg (fun z : He.AlD × Bool => z.1) e, congrArg (fun z : He.AlD × Bool => z.2) e⟩
  keeps := fun _ _ _ ⟨K, hK, c⟩ k => ⟨K, PySem.W.Frag.In.keeps hK k, c⟩
theorem obsB_eq {n : Nat} {fa : List He.Fa} {fn : List He.DefD} {ex : Fr → Bool} {g : Addr → Option Obj} {s : Shared} (h : ∀ a, g a = s.heap.get? a) : obsB n fa fn ex g = (hookB n fa fn ex).obs s := by
  obtain rfl : g = s.heap.get? := funext h
  rfl
theorem and_l {a b : Bool} (h : (a && b) = true) : a = true := (He.ba h).1
theorem and_r {a b : Bool} (h : (a && b) = true) : b = true := (He.ba h).2
end U
namespace U
open PySem L2
theorem eqH_int {f : Bool → Bool} {i j : Int} {S : ST} : eqH f (.int i) (.int j) S = some (.ok (.bl (f (i == j))), S) := by rfl
theorem eqH_str {f : Bool → Bool} {a b : Str} {S : ST} : eqH f (.str a) (.str b) S = some (.ok (.bl (f (decide (a = b)))), S) := by rfl
theorem dvmF_1 {i j : Int} {S : ST} : dvmF [.int i, .int j] S = if (decide (0 < j) && decide (j < 1073741824)) = true then some (.ok (.tup [.int (i / j), .int (i % j)]), S) else none := rfl
theorem gTwo_1 {i j : Nat} {x y : D} {g : EV} {S : ST} : gTwo i j (.tup [x, y]) g S = some ((g.set i (some x)).set j (some y), S) := rfl
end U

set_option Elab.async false
set_option linter.all false
set_option maxRecDepth 100000
set_option maxHeartbeats 1000000
namespace U
open PySem L2
/-! ### away from the store: what holds no place of it may be worked out over an empty one -/
def noP : Nat → D → Bool
  | 0, _ => false
  | _ + 1, .non => true
  | _ + 1, .bl _ => true
  | _ + 1, .int _ => true
  | _ + 1, .str _ => true
  | k + 1, .tup ds => ds.all (noP k)
  | k + 1, .lst ds => ds.all (noP k)
  | k + 1, .kls ds => ds.all (noP k)
  | k + 1, .dic kvs => kvs.all fun kv => noP k kv.2
  | _ + 1, .ptr _ => false
  | _ + 1, .cst _ => true
  | k + 1, .ins _ fs => fs.all fun kv => noP k kv.2
  | _ + 1, .fn _ => true
  | k + 1, .exc _ _ fs => fs.all fun kv => noP k kv.2
section
variable {K : Fr} {q q1 : Nat → Addr} {n n1 : Nat} {H : Hp}
theorem noP_dts {f : D → Bool} (hf : ∀ v d, f d = true → Dt K q n H v d → Dt K q1 n1 H v d) : ∀ {vs : List V} {ds : List D}, ds.all f = true → Dts K q n H vs ds → Dts K q1 n1 H vs ds
  | _, _, _, .nil => .nil
  | _, _, h, .cons r rs => by
    rw [List.all_cons, Bool.and_eq_true] at h
    exact .cons (hf _ _ h.1 r) (noP_dts hf h.2 rs)
theorem noP_dkv {f : D → Bool} (hf : ∀ v d, f d = true → Dt K q n H v d → Dt K q1 n1 H v d) : ∀ {vs : List (Key × V)} {ds : List (Key × D)}, (ds.all fun kv => f kv.2) = true → Dkv K q n H vs ds → Dkv K q1 n1 H vs ds
  | _, _, _, .nil => .nil
  | _, _, h, .cons r rs => by
    rw [List.all_cons, Bool.and_eq_true] at h
    exact .cons (hf _ _ h.1 r) (noP_dkv hf h.2 rs)
theorem noP_dfv {f : D → Bool} (hf : ∀ v d, f d = true → Dt K q n H v d → Dt K q1 n1 H v d) : ∀ {vs : List (Str × V)} {ds : List (Str × D)}, (ds.all fun kv => f kv.2) = true → Dfv K q n H vs ds → Dfv K q1 n1 H vs ds
  | _, _, _, .nil => .nil
  | _, _, h, .cons r rs => by
    rw [List.all_cons, Bool.and_eq_true] at h
    exact .cons (hf _ _ h.1 r) (noP_dfv hf h.2 rs)
theorem noP_dt : ∀ (k : Nat) (v : V) (d : D), noP k d = true → Dt K q n H v d → Dt K q1 n1 H v d
  | 0, _, _, h, _ => by cases h
  | k + 1, v, d, h, r => by
    have ih := noP_dt k
    cases r with
    | non => exact .non
    | bl b => exact .bl b
    | int b => exact .int b
    | str b => exact .str b
    | tup s rs => exact .tup s (noP_dts ih h rs)
    | lst s rs => exact .lst s (noP_dts ih h rs)
    | kls s rs => exact .kls s (noP_dts ih h rs)
    | dic s rs => exact .dic s (noP_dkv ih h rs)
    | ptr _ => cases h
    | cst => exact .cst
    | ins s rs => exact .ins s (noP_dfv ih h rs)
    | fn => exact .fn
    | exc s t d rs => exact .exc s t d (noP_dfv ih h rs)
end
/-- how deep is looked -/
abbrev nP (d : D) : Bool := noP 16 d
section
variable {K : Fr} {cl : Cl} {E : XK} {q q1 : Nat → Addr} {S S1 : ST} {H H1 : Hp}
theorem Wd.nil : Wd K q [] H := ⟨fun m _ h => absurd h (Nat.not_lt_zero _), fun m o h => by simp at h⟩
/-- what went on beside the store leaves it as it is -/
theorem Gr.away {n n1 : Nat} (g : Gr q 0 H q1 n1 H1) : Gr q n H q n H1 :=
  ⟨⟨fun _ _ => rfl, Nat.le_refl _, g.ge.tp, g.ge.fz⟩, fun a u h _ => g.fr a u h fun m hm => absurd hm (Nat.not_lt_zero _), fun m h h' => absurd h (Nat.not_le_of_lt h'), g.tk⟩
theorem Wd.away {n1 : Nat} (w : Wd K q S H) (g : Gr q 0 H q1 n1 H1) : Wd K q S H1 :=
  ⟨w.inj, fun m o h => by
    have ho := w.ob m o h
    obtain ⟨u, e⟩ := ho.some
    exact ho.mono (g.away (n := S.length)).ge ((g.fr _ u e fun m hm => absurd hm (Nat.not_lt_zero _)).trans e.symm)⟩
theorem Post.away_ok {Q : VK} {d : D} {S' : ST} (w : Wd K q S H) (hd : nP d = true) (po : Post K cl q S.length H E Q (.ok d) S) : Post K cl q 0 H E Q (.ok d) S' :=
  fun q' H' v g' w' r => po q H' v g'.away (w.away g') (noP_dt 16 v d hd r)
theorem Post.away_ex {Q : VK} {c : Str} {fs : List (Str × D)} {S' : ST} (w : Wd K q S H) (hd : (fs.all fun x => nP x.2) = true) (po : Post K cl q S.length H E Q (.ex c fs) S) : Post K cl q 0 H E Q (.ex c fs) S' :=
  fun q' H' dx fv g' w' h1 h2 r => po q H' dx fv g'.away (w.away g') h1 h2 (noP_dts (noP_dt 16) (by rw [List.all_map]; exact hd) r)
end
/-- a call of a def, away from the store where it can be -/
def iso (d : DM) : DM := fun xs S => if xs.all nP = true then match d xs [] with
    | some (.ok r, S') => if nP r = true then some (.ok r, S) else d xs S
    | some (.ex c fs, S') => if (fs.all fun x => nP x.2) = true then some (.ex c fs, S) else d xs S
    | none => none
  else d xs S
theorem iso_inv {d : DM} {xs : List D} {S S' : ST} {r : Rs D} (h : iso d xs S = some (r, S')) : d xs S = some (r, S') ∨ (S' = S ∧ xs.all nP = true ∧ ∃ T, d xs [] = some (r, T) ∧ ((∃ x, r = .ok x ∧ nP x = true) ∨ ∃ c fs, r = .ex c fs ∧ (fs.all fun x => nP x.2) = true)) := by
  unfold iso at h
  split at h
  · rename_i hx
    split at h
    · rename_i x T e
      split at h
      · rename_i hr
        cases h
        exact .inr ⟨rfl, hx, T, e, .inl ⟨x, rfl, hr⟩⟩
      · exact .inl h
    · rename_i c fs T e
      split at h
      · rename_i hr
        cases h
        exact .inr ⟨rfl, hx, T, e, .inr ⟨c, fs, rfl, hr⟩⟩
      · exact .inl h
    · cases h
  · exact .inl h
theorem spM_iso {K : Fr} {cl : Cl} {E : XK} {Q : VK} {n : Nat} {d : DM} {q : Nat → Addr} {S S' : ST} {H : Hp} {vs : List V} {xs : List D} {r : Rs D} (hl : vs.length = n) (w : Wd K q S H) (hx : Dts K q S.length H vs xs) (h : iso d xs S = some (r, S')) (po : Post K cl q S.length H E Q r S') : spM K cl n d vs H Q E := by
  rcases iso_inv h with h | ⟨rfl, ha, T, e, hr⟩
  · exact ⟨hl, q, S, xs, r, S', w, hx, h, po⟩
  · refine ⟨hl, q, [], xs, r, T, .nil, noP_dts (noP_dt 16) ha hx, e, ?_⟩
    rcases hr with ⟨x, rfl, hr⟩ | ⟨c, fs, rfl, hr⟩
    · exact Post.away_ok w hr po
    · exact Post.away_ex w hr po
/-- the slots that are told and hold no place -/
def keepS (ks : List Nat) (g : EV) : EV := g.mapIdx fun i x => match x with
  | some d => if ks.contains i && nP d then some d else none
  | none => none
theorem keepS_sl {K : Fr} {q q1 : Nat → Addr} {n n1 : Nat} {H : Hp} {s : L2.St} {g : EV} (ks : List Nat) (h : Sl K q n H s g) : Sl K q1 n1 H s (keepS ks g) := by
  refine ⟨by simp [keepS, h.1], fun i d e => ?_⟩
  simp only [keepS, List.getElem?_mapIdx, Option.map_eq_some_iff] at e
  obtain ⟨x, hx, e⟩ := e
  split at e
  · split at e
    · rename_i hk
      cases e
      rw [Bool.and_eq_true] at hk
      obtain ⟨v, h1, h2⟩ := h.2 i d hx
      exact ⟨v, h1, noP_dt 16 v d hk.2 h2⟩
    · cases e
  · cases e
/-- statements, away from the store, that end the def -/
def sIso (ks : List Nat) (m : SM) : SM := fun g S => match m (keepS ks g) [] with
  | some (.rt d, _) => if nP d = true then some (.rt d, S) else none
  | some (.ex c fs, _) => if (fs.all fun x => nP x.2) = true then some (.ex c fs, S) else none
  | some (.nx g', _) => some (.nx (keepS (List.range g'.length) g'), S)
  | _ => none
theorem ss_iso {X : Cx} {cl : Cl} {E : XK} {st : List Stmt} {m : SM} (ks : List Nat) (h : ESs X cl E st m) : ESs X cl E st (sIso ks m) := by
  obtain ⟨ts, ps, es⟩ := h
  refine ⟨ts, ps, fun g S o S' h q s H D w sl po => ?_⟩
  unfold sIso at h
  split at h
  · rename_i d T e
    split at h
    · rename_i hd
      cases h
      exact es _ [] _ T e q s H D .nil (keepS_sl ks sl) fun q' H' v g' w' r => po q H' v g'.away (w.away g') (noP_dt 16 v d hd r)
    · cases h
  · rename_i c fs T e
    split at h
    · rename_i hd
      cases h
      exact es _ [] _ T e q s H D .nil (keepS_sl ks sl) (Post.away_ex (Q := fun _ _ => False) w hd po)
    · cases h
  · rename_i g1 T e
    cases h
    exact es _ [] _ T e q s H D .nil (keepS_sl ks sl) fun q' H' s' g' w' sl' => po q H' s' g'.away (w.away g') (keepS_sl _ sl')
  · cases h
end U

set_option Elab.async false
set_option linter.all false
set_option maxRecDepth 100000
set_option maxHeartbeats 1000000
namespace U
open PySem L2
/-! ### several things shut at once -/
inductive FzM (Q : VK) (v : V) : Hp → Prop
  | done {H : Hp} : Q v H → FzM Q v H
  | more {H : Hp} {a : Addr} {u : HO} : H a = some u → Shut u → (∀ o, FzM Q v (upd H a (.frz o u))) → FzM Q v H
theorem ep_fzm {X : Cx} {pins : List (Addr × Obj)} {σ : L2.St} {s : Shared} {Q : VK} {u : Value} {v : V} {H : Hp} (I : Inv X pins σ H s) (r : RelV v u) (h : FzM Q v H) : EP X pins σ Q u s := by
  induction h with
  | done h => exact ⟨v, _, I, r, h⟩
  | more e hu _ ih =>
    obtain ⟨o, I'⟩ := inv_shut I e hu
    exact ih o I'
theorem pe_fzm {X : Cx} {e : Expr} {te : TE} (h : PE X e te) : PE X e (fun s H Q => te s H (fun v H1 => FzM Q v H1)) := ⟨fun pins s σ H Q I w => thn (h.run pins s σ H _ I w) fun u s1 ⟨v, H1, I1, r, q⟩ => ep_fzm I1 r q⟩
/-- the places n .. of the store are shut -/
structure Tail (q : Nat → Addr) (n N : Nat) (H H' : Hp) : Prop where
  off : ∀ a, (∀ m, n ≤ m → m < N → q m ≠ a) → H' a = H a
  sh : ∀ m, n ≤ m → m < N → ∀ u, H (q m) = some u → Shut u → ∃ o, H' (q m) = some (.frz o u)
  fz : ∀ a o u, H a = some (.frz o u) → H' a = some (.frz o u)
theorem shut_ne {u u' : HO} {o : Obj} (h : Shut u) : u ≠ .frz o u' := by
  rintro rfl
  rcases h with ⟨_, q⟩ | ⟨_, q⟩ | ⟨_, _, _, q⟩ <;> cases q
theorem fz_tail {q : Nat → Addr} {Q : VK} {v : V} {N : Nat} (inj : ∀ m m', m < N → m' < N → q m = q m' → m = m') : ∀ (k n : Nat) (H : Hp), n + k = N → (∀ m, n ≤ m → m < N → ∃ u, H (q m) = some u ∧ (Shut u ∨ ∃ o u', u = .frz o u')) → (∀ H', Tail q n N H H' → Q v H') → FzM Q v H
  | 0, n, H, e, _, h => .done (h H ⟨fun _ _ => rfl, fun m h1 h2 => by omega, fun _ _ _ z => z⟩)
  | k + 1, n, H, e, hm, h => by
    obtain ⟨u, eu, hu⟩ := hm n (Nat.le_refl _) (by omega)
    rcases hu with hu | ⟨o, u', rfl⟩
    · refine .more eu hu fun o => fz_tail inj k (n + 1) _ (by omega) (fun m h1 h2 => ?_) fun H' T => h H' ⟨fun a ha => ?_, fun m h1 h2 x ex hx => ?_, fun a o' u' ea => ?_⟩
      · rw [upd_ne fun z => by have := inj _ _ h2 (by omega) z; omega]
        exact hm m (by omega) h2
      · rw [T.off a fun m h1 h2 => ha m (by omega) h2, upd_ne (Ne.symm (ha n (Nat.le_refl _) (by omega)))]
      · by_cases hn : m = n
        · subst hn
          rw [eu] at ex
          cases ex
          exact ⟨o, T.fz _ _ _ upd_same⟩
        · exact T.sh m (by omega) h2 x (by rw [upd_ne fun z => hn (inj _ _ h2 (by omega) z)]; exact ex) hx
      · refine T.fz a o' u' ?_
        rw [upd_ne]
        · exact ea
        · rintro rfl
          rw [eu] at ea
          cases ea
          exact shut_ne hu rfl
    · refine fz_tail inj k (n + 1) H (by omega) (fun m h1 h2 => hm m (by omega) h2) fun H' T => h H' ⟨fun a ha => T.off a fun m h1 h2 => ha m (by omega) h2, fun m h1 h2 x ex hx => ?_, T.fz⟩
      by_cases hn : m = n
      · subst hn
        rw [eu] at ex
        cases ex
        exact absurd rfl (shut_ne hx)
      · exact T.sh m (by omega) h2 x ex hx
theorem mok_shut {K : Fr} {q : Nat → Addr} {n : Nat} {H : Hp} {a : Addr} {o : MO} (h : MOk K q n H a o) : ∃ u, H a = some u ∧ (Shut u ∨ ∃ o u', u = .frz o u') := by
  cases o with
  | lst ds => obtain ⟨vs, e, _⟩ := h; exact ⟨_, e, .inl (.inl ⟨_, rfl⟩)⟩
  | dic ds => obtain ⟨vs, e, _⟩ := h; exact ⟨_, e, .inl (.inr (.inl ⟨_, rfl⟩))⟩
  | dead => obtain ⟨o, u, e⟩ := h; exact ⟨_, e, .inr ⟨_, _, rfl⟩⟩
  | ins c fs => obtain ⟨dx, fv, e, _⟩ := h; exact ⟨_, e, .inl (.inr (.inr ⟨_, _, _, rfl⟩))⟩
/-! ### data with the store's places from n on put in -/
def mapK {κ α β : Type} (f : α → Option β) : List (κ × α) → Option (List (κ × β))
  | [] => some []
  | d :: ds => match f d.2, mapK f ds with
    | some a, some b => some ((d.1, a) :: b)
    | _, _ => none
def rsD (S : ST) (n : Nat) : Nat → D → Option D
  | 0, _ => none
  | _ + 1, .non => some .non
  | _ + 1, .bl b => some (.bl b)
  | _ + 1, .int i => some (.int i)
  | _ + 1, .str s => some (.str s)
  | k + 1, .tup ds => (mapO (rsD S n k) ds).map .tup
  | k + 1, .lst ds => (mapO (rsD S n k) ds).map .lst
  | k + 1, .kls ds => (mapO (rsD S n k) ds).map .kls
  | k + 1, .dic kvs => (mapK (rsD S n k) kvs).map .dic
  | _ + 1, .cst v => some (.cst v)
  | k + 1, .ins c fs => (mapK (rsD S n k) fs).map (.ins c)
  | _ + 1, .fn x => some (.fn x)
  | k + 1, .exc c t fs => (mapK (rsD S n k) fs).map (.exc c t)
  | k + 1, .ptr m => if m < n then some (.ptr m) else match S[m]? with
    | some (.lst ds) => (mapO (rsD S n k) ds).map .lst
    | some (.dic kvs) => (mapK (rsD S n k) kvs).map .dic
    | some (.ins c fs) => (mapK (rsD S n k) fs).map (.ins c)
    | _ => none
section
variable {K : Fr} {q : Nat → Addr} {n N : Nat} {H H' : Hp} {S : ST}
theorem mapO_dts {f : D → Option D} : ∀ {vs : List V} {ds es : List D}, (∀ v d e, Dt K q N H v d → f d = some e → Dt K q n H' v e) → Dts K q N H vs ds → mapO f ds = some es → Dts K q n H' vs es
  | _, _, _, _, .nil, h => by simp only [mapO] at h; cases h; exact .nil
  | _, _, _, hf, .cons r rs, h => by
    simp only [mapO] at h
    split at h
    · rename_i a b e1 e2
      cases h
      exact .cons (hf _ _ _ r e1) (mapO_dts hf rs e2)
    · cases h
theorem mapK_dkv {f : D → Option D} : ∀ {vs : List (Key × V)} {ds es : List (Key × D)}, (∀ v d e, Dt K q N H v d → f d = some e → Dt K q n H' v e) → Dkv K q N H vs ds → mapK f ds = some es → Dkv K q n H' vs es
  | _, _, _, _, .nil, h => by simp only [mapK] at h; cases h; exact .nil
  | _, _, _, hf, .cons r rs, h => by
    simp only [mapK] at h
    split at h
    · rename_i a b e1 e2
      cases h
      exact .cons (hf _ _ _ r e1) (mapK_dkv hf rs e2)
    · cases h
theorem mapK_dfv {f : D → Option D} : ∀ {vs : List (Str × V)} {ds es : List (Str × D)}, (∀ v d e, Dt K q N H v d → f d = some e → Dt K q n H' v e) → Dfv K q N H vs ds → mapK f ds = some es → Dfv K q n H' vs es
  | _, _, _, _, .nil, h => by simp only [mapK] at h; cases h; exact .nil
  | _, _, _, hf, .cons r rs, h => by
    simp only [mapK] at h
    split at h
    · rename_i a b e1 e2
      cases h
      exact .cons (hf _ _ _ r e1) (mapK_dfv hf rs e2)
    · cases h
theorem Tail.tup (w : Wd K q S H) (T : Tail q n S.length H H') {a : Addr} {xs : List V} (h : H a = some (.tup xs)) : H' a = some (.tup xs) := by
  rw [T.off a fun m h1 h2 => ?_]
  · exact h
  · rintro rfl
    obtain ⟨u, e, hu⟩ := mok_shut (w.ob m _ (List.getElem?_eq_getElem h2))
    rw [h] at e
    cases e
    rcases hu with hu | ⟨_, _, z⟩
    · rcases hu with ⟨_, z⟩ | ⟨_, z⟩ | ⟨_, _, _, z⟩ <;> cases z
    · cases z
theorem rsD_dt (w : Wd K q S H) (T : Tail q n S.length H H') : ∀ (k : Nat) (v : V) (d e : D), Dt K q S.length H v d → rsD S n k d = some e → Dt K q n H' v e
  | 0, _, _, _, _, h => by cases h
  | k + 1, v, d, e, r, h => by
    have ih := rsD_dt w T k
    cases r with
    | non => simp only [rsD] at h; cases h; exact .non
    | bl b => simp only [rsD] at h; cases h; exact .bl b
    | int i => simp only [rsD] at h; cases h; exact .int i
    | str z => simp only [rsD] at h; cases h; exact .str z
    | tup s rs =>
      simp only [rsD, Option.map_eq_some_iff] at h
      obtain ⟨ps, e, rfl⟩ := h
      refine .tup ?_ (mapO_dts ih rs e)
      rcases s with (s | ⟨o, s⟩) | s
      · exact .inl (.inl (T.tup w s))
      · exact .inl (.inr ⟨o, T.fz _ _ _ s⟩)
      · exact .inr s
    | lst s rs =>
      simp only [rsD, Option.map_eq_some_iff] at h
      obtain ⟨ps, e, rfl⟩ := h
      exact .lst (T.fz _ _ _ s) (mapO_dts ih rs e)
    | kls s rs =>
      simp only [rsD, Option.map_eq_some_iff] at h
      obtain ⟨ps, e, rfl⟩ := h
      refine .kls ?_ (mapO_dts ih rs e)
      rcases s with ⟨o, s⟩ | s
      · exact .inl ⟨o, T.fz _ _ _ s⟩
      · exact .inr s
    | dic s rs =>
      simp only [rsD, Option.map_eq_some_iff] at h
      obtain ⟨ps, e, rfl⟩ := h
      exact .dic (T.fz _ _ _ s) (mapK_dkv ih rs e)
    | ins s rs =>
      simp only [rsD, Option.map_eq_some_iff] at h
      obtain ⟨ps, e, rfl⟩ := h
      exact .ins (T.fz _ _ _ s) (mapK_dfv ih rs e)
    | cst => simp only [rsD] at h; cases h; exact .cst
    | fn => simp only [rsD] at h; cases h; exact .fn
    | exc s st sd rs =>
      simp only [rsD, Option.map_eq_some_iff] at h
      obtain ⟨ps, e, rfl⟩ := h
      refine .exc (T.fz _ _ _ s) ?_ (T.fz _ _ _ sd) (mapK_dfv ih rs e)
      rcases st with (z | ⟨o, z⟩) | z
      · exact .inl (.inl (T.tup w z))
      · exact .inl (.inr ⟨o, T.fz _ _ _ z⟩)
      · exact .inr z
    | @ptr m hm =>
      simp only [rsD] at h
      split at h
      · rename_i hn
        cases h
        exact .ptr hn
      · rename_i hn
        split at h
        · rename_i ds es
          simp only [Option.map_eq_some_iff] at h
          obtain ⟨ps, e, rfl⟩ := h
          obtain ⟨vs, e1, rs⟩ := w.ob m _ es
          obtain ⟨o, e2⟩ := T.sh m (by omega) hm _ e1 (.inl ⟨_, rfl⟩)
          exact .lst e2 (mapO_dts ih rs e)
        · rename_i ds es
          simp only [Option.map_eq_some_iff] at h
          obtain ⟨ps, e, rfl⟩ := h
          obtain ⟨vs, e1, rs⟩ := w.ob m _ es
          obtain ⟨o, e2⟩ := T.sh m (by omega) hm _ e1 (.inr (.inl ⟨_, rfl⟩))
          exact .dic e2 (mapK_dkv ih rs e)
        · rename_i c fs es
          simp only [Option.map_eq_some_iff] at h
          obtain ⟨ps, e, rfl⟩ := h
          obtain ⟨dx, fv, e1, rs⟩ := w.ob m _ es
          obtain ⟨o, e2⟩ := T.sh m (by omega) hm _ e1 (.inr (.inr ⟨_, _, _, rfl⟩))
          exact .ins e2 (mapK_dfv ih rs e)
        · cases h
end
/-- how deep is put in -/
abbrev rs (S : ST) (d : D) : Option D := rsD S 0 20 d
/-- what a mirror comes to over an empty store -/
def runP (d : DM) (xs : List D) : Option (Rs D) := match d xs [] with
  | some (.ok r, S') => match rs S' r with
    | some r' => some (.ok r')
    | none => none
  | some (.ex c fs, _) => if (fs.all fun x => nP x.2) = true then some (.ex c fs) else none
  | none => none
def puR (x : Option (Rs D)) (S : ST) : Option (Rs D × ST) := match x with
  | some r => some (r, S)
  | none => none
/-- a call away from the store: all that it makes is shut behind it -/
def pur (d : DM) : DM := fun xs S => if xs.all nP = true then puR (runP d xs) S else none
section
variable {K : Fr} {cl : Cl} {E : XK} {q : Nat → Addr} {S : ST} {H : Hp}
theorem Dfv.split {K : Fr} {q : Nat → Addr} {n : Nat} {H : Hp} : ∀ {fv : List (Str × V)} {fs : List (Str × D)}, fv.map (·.1) = fs.map (·.1) → Dts K q n H (fv.map (·.2)) (fs.map (·.2)) → Dfv K q n H fv fs
  | [], [], _, _ => .nil
  | (a, v) :: fv, (b, d) :: fs, e, h => by
    cases h with
    | cons r rs =>
      simp only [List.map_cons, List.cons.injEq] at e
      obtain ⟨rfl, e⟩ := e
      exact .cons r (Dfv.split e rs)
  | [], _ :: _, e, _ => by cases e
  | _ :: _, [], e, _ => by cases e
theorem Dfv.keys {K : Fr} {q : Nat → Addr} {n : Nat} {H : Hp} : ∀ {fv : List (Str × V)} {fs : List (Str × D)}, Dfv K q n H fv fs → fv.map (·.1) = fs.map (·.1)
  | _, _, .nil => rfl
  | _, _, .cons _ rs => by simp [rs.keys]
theorem Dfv.dts {K : Fr} {q : Nat → Addr} {n : Nat} {H : Hp} : ∀ {fv : List (Str × V)} {fs : List (Str × D)}, Dfv K q n H fv fs → Dts K q n H (fv.map (·.2)) (fs.map (·.2))
  | _, _, .nil => .nil
  | _, _, .cons r rs => .cons r rs.dts
/-- behind what went on away from the store, all of it shut -/
theorem Tail.away {q1 : Nat → Addr} {N : Nat} {H1 H2 : Hp} (w : Wd K q S H) (g : Gr q 0 H q1 N H1) (T : Tail q1 0 N H1 H2) : Gr q 0 H q1 0 H2 := by
  have fr : ∀ a u, H a = some u → H2 a = some u := fun a u h => by
    rw [T.off a fun m _ hm => ?_]
    · exact g.fr a u h fun m hm => absurd hm (Nat.not_lt_zero _)
    · intro z
      have := g.nw m (Nat.zero_le _) hm
      rw [z, h] at this
      cases this
  exact ⟨⟨fun m h => absurd h (Nat.not_lt_zero _), Nat.le_refl _, fun a xs h => fr a _ h, fun a o u h => fr a _ h⟩, fun a u h _ => fr a u h, fun m _ h => absurd h (Nat.not_lt_zero _), fun a u h => ⟨u, fr a u h⟩⟩
end
section
variable {P : Program} {w : World} {K : Fr} {mg : Str → Option Value} {base : Heap} {cl : Cl} {CX : CXT}
theorem hok_shut {H : Hp} {h : Heap} {a : Addr} {u : HO} (hok : HOk P w H h) (e : H a = some u) (hu : Shut u) : ∃ o, HOk P w (upd H a (.frz o u)) h := by
  have k : ∃ o, h.get? a = some o := by
    have x := hok a u e
    rcases hu with ⟨vs, rfl⟩ | ⟨kv, rfl⟩ | ⟨C, dx, fv, rfl⟩
    · obtain ⟨_, its, n, _, z⟩ := x; exact ⟨_, z⟩
    · obtain ⟨_, _, _, _, o, _, _, z, _⟩ := x; exact ⟨o, z⟩
    · obtain ⟨_, _, _, z, _⟩ := x; exact ⟨_, z⟩
  obtain ⟨o, ho⟩ := k
  have nt : ∀ b xs, H b = some (.tup xs) → b ≠ a := fun b xs z w => by
    rw [w, e] at z; cases z
    rcases hu with ⟨_, q⟩ | ⟨_, q⟩ | ⟨_, _, _, q⟩ <;> cases q
  have no : ∀ b xs, H b = some (.own xs) → b ≠ a := fun b xs z w => by
    rw [w, e] at z; cases z
    rcases hu with ⟨_, q⟩ | ⟨_, q⟩ | ⟨_, _, _, q⟩ <;> cases q
  refine ⟨o, fun b v h => ?_⟩
  by_cases hb : b = a
  · subst hb
    rw [upd_same] at h
    cases h
    exact ⟨ho, (hok b u e).stay (fun _ _ _ z => z) (fun c z => by rw [upd_ne (no c _ z)]; exact z) fun c xs z => by rw [upd_ne (nt c xs z)]; exact z⟩
  · rw [upd_ne hb] at h
    exact (hok b v h).stay (fun _ _ _ z => z) (fun c z => by rw [upd_ne (no c _ z)]; exact z) fun c xs z => by rw [upd_ne (nt c xs z)]; exact z
theorem un_shut {fs : List Addr} {H H1 : Hp} {h h1 : Heap} {a : Addr} {u : HO} (U : Un fs [] H H1 h h1) (e : H1 a = some u) (hu : Shut u) (o : Obj) : Un fs [] H (upd H1 a (.frz o u)) h h1 where
  keep := U.keep
  slot := U.slot
  free := fun b ob q n hx => by
    have z := U.free b ob q n hx
    rw [upd_ne (fun w => by rw [w, e] at z; cases z)]
    exact z
  there := U.there
  tups := fun b xs q => by
    have z := U.tups b xs q
    rw [upd_ne]
    · exact z
    · rintro rfl
      rw [e] at z; cases z
      rcases hu with ⟨_, q⟩ | ⟨_, q⟩ | ⟨_, _, _, q⟩ <;> cases q
  frzs := fun b ob x q => by
    have z := U.frzs b ob x q
    rw [upd_ne]
    · exact z
    · rintro rfl
      rw [e] at z; cases z
      exact shut_ne hu rfl
  tbls := fun b ps q => by
    obtain ⟨m, z⟩ := U.tbls b ps q
    refine ⟨m, ?_⟩
    rw [upd_ne]
    · exact z
    · rintro rfl
      rw [e] at z; cases z
      rcases hu with ⟨_, q⟩ | ⟨_, q⟩ | ⟨_, _, _, q⟩ <;> cases q
open PySem.Spec PyProof.Rows in
theorem ce_fzm {outer : List Env} {H H1 : Hp} {s s' : Shared} {Q : VK} {u : Value} {v : V} (os : s'.os = s.os) (bare : AllBare s'.gens) (un : Un (frs outer) [] H H1 s.heap s'.heap) (hok : HOk P w H1 s'.heap) (r : RelV v u) (h : FzM Q v H1) : CE outer P w H s Q u s' := by
  induction h with
  | done h => exact ⟨v, _, os, bare, un, hok, r, h⟩
  | more e hu _ ih =>
    obtain ⟨o, hok'⟩ := hok_shut hok e hu
    exact ih o (un_shut un e hu o) hok'
theorem spM_pur {E : XK} {Q : VK} {n : Nat} {d : DM} {vs : List V} {H : Hp} (h : spM K cl n (pur d) vs H Q E) : spM K cl n d vs H (fun v H1 => FzM Q v H1) E := by
  obtain ⟨hl, q, S, xs, r, S', wd, hx, h, po⟩ := h
  unfold pur at h
  split at h
  · rename_i ha
    unfold runP at h
    split at h
    · rename_i r0 S0 e
      split at h
      · rename_i r' er
        cases h
        refine ⟨hl, q, [], xs, _, S0, .nil, noP_dts (noP_dt 16) ha hx, e, fun q' H' v g' w' dd => ?_⟩
        refine fz_tail w'.inj S0.length 0 H' (by omega) (fun m _ hm => mok_shut (w'.ob m _ (List.getElem?_eq_getElem hm))) fun H2 T => ?_
        have G := Tail.away wd g' T
        exact po q H2 v G.away (wd.away G) ((rsD_dt w' T 20 v r0 r' dd er).mono ⟨fun m hm => absurd hm (Nat.not_lt_zero _), Nat.zero_le _, fun _ _ h => h, fun _ _ _ h => h⟩)
      · cases h
    · rename_i c fs S0 e
      split at h
      · rename_i hf
        cases h
        exact ⟨hl, q, [], xs, _, S0, .nil, noP_dts (noP_dt 16) ha hx, e, Post.away_ex (Q := fun v H1 => FzM Q v H1) wd hf po⟩
      · cases h
    · cases h
  · cases h
open PySem.Spec PyProof.Rows in
theorem FnG.pur {k : Nat} {f : Addr} {fd : FuncData} {ps : List Str} {n : Nat} {d : DM} (F : FnG P w K mg base CX k f fd ps (spM K cl n d)) : FnG P w K mg base CX k f fd ps (spM K cl n (pur d)) := by
  refine ⟨fun vs H Q E h => F.len vs H _ E (spM_pur h), fun A outer s H args us vs Q E hr e0 hb hv h => ?_⟩
  refine codeAny_mono (F.run A outer s H args us vs _ E hr e0 hb hv (spM_pur h)) ?_
  rintro (e | fl) s' hq
  · exact hq
  · cases fl with
    | ret u =>
      obtain ⟨v, H1, os, bare, un, hok, r, q⟩ := hq
      exact ce_fzm os bare un hok r q
    | next => exact hq
    | brk => exact hq
    | cont => exact hq
theorem OkA.pur {x : Str} {j : Nat} {ps : List Str} {m : DM} {f : Addr} {fd : FuncData} (h : OkA P w K mg base cl x j ps m f fd) : OkA P w K mg base cl x j ps (pur m) f fd := ⟨h.1.pur, h.2⟩
theorem Okf.pur {x : Str} {j : Nat} {ps : List Str} {m : DM} (h : Okf P w K mg base cl x j ps m) : Okf P w K mg base cl x j ps (pur m) := by
  obtain ⟨f, fd, h⟩ := h
  exact ⟨f, fd, h.pur⟩
end
end U

set_option Elab.async false
set_option linter.all false
set_option maxRecDepth 100000
set_option maxHeartbeats 1000000
namespace U
open PySem L2
/-! ### instances: attributes read and stored, methods, making -/
section
open PySem.Spec PyProof.Rows
variable {X : Cx} {pins : List (Addr × Obj)} {σ : L2.St} {H : Hp} {s : Shared} {a C dx : Addr} {fs : List (Str × V)} {f : Str} {v : V} {A : Around} {E : Value → Shared → Prop}
/-- an instance as it is read, shut or not -/
theorem rins {P : Program} {w : World} {h : Heap} (hok : HOk P w H h) (e : Rd H a (.ins C dx fs)) : ∃ mA, ObjM h a dx C mA ∧ ∀ g, RelO (fs.lookup g) (mA g) := by
  have z : ObjOk P w H h a (.ins C dx fs) := e.ok hok
  obtain ⟨_, _, ne, ob, mA, n, r, _⟩ := z
  exact ⟨mA, ⟨ob, n, ne⟩, r⟩
theorem rget {b : Bool} {Q : Value → Shared → Prop} (I : Inv X pins σ H s) (e : Rd H a (.ins C dx fs)) (c : Cls X.K C) (n : NoAttr X.K C f) (l : fs.lookup f = some v) (h : ∀ u s', Inv X pins σ H s' → RelV v u → Q u s') :
    wpAny (model X.prog X.w) A (getAttr (.ref a) f b) Q E s := by
  obtain ⟨mA, O, r⟩ := rins I.hok e
  have rf := r f
  rw [l] at rf
  obtain ⟨u, hu, ru⟩ := RelO.some_of rf
  exact get_map I.kIn O (c.get f) c.hd n hu (handed_of ru) (h u _ (I.tok _) ru)
theorem rmeth {m : Str} {g : Addr} {pl : Sem Bool} {Q : Value × List Value → Shared → Prop} (I : Inv X pins σ H s) (e : Rd H a (.ins C dx fs)) (c : Cls X.K C) (k : Meth X.K C m g) (l : fs.lookup m = none) (h : Q (.ref g, [.ref a]) s) :
    wpAny (model X.prog X.w) A (getMethod (.ref a) m pl) Q E s := by
  obtain ⟨mA, O, r⟩ := rins I.hok e
  have rf := r m
  rw [l] at rf
  exact get_meth I.kIn O (c.get m) k.at_ k.fn (RelO.none_of rf) h
/-- e.f of an instance, shut or not -/
def tFldR (K : Fr) (C : Addr) (ta : TE) (f : Str) : TE := fun σ H Q => ta σ H fun x H1 => ∃ a dx fs v, x = .ref a ∧ Rd H1 a (.ins C dx fs) ∧ fs.lookup f = some v ∧ Q v H1
theorem pe_fldR {e : Expr} {pos : Pos} {ta : TE} (c : Cls X.K C) (n : NoAttr X.K C f) (he : PE X e ta) (hb : attributeBase e f X.env (eval e X.env) = eval e X.env) : PE X (.Attribute e f pos) (tFldR X.K C ta f) := by
  constructor
  intro pins s σ H Q I h
  refine attr_of hb (thn (he.run pins s σ H _ I h) ?_)
  rintro u s1 ⟨x, H1, I1, rx, a, dx, fs, v, rfl, ea, l, q⟩
  obtain rfl : u = Value.ref a := rx
  exact rget I1 ea c n l fun u' s2 I2 ru => ⟨v, H1, I2, ru, q⟩
/-- o.m(..) -/
def tMethR (C : Addr) (m : Str) (sp : Sp) (E : XK) (ta : TE) (t : TA) : TE := fun σ H Q => ta σ H fun x H1 => ∃ a dx fs, x = .ref a ∧ Rd H1 a (.ins C dx fs) ∧ fs.lookup m = none ∧ t σ H1 fun vs H2 => sp (x :: vs) H2 Q E
theorem peg_meth {CX : CXT} {k : Nat} {g : Addr} {fd : FuncData} {ps : List Str} {sp : Sp} {E : XK} {m : Str} {pos apos : Pos} {o e : Expr} {es : List Expr} {ta : TE} {t : TA} {pl : Sem Bool} (he : PE X o ta) (c : Cls X.K C) (hm : Meth X.K C m g) (F : FnG X.prog X.w X.K X.mg X.base CX k g fd ps sp) (hr : RoomG k X.A) (hb : Binds X.K fd ps []) (hx : Passes CX X E) (ha : PA X (e :: es) t)
    (hst : starEach (e :: es) X.env = (false, eval e X.env) :: starEach es X.env) (hpl : (backTo pos (starEach es X.env)).any (·.1) = false)
    (ht : eval (.Call (.Attribute o m apos) (e :: es) [] pos) X.env = (do let ov ← eval o X.env; standAt apos.atName; let (f, first) ← holding [ov] (getMethod ov m pl); callWith pos f first (backTo pos (starEach (e :: es) X.env)) (backToKw pos (keywordEach [] X.env)))) :
    PE X (.Call (.Attribute o m apos) (e :: es) [] pos) (tMethR C m sp E ta t) := by
  constructor
  intro pins s σ H Q I h
  refine PySem.W.methodCall_KW (pl := pl) (thn (he.run pins s σ H _ I h) ?_) ht
  rintro u s1 ⟨x, H1, I1, rx, a, dx, fs, rfl, ea, l, q⟩
  obtain rfl : u = Value.ref a := rx
  refine rmeth I1 ea c hm l (PySem.W.callWith_K (first := [.ref a]) (h₀ := X.base) I.ok.mod.kin hm.kp (thn (ha.run pos pins s1 σ H1 _ I1 q) ?_) hst hpl)
  rintro us s2 ⟨vs, H2, I2, r, q2⟩
  have b := hb s2 (.ref a :: us) I2.kIn (by rw [List.append_nil, List.length_cons, ← r.length]; exact F.len _ H2 Q E q2)
  rw [List.append_nil] at b
  exact ⟨I2.kIn, rung (vs := .ref a :: vs) F hr hx I2 b (.cons rfl r) q2⟩
theorem peg_meth0 {CX : CXT} {k : Nat} {g : Addr} {fd : FuncData} {ps : List Str} {sp : Sp} {E : XK} {m : Str} {pos apos : Pos} {o : Expr} {ta : TE} {pl : Sem Bool} (he : PE X o ta) (c : Cls X.K C) (hm : Meth X.K C m g) (F : FnG X.prog X.w X.K X.mg X.base CX k g fd ps sp) (hr : RoomG k X.A) (hb : Binds X.K fd ps []) (hx : Passes CX X E)
    (ht : eval (.Call (.Attribute o m apos) [] [] pos) X.env = (do let ov ← eval o X.env; standAt apos.atName; let (f, first) ← holding [ov] (getMethod ov m pl); callWith pos f first (backTo pos (starEach [] X.env)) (backToKw pos (keywordEach [] X.env)))) :
    PE X (.Call (.Attribute o m apos) [] [] pos) (tMethR C m sp E ta tNil) := by
  constructor
  intro pins s σ H Q I h
  refine PySem.W.methodCall_KW (pl := pl) (thn (he.run pins s σ H _ I h) ?_) ht
  rintro u s1 ⟨x, H1, I1, rx, a, dx, fs, rfl, ea, l, q⟩
  obtain rfl : u = Value.ref a := rx
  have q : sp [.ref a] H1 Q E := q
  have b := hb s1 [.ref a] I1.kIn (by rw [List.append_nil]; exact F.len _ H1 Q E q)
  rw [List.append_nil] at b
  exact rmeth I1 ea c hm l (PySem.W.callWith_K0 (first := [.ref a]) I1.kIn hm.kp (rung (vs := [.ref a]) F hr hx I1 b (.cons rfl .nil) q))
theorem RoomG.make {k : Nat} {A : Around} (r : RoomG (k + 1) A) (C : Addr) (us : List Value) (kw : List (Str × Value)) : RoomG k (A.under (.builtin "type.__call__" ⟨.ref C :: us, kw⟩)) := ⟨r.toRoom.make C us kw, r.gd⟩
end
/-! the class and the attributes of an instance -/
def insS (S : ST) (d : D) : Option (Str × List (Str × D)) := match d with
  | .ptr n => match S[n]? with
    | some (.ins c fs) => some (c, fs)
    | _ => none
  | .ins c fs => some (c, fs)
  | _ => none
def lkD (f : Str) : List (Str × D) → Option D
  | [] => none
  | kv :: r => if kv.1 = f then some kv.2 else lkD f r
theorem lkD_some {K : Fr} {q : Nat → Addr} {n : Nat} {H : Hp} {f : Str} : ∀ {fv : List (Str × V)} {fs : List (Str × D)} {d : D}, Dfv K q n H fv fs → lkD f fs = some d → ∃ v, fv.lookup f = some v ∧ Dt K q n H v d
  | _, _, _, .nil, h => by cases h
  | _, _, d, .cons (k := k) (v := v) r rs, h => by
    unfold lkD at h
    split at h
    · rename_i e
      cases h
      have e : k = f := e
      subst e
      exact ⟨v, by simp [List.lookup], r⟩
    · rename_i e
      have e : ¬ k = f := e
      obtain ⟨v2, h1, h2⟩ := lkD_some rs h
      have hb : (f == k) = false := by
        rw [beq_eq_false_iff_ne]
        exact fun z => e z.symm
      exact ⟨v2, by simp only [List.lookup, hb]; exact h1, h2⟩
theorem lkD_none {K : Fr} {q : Nat → Addr} {n : Nat} {H : Hp} {f : Str} : ∀ {fv : List (Str × V)} {fs : List (Str × D)}, Dfv K q n H fv fs → lkD f fs = none → fv.lookup f = none
  | _, _, .nil, _ => rfl
  | _, _, .cons (k := k) (v := v) r rs, h => by
    unfold lkD at h
    split at h
    · cases h
    · rename_i e
      have e : ¬ k = f := e
      have hb : (f == k) = false := by
        rw [beq_eq_false_iff_ne]
        exact fun z => e z.symm
      simp only [List.lookup, hb]
      exact lkD_none rs h
def ptD (f : Str) (d : D) : List (Str × D) → List (Str × D)
  | [] => [(f, d)]
  | (g, x) :: r => if g = f then (g, d) :: r else (g, x) :: ptD f d r
theorem ptD_ok {K : Fr} {q : Nat → Addr} {n : Nat} {H : Hp} {f : Str} {v : V} {d : D} (hd : Dt K q n H v d) : ∀ {fv : List (Str × V)} {fs : List (Str × D)}, Dfv K q n H fv fs → Dfv K q n H (putF f v fv) (ptD f d fs)
  | _, _, .nil => .cons hd .nil
  | _, _, .cons (k := k) r rs => by
    unfold putF ptD
    split
    · exact .cons hd rs
    · exact .cons r (ptD_ok hd rs)
theorem Dfv.length {K : Fr} {q : Nat → Addr} {n : Nat} {H : Hp} : ∀ {fv : List (Str × V)} {fs : List (Str × D)}, Dfv K q n H fv fs → fv.length = fs.length
  | _, _, .nil => rfl
  | _, _, .cons _ rs => by simp [rs.length]
theorem insS_inv {K : Fr} {q : Nat → Addr} {S : ST} {H : Hp} {v : V} {d : D} {c : Str} {fs : List (Str × D)} (h : insS S d = some (c, fs)) (w : Wd K q S H) (r : Dt K q S.length H v d) : ∃ a dx fv, v = .ref a ∧ Rd H a (.ins (He.ga K c) dx fv) ∧ Dfv K q S.length H fv fs := by
  cases r with
  | @ptr m hm =>
    simp only [insS] at h
    split at h
    · rename_i e
      cases h
      obtain ⟨dx, fv, e1, e2⟩ := w.ob m _ e
      exact ⟨_, dx, fv, rfl, .inl e1, e2⟩
    · cases h
  | ins e rs =>
    cases h
    exact ⟨_, _, _, rfl, .inr ⟨_, e⟩, rs⟩
  | _ => cases h
section
variable {X : Cx} {cl : Cl} {E : XK} {e o a b c : Expr} {es : List Expr} {pos pos' apos p : Pos} {m ma mb mo : EM} {mr mk : AM} {C f : Str}
def fldF (C f : Str) (x : D) (S : ST) : Option (Rs D × ST) := match insS S x with
  | some (c, fs) => if c = C then match lkD f fs with
      | some d => some (.ok d, S)
      | none => none
    else none
  | none => none
theorem ee_fld (hc : Cls X.K (He.ga X.K C)) (hn : NoAttr X.K (He.ga X.K C) f) (h : EE X cl E e m) (hb : attributeBase e f X.env (eval e X.env) = eval e X.env := by rfl) : EE X cl E (.Attribute e f pos) (eUn (fldF C f) m) := by
  obtain ⟨ta, pa, ea⟩ := h
  refine ⟨_, pe_fldR hc hn pa hb, fun g S z S' h q s H Q w sl po => ?_⟩
  rcases bd_inv h with ⟨x, S1, h1, h⟩ | ⟨c, fs, h1, rfl⟩
  · refine ea g S _ S1 h1 q s H _ w sl fun q1 H1 vx g1 w1 d1 => ?_
    unfold fldF at h
    split at h
    · rename_i c fs e1
      split at h
      · rename_i hcc
        obtain rfl : C = c := hcc.symm
        split at h
        · rename_i d e2
          cases h
          obtain ⟨a, dx, fv, rfl, rd, rf⟩ := insS_inv e1 w1 d1
          obtain ⟨v, l, dv⟩ := lkD_some rf e2
          exact ⟨a, dx, fv, v, rfl, rd, l, po q1 H1 v g1 w1 dv⟩
        · cases h
      · cases h
    · cases h
  · exact ea g S _ S' h1 q s H _ w sl (Post.ex (Q := Q) po)
/-- e.f = value -/
def fsF (C f : Str) (v x : D) (S : ST) : Option ST := match x with
  | .ptr n => match S[n]? with
    | some (.ins c fs) => if c = C ∧ fs.length < 900 then some (S.set n (.ins c (ptD f v fs))) else none
    | _ => none
  | _ => none
def sFldM (C f : Str) (mo mv : EM) : SM := fun g S => bs (mv g S) fun v S1 => bs (mo g S1) fun x S2 => match fsF C f v x S2 with
  | some S3 => some (.nx g, S3)
  | none => none
theorem fsF_inv {K : Fr} {q : Nat → Addr} {S S3 : ST} {H : Hp} {v x : D} {vv vx : V} (h : fsF C f v x S = some S3) (w : Wd K q S H) (dv : Dt K q S.length H vv v) (dx : Dt K q S.length H vx x) :
    ∃ a d0 fv, vx = .ref a ∧ H a = some (.ins (He.ga K C) d0 fv) ∧ fv.length < 1000 ∧ S3.length = S.length ∧ Gr q S.length H q S3.length (upd H a (.ins (He.ga K C) d0 (putF f vv fv))) ∧ Wd K q S3 (upd H a (.ins (He.ga K C) d0 (putF f vv fv))) := by
  unfold fsF at h
  split at h
  · rename_i n
    split at h
    · rename_i c fs e
      split at h
      · rename_i hc
        obtain ⟨rfl, hl⟩ := hc
        cases h
        obtain ⟨rfl, hm⟩ := dx.ptr_inv
        obtain ⟨d0, fv, e1, rf⟩ := w.ob n _ e
        have le : (S.set n (MO.ins c (ptD f v fs))).length = S.length := List.length_set
        refine ⟨_, d0, fv, rfl, e1, by rw [rf.length]; omega, le, ?_, w.wr (x := .ins _ _) hm e1 trivial ⟨d0, _, upd_same, (ptD_ok dv rf).mono (Ge.wr e1 trivial)⟩⟩
        rw [le]
        exact Gr.wr hm e1 trivial
      · cases h
    · cases h
  · cases h
theorem st_fld (hc : Cls X.K (He.ga X.K C)) (hn : NoAttr X.K (He.ga X.K C) f) (ho : EE X cl E o mo) (hv : EE X cl E e m) (hs : swapsWith e (some (.Attribute o f pos')) pos.line X.env = pure false := by rfl) : ES X cl E (.Assign [.Attribute o f pos'] e pos) (sFldM C f mo m) := by
  obtain ⟨ta, pa, ea⟩ := ho
  obtain ⟨tb, pb, eb⟩ := hv
  refine ⟨_, ps_fld pa pb hs, fun g S z S' h q s H D w sl po => ?_⟩
  rcases bs_inv h with ⟨v, S1, h1, h⟩ | ⟨c, fs, h1, rfl⟩
  · refine eb g S _ S1 h1 q s H _ w sl fun q1 H1 vv g1 w1 d1 => ?_
    rcases bs_inv h with ⟨x, S2, h2, h⟩ | ⟨c, fs, h2, rfl⟩
    · refine ea g S1 _ S2 h2 q1 s H1 _ w1 (sl.mono g1) fun q2 H2 vx g2 w2 d2 => ?_
      split at h
      · rename_i S3 h3
        cases h
        obtain ⟨a, d0, fv, rfl, e1, hl, le, gr, wd⟩ := fsF_inv h3 w2 (d1.mono g2.ge) d2
        exact ⟨a, _, d0, fv, rfl, e1, hc, hn, hl, po q2 _ s ((g1.trans g2).trans gr) wd ((sl.mono (g1.trans g2)).mono gr)⟩
      · cases h
    · exact ea g S1 _ S' h2 q1 s H1 _ w1 (sl.mono g1) (Post.to (Q := fun _ _ => False) (r := .ex c fs) g1 po)
  · exact eb g S _ S' h1 q s H _ w sl (Post.ex (Q := fun _ _ => False) po)
/-- e.f += value, whole numbers -/
def faP (C f : Str) (n : Nat) (S : ST) : Option Int := match S[n]? with
  | some (.ins c fs) => if c = C then match lkD f fs with
      | some (.int i) => some i
      | _ => none
    else none
  | _ => none
def sFldAdd (C f : Str) (mo mv : EM) : SM := fun g S => bs (mo g S) fun x S1 => match x with
  | .ptr n => match faP C f n S1 with
    | some i => bs (mv g S1) fun v S2 => match v with
      | .int j => match fsF C f (.int (i + j)) (.ptr n) S2 with
        | some S3 => some (.nx g, S3)
        | none => none
      | _ => none
    | none => none
  | _ => none
theorem st_fldadd {tpos : Pos} (hc : Cls X.K (He.ga X.K C)) (hn : NoAttr X.K (He.ga X.K C) f) (ho : EE X cl E o mo) (hv : EE X cl E e m) : ES X cl E (.AugAssign (.Attribute o f tpos) .Add e pos) (sFldAdd C f mo m) := by
  obtain ⟨ta, pa, ea⟩ := ho
  obtain ⟨tb, pb, eb⟩ := hv
  refine ⟨_, ps_fldaug pa pb in_add, fun g S z S' h q s H D w sl po => ?_⟩
  rcases bs_inv h with ⟨x, S1, h1, h⟩ | ⟨c, fs, h1, rfl⟩
  · refine ea g S _ S1 h1 q s H _ w sl fun q1 H1 vx g1 w1 d1 => ?_
    split at h
    · rename_i n
      split at h
      · rename_i i e1
        unfold faP at e1
        split at e1
        · rename_i c fs e2
          split at e1
          · rename_i hcc
            obtain rfl : C = c := hcc.symm
            split at e1
            · rename_i i' e3
              cases e1
              obtain ⟨rfl, hm⟩ := d1.ptr_inv
              obtain ⟨d0, fv, e4, rf⟩ := w1.ob n _ e2
              obtain ⟨v, l, dv⟩ := lkD_some rf e3
              obtain rfl := dv.int_inv
              refine ⟨_, _, d0, fv, _, rfl, e4, hc, hn, l, ?_⟩
              rcases bs_inv h with ⟨y, S2, h2, h⟩ | ⟨c, fs, h2, rfl⟩
              · refine eb g S1 _ S2 h2 q1 s H1 _ w1 (sl.mono g1) fun q2 H2 vy g2 w2 d2 => ?_
                split at h
                · rename_i j
                  split at h
                  · rename_i S3 h3
                    cases h
                    obtain rfl := d2.int_inv
                    obtain ⟨a, d9, fv', ea', e5, hl, le, gr, wd⟩ := fsF_inv (vv := .int (i + j)) (vx := .ref (q2 n)) h3 w2 (.int _) (.ptr (by have := g2.ge.le; omega))
                    cases ea'
                    rw [g2.ge.ag n hm] at e5 gr wd
                    exact ⟨i, j, rfl, rfl, d9, fv', e5, hl, po q2 _ s ((g1.trans g2).trans gr) wd ((sl.mono (g1.trans g2)).mono gr)⟩
                  · cases h
                · cases h
              · exact eb g S1 _ S' h2 q1 s H1 _ w1 (sl.mono g1) (Post.to (Q := fun _ _ => False) (r := .ex c fs) g1 po)
            · cases e1
          · cases e1
        · cases e1
      · cases h
    · cases h
  · exact ea g S _ S' h1 q s H _ w sl (Post.ex (Q := fun _ _ => False) po)
end
end U

set_option Elab.async false
set_option linter.all false
set_option maxRecDepth 100000
set_option maxHeartbeats 1000000
namespace U
open PySem L2
/-! ### making an instance; methods -/
def mkSp (C : Addr) (sp : Sp) (vs : List V) (H : Hp) (Q : VK) (E : XK) : Prop :=
  ∀ x dx, H x = none → H dx = none → dx ≠ x → sp (.ref x :: vs) (upd (upd H dx (.own x)) x (.ins C dx [])) (fun v H2 => v = .non ∧ Q (.ref x) H2) E
section
open PySem.Spec PyProof.Rows
variable {X : Cx} {CX : CXT} {k : Nat} {f C : Addr} {fd : FuncData} {ps : List Str} {sp : Sp} {E : XK}
theorem run_makeG {pins : List (Addr × Obj)} {σ : L2.St} {H : Hp} {s : Shared} {Q : VK} {us al : List Value} {vs : List V} {kw : List (Str × Value)} (M : Mk X.K C f) (F : FnG X.prog X.w X.K X.mg X.base CX k f fd ps sp) (hr : RoomG (k + 1) X.A) (hx : Passes CX X E) (I : Inv X pins σ H s)
    (hb : ∀ (s : Shared) (x : Value), X.K.In s.heap → BindsTo s fd ⟨x :: us, kw⟩ (ps.zip (x :: al))) (r : Vals vs al) (h : mkSp C sp vs H Q E) : wpAny (model X.prog X.w) X.A (call (.ref C) us kw) (EP X pins σ Q) X.xe s := by
  have n1 := I.hok.fresh (Nat.le_refl s.heap.objs.size)
  have n2 := I.hok.fresh (Nat.le_succ s.heap.objs.size)
  have hq := h _ _ n2 n1 (Nat.ne_of_lt (Nat.lt_succ_self _))
  have J := Inv.made (C := C) I
  have rr : Vals (V.ref (s.heap.objs.size + 1) :: vs) (Value.ref (s.heap.objs.size + 1) :: al) := .cons rfl r
  have run := F.run _ X.stack _ _ ⟨Value.ref (s.heap.objs.size + 1) :: us, kw⟩ _ _ _ _ (hr.make C us kw) (J.env0.make C us kw) (hb _ _ J.kIn) rr hq
  refine wpAny_call (make_map (f := f) I.kIn M.makes M.init (beq_iff_eq.mp M.fn) (codeAny_mono run ?_))
  rintro (e | fl) s' hq'
  · exact hx pins σ _ _ e s' J hq'
  · cases fl with
    | ret u =>
      obtain ⟨v, H', I3, rv, ev, q3⟩ := J.after hq'
      subst ev
      exact ⟨rv, V.ref _, H', I3, rfl, q3⟩
    | next => exact hq'.elim
    | brk => exact hq'.elim
    | cont => exact hq'.elim
end
/-- the mirror of C(..) by that of its __init__ -/
def mkR (n : Nat) (x : Option (Rs D × ST)) : Option (Rs D × ST) := match x with
  | some (.ok .non, S) => some (.ok (.ptr n), S)
  | some (.ex c fs, S) => some (.ex c fs, S)
  | _ => none
def mkI (C : Str) (d : DM) : DM := fun xs S => mkR S.length (d (.ptr S.length :: xs) (S ++ [.ins C []]))
section
variable {K : Fr} {cl : Cl} {E : XK} {Q : VK} {C : Str} {d md : DM} {n : Nat} {vs : List V} {H : Hp}
theorem mk_sp (h : spM K cl n (mkI C d) vs H Q E) : mkSp (He.ga K C) (spM K cl (n + 1) d) vs H Q E := by
  obtain ⟨hl, q, S, xs, r, S', w, hx, h, po⟩ := h
  intro x dx h1 h2 ne
  have e1 : (S ++ [MO.ins C []]).length = S.length + 1 := by rw [List.length_append, List.length_singleton]
  have g1 : Gr q S.length H q S.length (upd H dx (.own x)) := Gr.new h2
  have hx1 : upd H dx (.own x) x = none := by rw [upd_ne (Ne.symm ne)]; exact h1
  have g2 := g1.trans (Gr.new (o := .ins (He.ga K C) dx []) hx1)
  have g3 : Gr q S.length H (put q S.length x) (S ++ [MO.ins C []]).length (upd (upd H dx (.own x)) x (.ins (He.ga K C) dx [])) := by
    rw [e1]
    exact g2.adopt h1
  have w2 : Wd K (put q S.length x) (S ++ [MO.ins C []]) (upd (upd H dx (.own x)) x (.ins (He.ga K C) dx [])) := ((w.new h2).new hx1).adopt (fun m hm => w.ne h1 hm) ⟨dx, [], upd_same, .nil⟩
  have dp : Dt K (put q S.length x) (S ++ [MO.ins C []]).length (upd (upd H dx (.own x)) x (.ins (He.ga K C) dx [])) (.ref x) (.ptr S.length) := by
    rw [e1]
    have := Dt.ptr (K := K) (q := put q S.length x) (n := S.length + 1) (H := upd (upd H dx (.own x)) x (.ins (He.ga K C) dx [])) (m := S.length) (Nat.lt_succ_self _)
    rwa [put_eq] at this
  unfold mkI mkR at h
  split at h
  · rename_i S2 e
    cases h
    refine ⟨by rw [List.length_cons, hl], _, _, _, _, S', w2, .cons dp (hx.mono g3.ge), e, fun q' H' v g' w' dv => ⟨dv.non_inv, ?_⟩⟩
    refine po q' H' (.ref x) (g3.trans g') w' ?_
    have := dp.mono g'.ge
    exact this
  · rename_i c fs S2 e
    cases h
    exact ⟨by rw [List.length_cons, hl], _, _, _, _, S', w2, .cons dp (hx.mono g3.ge), e, Post.to (Q := fun v H2 => v = .non ∧ Q (.ref x) H2) (r := .ex c fs) g3 po⟩
  · cases h
/-- md tells of C(..): what is made may be shut behind it -/
def MkOk (K : Fr) (cl : Cl) (C : Str) (n : Nat) (d md : DM) : Prop := ∀ (vs : List V) (H : Hp) (Q : VK) (E : XK), spM K cl n md vs H Q E → mkSp (He.ga K C) (spM K cl (n + 1) d) vs H (fun v H1 => FzM Q v H1) E
theorem mkok_i : MkOk K cl C n d (mkI C d) := fun vs H Q E h => mk_sp (by
  obtain ⟨hl, q, S, xs, r, S', w, hx, h, po⟩ := h
  refine ⟨hl, q, S, xs, r, S', w, hx, h, ?_⟩
  cases r with
  | ok d => exact fun q' H' v g' w' hd => .done (po q' H' v g' w' hd)
  | ex c fs => exact po)
theorem mkok_p : MkOk K cl C n d (pur (mkI C d)) := fun vs H Q E h => mk_sp (spM_pur h)
end
/-- the class C, its __init__ keeping m -/
def Okc (P : Program) (w : World) (K : Fr) (mg : Str → Option Value) (base : Heap) (cl : Cl) (C : Str) (j : Nat) (ps : List Str) (m : DM) (n : Nat) (ks : List Str) (gD : List D → List D → List D) : Prop :=
  ∃ (f : Addr) (fd : FuncData) (gv : List Value → List Value → List Value) (gV : List V → List V → List V), FnG P w K mg base (L2.CX P w) j f fd ps (spM K cl ps.length m) ∧ mg C = some (.ref (He.ga K C)) ∧ Mk K (He.ga K C) f ∧
    (∀ (s : Shared) (us ws : List Value), K.In s.heap → us.length = n → ws.length = ks.length → ∀ x, BindsTo s fd ⟨x :: us, ks.zip ws⟩ (ps.zip (x :: gv us ws))) ∧
    (∀ {vs zs : List V} {us ws : List Value}, vs.length = n → zs.length = ks.length → Vals vs us → Vals zs ws → Vals (gV vs zs) (gv us ws)) ∧
    ∀ q N H vs zs ds es, vs.length = n → zs.length = ks.length → Dts K q N H vs ds → Dts K q N H zs es → Dts K q N H (gV vs zs) (gD ds es)
section
open PySem.Spec PyProof.Rows
variable {X : Cx} {cl : Cl} {E : XK} {e o : Expr} {es : List Expr} {kws : List Keyword} {pos p apos : Pos} {ma : EM} {mr mk : AM} {C m : Str} {j n : Nat} {ps ks : List Str} {d md : DM} {gD : List D → List D → List D}
/-- C(e, .., k = v, ..) -/
theorem ee_makeK {kn : Nat} (F : Okc X.prog X.w X.K X.mg X.base cl C j ps d n ks gD) (hmd : ∀ n, MkOk X.K cl C n d md) (hr : RoomG (j + 1) X.A) (hx : Passes (L2.CX X.prog X.w) X E) (ha : EA X cl E (e :: es) mr) (hk : EK X cl E kws mk) {pn : Nat} (hl : ∀ ds es, ds.length = n → es.length = kn → (gD ds es).length = pn) (hg : Gl X C := by rfl)
    (hall : (backToKw pos (keywordEach kws X.env)).all (·.1.isSome) = true := by rfl) (hks : (backToKw pos (keywordEach kws X.env)).filterMap (·.1) = ks := by rfl) (hdb : (C == ("__debug__" : Str)) = false := by decide)
    (he : starEach (e :: es) X.env = (false, eval e X.env) :: starEach es X.env := by rfl) (hpl : ((backTo pos (starEach (e :: es) X.env)).any (·.1) || (backToKw pos (keywordEach kws X.env)).any (·.1.isNone)) = false := by rfl) (hkn : ks.length = kn := by rfl) (hpn : ps.length = pn + 1 := by rfl) :
    EE X cl E (.Call (.Name C p) (e :: es) kws pos) (eCallK n kn gD md mr mk) := by
  subst hkn
  obtain ⟨f, fd, gv, gV, F, hm, M, hb, rel, dts⟩ := F
  obtain ⟨ta, pa, ea⟩ := ha
  obtain ⟨tk, pk, ek⟩ := hk
  rw [hpn] at F
  have pe : PE X (.Call (.Name C p) (e :: es) kws pos) (fun σ H Q => ta σ H fun vs H1 => tk σ H1 fun zs H2 => vs.length = n ∧ zs.length = ks.length ∧ mkSp (He.ga X.K C) (spM X.K cl (pn + 1) d) (gV vs zs) H2 Q E) := by
    constructor
    intro pins s σ H Q I h
    refine wpAny_Call_Name_kw (ld_glob I hg hm (PySem.W.callWith_KW (h₀ := X.base) I.ok.mod.kin M.kp hall (thn (pa.run pos pins s σ H _ I h) ?_) hpl he) hdb)
    rintro us s1 ⟨vs, H1, I1, r, q⟩
    refine thn (pk.run pos pins s1 σ H1 _ I1 q) ?_
    rintro ws s2 ⟨zs, H2, I2, rz, l1, l2, q2⟩
    rw [hks]
    exact ⟨I2.kIn, run_makeG M F hr hx I2 (fun s x K => hb s us ws K (r.length.symm.trans l1) (rz.length.symm.trans l2) x) (rel l1 l2 r rz) q2⟩
  refine ⟨_, pe_fzm pe, fun g S z S' h q s H Q w sl po => ?_⟩
  rcases bd_inv h with ⟨xs, S1, h1, h⟩ | ⟨c, fs, h1, rfl⟩
  · refine ea g S _ S1 h1 q s H _ w sl fun q1 H1 vs g1 w1 d1 => ?_
    rcases bd_inv h with ⟨zs, S2, h2, h⟩ | ⟨c, fs, h2, rfl⟩
    · refine ek g S1 _ S2 h2 q1 s H1 _ w1 (sl.mono g1) fun q2 H2 us g2 w2 d2 => ?_
      split at h
      · rename_i hh
        have l1 : vs.length = n := by rw [d1.length]; exact hh.1
        have l2 : us.length = ks.length := by rw [d2.length]; exact hh.2
        have dd := dts q2 S2.length H2 vs us xs zs l1 l2 (d1.mono g2.ge) d2
        exact ⟨l1, l2, hmd pn _ H2 Q E ⟨by rw [dd.length]; exact hl xs zs hh.1 hh.2, q2, S2, _, z, S', w2, dd, h, po.to (g1.trans g2)⟩⟩
      · cases h
    · exact ek g S1 _ S' h2 q1 s H1 _ w1 (sl.mono g1) (Post.ex (Q := Q) (Q' := fun _ _ => False) (po.to g1))
  · exact ea g S _ S' h1 q s H _ w sl (Post.ex (Q' := fun _ _ => False) po)
/-- C(e, ..) -/
def eMk (n : Nat) (gD : List D → List D → List D) (md : DM) (xs : List D) (S : ST) : Option (Rs D × ST) := if xs.length = n then md (gD xs []) S else none
theorem ee_make (F : Okc X.prog X.w X.K X.mg X.base cl C j ps d n [] gD) (hmd : ∀ n, MkOk X.K cl C n d md) (hr : RoomG (j + 1) X.A) (hx : Passes (L2.CX X.prog X.w) X E) (ha : EA X cl E (e :: es) mr) {pn : Nat} (hl : ∀ ds, ds.length = n → (gD ds []).length = pn) (hg : Gl X C := by rfl) (hdb : (C == ("__debug__" : Str)) = false := by decide)
    (he : starEach (e :: es) X.env = (false, eval e X.env) :: starEach es X.env := by rfl) (hpl : (backTo pos (starEach es X.env)).any (·.1) = false := by rfl) (hpn : ps.length = pn + 1 := by rfl) :
    EE X cl E (.Call (.Name C p) (e :: es) [] pos) (eCall (eMk n gD md) mr) := by
  obtain ⟨f, fd, gv, gV, F, hm, M, hb, rel, dts⟩ := F
  obtain ⟨ta, pa, ea⟩ := ha
  rw [hpn] at F
  have pe : PE X (.Call (.Name C p) (e :: es) [] pos) (fun σ H Q => ta σ H fun vs H1 => vs.length = n ∧ mkSp (He.ga X.K C) (spM X.K cl (pn + 1) d) (gV vs []) H1 Q E) := by
    constructor
    intro pins s σ H Q I h
    refine wpAny_Call_Name_kw (ld_glob I hg hm (PySem.W.callWith_K (h₀ := X.base) I.ok.mod.kin M.kp (thn (pa.run pos pins s σ H _ I h) ?_) he hpl) hdb)
    rintro us s1 ⟨vs, H1, I1, r, l1, q⟩
    exact ⟨I1.kIn, run_makeG M F hr hx I1 (fun s x K => hb s us [] K (r.length.symm.trans l1) rfl x) (rel l1 rfl r .nil) q⟩
  refine ⟨_, pe_fzm pe, fun g S z S' h q s H Q w sl po => ?_⟩
  rcases bd_inv h with ⟨xs, S1, h1, h⟩ | ⟨c, fs, h1, rfl⟩
  · refine ea g S _ S1 h1 q s H _ w sl fun q1 H1 vs g1 w1 d1 => ?_
    unfold eMk at h
    split at h
    · rename_i hh
      have l1 : vs.length = n := by rw [d1.length]; exact hh
      have dd := dts q1 S1.length H1 vs [] xs [] l1 rfl d1 .nil
      exact ⟨l1, hmd pn _ H1 Q E ⟨by rw [dd.length]; exact hl xs hh, q1, S1, _, z, S', w1, dd, h, po.to g1⟩⟩
    · cases h
  · exact ea g S _ S' h1 q s H _ w sl (Post.ex (Q' := fun _ _ => False) po)
/-! methods -/
/-- the method m of the class C keeps d -/
def Okm (P : Program) (w : World) (K : Fr) (mg : Str → Option Value) (base : Heap) (cl : Cl) (C m : Str) (j : Nat) (ps : List Str) (d : DM) : Prop :=
  ∃ f fd, FnG P w K mg base (L2.CX P w) j f fd ps (spM K cl ps.length d) ∧ Cls K (He.ga K C) ∧ Meth K (He.ga K C) m f ∧ Binds K fd ps []
theorem Okm.pur {P : Program} {w : World} {K : Fr} {mg : Str → Option Value} {base : Heap} (h : Okm P w K mg base cl C m j ps d) : Okm P w K mg base cl C m j ps (pur d) := by
  obtain ⟨f, fd, F, r⟩ := h
  exact ⟨f, fd, F.pur, r⟩
def isC (C m : Str) (S : ST) (x : D) : Bool := match insS S x with
  | some (c, fs) => decide (c = C) && (lkD m fs).isNone
  | none => false
def cMeth (C m : Str) (d : DM) (r : AM) (g : EV) (x : D) (S : ST) : Option (Rs D × ST) := if isC C m S x = true then bd (r g S) fun xs S2 => d (x :: xs) S2 else none
def eMeth (C m : Str) (d : DM) (a : EM) (r : AM) : EM := fun g S => bd (a g S) (cMeth C m d r g)
theorem isC_inv {K : Fr} {q : Nat → Addr} {S : ST} {H : Hp} {v : V} {x : D} (h : isC C m S x = true) (w : Wd K q S H) (r : Dt K q S.length H v x) : ∃ a dx fv, v = .ref a ∧ Rd H a (.ins (He.ga K C) dx fv) ∧ fv.lookup m = none := by
  unfold isC at h
  split at h
  · rename_i c fs e
    simp only [Bool.and_eq_true, decide_eq_true_eq] at h
    obtain ⟨a, dx, fv, e1, rd, rf⟩ := insS_inv e w r
    rw [h.1] at rd
    exact ⟨a, dx, fv, e1, rd, lkD_none rf (by simpa using h.2)⟩
  · cases h
theorem ee_meth {pl : Sem Bool} (F : Okm X.prog X.w X.K X.mg X.base cl C m j ps d) (hr : RoomG j X.A) (hx : Passes (L2.CX X.prog X.w) X E) (ho : EE X cl E o ma) (ha : EA X cl E (e :: es) mr) {nn : Nat} (hst : starEach (e :: es) X.env = (false, eval e X.env) :: starEach es X.env := by rfl) (hpl : (backTo pos (starEach es X.env)).any (·.1) = false := by rfl)
    (ht : eval (.Call (.Attribute o m apos) (e :: es) [] pos) X.env = (do let ov ← eval o X.env; standAt apos.atName; let (f, first) ← holding [ov] (getMethod ov m pl); callWith pos f first (backTo pos (starEach (e :: es) X.env)) (backToKw pos (keywordEach [] X.env))) := by rfl) (hnn : ps.length = nn := by rfl) :
    EE X cl E (.Call (.Attribute o m apos) (e :: es) [] pos) (eMeth C m (Ar nn d) ma mr) := by
  subst hnn
  obtain ⟨f, fd, F, c, M, hb⟩ := F
  obtain ⟨tb, pb, eb⟩ := ho
  obtain ⟨ta, pa, ea⟩ := ha
  refine ⟨_, peg_meth pb c M F hr hb hx pa hst hpl ht, fun g S z S' h q s H Q w sl po => ?_⟩
  rcases bd_inv h with ⟨x, S0, h0, h⟩ | ⟨c, fs, h1, rfl⟩
  · refine eb g S _ S0 h0 q s H _ w sl fun q0 H0 vx g0 w0 d0 => ?_
    unfold cMeth at h
    split at h
    · rename_i hc
      obtain ⟨a, dx, fv, rfl, rd, l⟩ := isC_inv hc w0 d0
      refine ⟨a, dx, fv, rfl, rd, l, ?_⟩
      rcases bd_inv h with ⟨xs, S1, h1, h⟩ | ⟨c, fs, h1, rfl⟩
      · refine ea g S0 _ S1 h1 q0 s H0 _ w0 (sl.mono g0) fun q1 H1 vs g1 w1 d1 => ?_
        have dd := Dts.cons (d0.mono g1.ge) d1
        exact ⟨by rw [dd.length]; exact Ar.len h, q1, S1, _, z, S', w1, dd, Ar.get h, po.to (g0.trans g1)⟩
      · exact ea g S0 _ S' h1 q0 s H0 _ w0 (sl.mono g0) (Post.ex (Q := Q) (Q' := fun _ _ => False) (po.to g0))
    · cases h
  · exact eb g S _ S' h1 q s H _ w sl (Post.ex (Q := Q) (Q' := fun _ _ => False) po)
theorem ee_meth0 {pl : Sem Bool} (F : Okm X.prog X.w X.K X.mg X.base cl C m j ps d) (hr : RoomG j X.A) (hx : Passes (L2.CX X.prog X.w) X E) (ho : EE X cl E o ma) {nn : Nat}
    (ht : eval (.Call (.Attribute o m apos) [] [] pos) X.env = (do let ov ← eval o X.env; standAt apos.atName; let (f, first) ← holding [ov] (getMethod ov m pl); callWith pos f first (backTo pos (starEach [] X.env)) (backToKw pos (keywordEach [] X.env))) := by rfl) (hnn : ps.length = nn := by rfl) :
    EE X cl E (.Call (.Attribute o m apos) [] [] pos) (eMeth C m (Ar nn d) ma aNil) := by
  subst hnn
  obtain ⟨f, fd, F, c, M, hb⟩ := F
  obtain ⟨tb, pb, eb⟩ := ho
  refine ⟨_, peg_meth0 pb c M F hr hb hx ht, fun g S z S' h q s H Q w sl po => ?_⟩
  rcases bd_inv h with ⟨x, S0, h0, h⟩ | ⟨c, fs, h1, rfl⟩
  · refine eb g S _ S0 h0 q s H _ w sl fun q0 H0 vx g0 w0 d0 => ?_
    unfold cMeth at h
    split at h
    · rename_i hc
      obtain ⟨a, dx, fv, rfl, rd, l⟩ := isC_inv hc w0 d0
      have h : Ar ps.length d [x] S0 = some (z, S') := h
      exact ⟨a, dx, fv, rfl, rd, l, Ar.len h, q0, S0, _, z, S', w0, .cons d0 .nil, Ar.get h, po.to g0⟩
    · cases h
  · exact eb g S _ S' h1 q s H _ w sl (Post.ex (Q := Q) (Q' := fun _ _ => False) po)
end
end U

set_option Elab.async false
set_option linter.all false
set_option maxRecDepth 100000
set_option maxHeartbeats 2000000
namespace U
open PySem L2
/-! ### zip and enumerate over lists, tuples, texts -/
inductive Src where
  | lst (a : Addr) (xs : List V) | tup (a : Addr) (xs : List V) | txt (z : Str)
namespace Src
def xs : Src → List V
  | .lst _ xs => xs
  | .tup _ xs => xs
  | .txt z => z.cps.toList.map fun c => .str ⟨#[c]⟩
def ok (K : Fr) (H : Hp) : Src → Prop
  | .lst a xs => SqL K H a xs
  | .tup a xs => SqT K H a xs
  | .txt _ => True
def v : Src → V
  | .lst a _ => .ref a
  | .tup a _ => .ref a
  | .txt z => .str z
def fpo : Src → List Addr
  | .lst a _ => [a]
  | .tup a _ => [a]
  | .txt _ => []
def iter (it : Addr) (i : Nat) (h : Heap) : Src → Prop
  | .lst a _ => h.IsListIter it a i
  | .tup a _ => h.IsTupleIter it a i
  | .txt z => ∃ t, h.IsStrIter it (strIterType z) z t i
end Src
section
open PySem.Spec PyProof.Rows
variable {X : Cx} {pins : List (Addr × Obj)} {σ : L2.St} {H : Hp} {s : Shared}
theorem vals_getU {xs : List V} {us : List Value} (r : Vals xs us) {i : Nat} {u : Value} (h : us[i]? = some u) : ∃ x, xs[i]? = some x ∧ RelV x u := by
  have hl := r.length
  have hi := (List.getElem?_eq_some_iff.mp h).1
  have e : xs[i]? = some (xs[i]'(by omega)) := List.getElem?_eq_getElem (by omega)
  obtain ⟨u', h1, h2⟩ := r.get e
  rw [h] at h1
  cases h1
  exact ⟨_, e, h2⟩
theorem Src.iter_obj {src : Src} {it : Addr} {i : Nat} {h : Heap} (st : src.iter it i h) : ∃ o, h.get? it = some o ∧ ∀ v, o.data ≠ .cell v := by
  cases src with
  | lst a xs => obtain ⟨o, e, _, d⟩ := st; exact ⟨o, e, fun v z => by rw [d] at z; cases z⟩
  | tup a xs => obtain ⟨o, e, _, d⟩ := st; exact ⟨o, e, fun v z => by rw [d] at z; cases z⟩
  | txt z => obtain ⟨t, o, e, _, d⟩ := st; exact ⟨o, e, fun v z => by rw [d] at z; cases z⟩
theorem Src.iter_keep {src : Src} {it : Addr} {i : Nat} {h h' : Heap} (st : src.iter it i h) (k : ∀ o, h.get? it = some o → h'.get? it = some o) : src.iter it i h' := by
  cases src with
  | lst a xs => obtain ⟨o, e, r⟩ := st; exact ⟨o, k o e, r⟩
  | tup a xs => obtain ⟨o, e, r⟩ := st; exact ⟨o, k o e, r⟩
  | txt z => obtain ⟨t, o, e, r⟩ := st; exact ⟨t, o, k o e, r⟩
/-- what an iterator over src draws, while src stands -/
theorem Src.draws {src : Src} {it : Addr} {i : Nat} {A : Around} (hh : A.handled = none) (I : Inv X pins σ H s) (ok : src.ok X.K H) (hit : it ∉ src.fpo) (st : src.iter it i s.heap) :
    ∃ (P : Nat → Value → Prop) (St : Nat → Heap → Prop), Draws X.prog X.w A it (it :: src.fpo) src.xs.length P St ∧ St i s.heap ∧ (∀ j v, P j v → ∃ x, src.xs[j]? = some x ∧ RelV x v) ∧ ∀ j h, St j h → src.iter it j h := by
  cases src with
  | lst a xs =>
    obtain ⟨its, rv, p, _⟩ := I.list ok
    have hl := rv.length
    have D := Draws.list (prog := X.prog) (w := X.w) hh it a (fun z => hit (by simp [Src.fpo, z])) its.toArray
    refine ⟨fun i v => its.toArray[i]? = some v, fun i h => h.IsListIter it a i ∧ h.IsList a its.toArray, ?_, ⟨st, p.isList⟩, fun j v hv => vals_getU rv (by simpa using hv), fun j h z => z.1⟩
    have e : (Src.lst a xs).xs.length = its.toArray.size := by
      show xs.length = _
      simp [hl]
    rw [e]
    exact D
  | tup a xs =>
    obtain ⟨its, rv, p, _⟩ := I.tuple ok
    have hl := rv.length
    have D := Draws.tuple (prog := X.prog) (w := X.w) hh it a (fun z => hit (by simp [Src.fpo, z])) its.toArray
    refine ⟨fun i v => its.toArray[i]? = some v, fun i h => h.IsTupleIter it a i ∧ h.IsTuple a its.toArray, ?_, ⟨st, show s.heap.IsTuple a its.toArray from p⟩, fun j v hv => vals_getU rv (by simpa using hv), fun j h z => z.1⟩
    have e : (Src.tup a xs).xs.length = its.toArray.size := by
      show xs.length = _
      simp [hl]
    rw [e]
    exact D
  | txt z =>
    obtain ⟨t, st⟩ := st
    have D := Draws.text (prog := X.prog) (w := X.w) hh it z t
    refine ⟨fun i v => ∃ c u, z.cps[i]? = some c ∧ v = Value.str ⟨#[c]⟩ u, fun i h => h.IsStrIter it (strIterType z) z t i, ?_, st, fun j v hv => ?_, fun j h z => ⟨t, z⟩⟩
    · have e : (Src.txt z).xs.length = z.cps.size := by simp [Src.xs]
      rw [e]
      exact D
    · obtain ⟨c, u, e, rfl⟩ := hv
      exact ⟨.str ⟨#[c]⟩, by simp [Src.xs, e], ⟨u, rfl⟩⟩
/-- how an iterator over src begins -/
theorem Src.begin_ {src : Src} {u : Value} (I : Inv X pins σ H s) (ok : src.ok X.K H) (r : RelV src.v u) : ∃ (o : Obj) (Hh : Heap → Prop), Begins u o Hh ∧ Hh s.heap ∧ (∀ (it : Addr) (h : Heap), h.get? it = some o → src.iter it 0 h) ∧ ∀ b ∈ src.fpo, b < s.heap.objs.size := by
  cases src with
  | lst a xs =>
    obtain ⟨its, rv, p, _⟩ := I.list ok
    obtain rfl : u = .ref a := r
    refine ⟨_, _, begins_list a its.toArray, p.isList, fun it h e => ⟨_, e, rfl, rfl⟩, fun b hb => ?_⟩
    obtain rfl : b = a := by simpa [Src.fpo] using hb
    exact p.lt
  | tup a xs =>
    obtain ⟨its, rv, p, _⟩ := I.tuple ok
    obtain rfl : u = .ref a := r
    refine ⟨_, _, begins_tuple a its.toArray, show s.heap.IsTuple a its.toArray from p, fun it h e => ⟨_, e, rfl, rfl⟩, fun b hb => ?_⟩
    obtain rfl : b = a := by simpa [Src.fpo] using hb
    exact p.lt
  | txt z =>
    obtain ⟨t, rfl⟩ := (show ∃ t, u = Value.str z t from r)
    exact ⟨_, _, begins_text z t, trivial, fun it h e => ⟨t, _, e, rfl, rfl⟩, fun b hb => by simp [Src.fpo] at hb⟩
/-- two things walked side by side -/
def Izs (K : Fr) (s1 s2 : Src) : It :=
  ⟨fun i H => s1.ok K H ∧ s2.ok K H ∧ i < min s1.xs.length s2.xs.length, fun i H v H' => ∃ T x y, v = .ref T ∧ H T = none ∧ H' = upd H T (.tup [x, y]) ∧ s1.xs[i]? = some x ∧ s2.xs[i]? = some y,
    fun i H => s1.ok K H ∧ s2.ok K H ∧ i = min s1.xs.length s2.xs.length⟩
theorem two_tup {P : Program} {w : World} {h' : Heap} {T : Addr} {x y : V} {u u2 : Value} (r1 : RelV x u) (r2 : RelV y u2) (hT : h'.IsTuple T #[u, u2]) : ObjOk P w (upd H T (.tup [x, y])) h' T (.tup [x, y]) :=
  ⟨by show 2 ≤ sizeLine; decide, [u, u2], .cons r1 (.cons r2 .nil), hT⟩
theorem turn_zs {P : Program} {w : World} {K : Fr} {elts : List Expr} {kk : Nat} {tpos : Pos} {s1 s2 : Src} {z TI TO i1 i2 : Addr} (S : ZipSep2 z TI TO i1 i2 (i1 :: s1.fpo) (i2 :: s2.fpo)) (n1 : i1 ∉ s1.fpo) (n2 : i2 ∉ s2.fpo) :
    Turn P w K (.Tuple elts kk tpos) (Izs K s1 s2) [z, TI, TO, i1, i2] z (fun i h => IsZip h z TI TO .none ∧ IsTupOf2 h TI (.ref i1) (.ref i2) ∧ (∃ a1 a2, IsTupOf2 h TO a1 a2) ∧ s1.iter i1 i h ∧ s2.iter i2 i h) where
  mem := List.mem_cons_self ..
  obj := fun i h st c hc => by
    obtain ⟨hz, hTI, ⟨x, y, hTO⟩, h1, h2⟩ := st
    simp only [List.mem_cons, List.not_mem_nil, or_false] at hc
    rcases hc with rfl | rfl | rfl | rfl | rfl
    · exact ⟨_, hz, fun v q => by cases q⟩
    · exact ⟨_, hTI, fun v q => by cases q⟩
    · exact ⟨_, hTO, fun v q => by cases q⟩
    · exact Src.iter_obj h1
    · exact Src.iter_obj h2
  keep := fun i h h' st k => by
    obtain ⟨hz, hTI, ⟨x, y, hTO⟩, h1, h2⟩ := st
    exact ⟨k z (by simp) _ hz, k TI (by simp) _ hTI, ⟨x, y, k TO (by simp) _ hTO⟩, Src.iter_keep h1 (k i1 (by simp)), Src.iter_keep h2 (k i2 (by simp))⟩
  item := by
    intro X hP hw hK hc i pins s σ H E I hf st hg
    subst hP hw hK
    obtain ⟨hz, hTI, hTO, h1, h2⟩ := st
    obtain ⟨o1, o2, hi⟩ := hg
    have hh : X.A.in1.handled = none := I.ok.hd hc
    obtain ⟨P1, St1, D1, st1, p1, q1⟩ := Src.draws hh I o1 n1 h1
    obtain ⟨P2, St2, D2, st2, p2, q2⟩ := Src.draws hh I o2 n2 h2
    refine (GoesN.zip2 S D1 D2).goes i s _ E hi ⟨hz, hTI, hTO, st1, st2⟩ fun v h' tk hY st' fr _ => ?_
    obtain ⟨T, u, u2, rfl, hT, hu, hu2, ht⟩ := hY
    obtain ⟨x, ex, rx⟩ := p1 i u hu
    obtain ⟨y, ey, ry⟩ := p2 i u2 hu2
    obtain ⟨hz', hTI', hTO', st1', st2'⟩ := st'
    have J := I.turnedNew (t' := tk) (ch := [z, TI, TO, i1, i2]) (h' := h') (fun b o hb e => fr b o (fun m => hb (by simp only [List.mem_cons, List.not_mem_nil, or_false] at m ⊢; rcases m with m | m | m | m <;> simp [m])) e) hf hT (two_tup (H := H) (P := X.prog) (w := X.w) rx ry ht)
    refine ⟨.ref T, _, J, rfl, ⟨T, x, y, rfl, I.hok.fresh hT, rfl, ex, ey⟩, ⟨hz', hTI', hTO', q1 _ _ st1', q2 _ _ st2'⟩, fun b hb => ?_⟩
    rw [upd_ne]
    · exact (hf b hb).1
    · rintro rfl
      have : ∃ o, s.heap.get? b = some o := by
        obtain ⟨a1, a2, hTO⟩ := hTO
        simp only [List.mem_cons, List.not_mem_nil, or_false] at hb
        rcases hb with rfl | rfl | rfl | rfl | rfl
        · exact ⟨_, hz⟩
        · exact ⟨_, hTI⟩
        · exact ⟨_, hTO⟩
        · obtain ⟨o, e, _⟩ := Src.iter_obj h1; exact ⟨o, e⟩
        · obtain ⟨o, e, _⟩ := Src.iter_obj h2; exact ⟨o, e⟩
      obtain ⟨o, e⟩ := this
      exact absurd (Heap.lt_size e) (Nat.not_lt_of_le hT)
  done := by
    intro X hP hw hK hc i pins s σ H E I hf st hg
    subst hP hw hK
    obtain ⟨hz, hTI, hTO, h1, h2⟩ := st
    obtain ⟨o1, o2, hi⟩ := hg
    have hh : X.A.in1.handled = none := I.ok.hd hc
    obtain ⟨P1, St1, D1, st1, p1, q1⟩ := Src.draws hh I o1 n1 h1
    obtain ⟨P2, St2, D2, st2, p2, q2⟩ := Src.draws hh I o2 n2 h2
    subst hi
    refine (GoesN.zip2 S D1 D2 (elts := elts) (x1 := kk) (pos := tpos)).stops s _ E ⟨hz, hTI, hTO, st1, st2⟩ fun h' tk fr _ => ?_
    exact I.turnedL (t' := tk) (ch := [z, TI, TO, i1, i2]) (fun b o hb e => fr b o (fun m => hb (by simp only [List.mem_cons, List.not_mem_nil, or_false] at m ⊢; rcases m with m | m | m | m <;> simp [m])) e) hf
  self := fun A i s Q E st h => wpAny_pyIter_zip st.1 h
def iZs (K : Fr) (ta : TA) : TI := fun σ H R => ta σ H fun vs H1 => ∃ s1 s2 : Src, vs = [s1.v, s2.v] ∧ s1.ok K H1 ∧ s2.ok K H1 ∧ R (Izs K s1 s2) H1
theorem pi_zs {e e2 : Expr} {ta : TA} {p pos tpos : Pos} {elts : List Expr} {kk : Nat} (hg : Gl X "zip") (hm : X.mg "zip" = none) (ha : PA X [e, e2] ta) (hs : starEach [e, e2] X.env = (false, eval e X.env) :: starEach [e2] X.env) (hpl : (backTo pos (starEach [e2] X.env)).any (·.1) = false) :
    PI X (.Tuple elts kk tpos) (.Call (.Name "zip" p) [e, e2] [] pos) (iZs X.K ta) := by
  constructor
  intro pins s σ H R I h
  refine Call_ (ld_blt I hg hm PyProof.Rows.boot_zip (PyProof.Rows.callWith_type1 (thn (ha.run pos pins s σ H _ I h) ?_) hs hpl))
  rintro us s1 ⟨vs, H1, I1, r1, a, b, rfl, oa, ob, q⟩
  cases r1 with
  | cons ra rr =>
    cases rr with
    | cons rb rr =>
      cases rr
      obtain ⟨o1, Hh1, B1, g1, it1, l1⟩ := Src.begin_ I1 oa ra
      obtain ⟨o2, Hh2, B2, g2, it2, l2⟩ := Src.begin_ I1 ob rb
      refine zip_begins2 B1 B2 g1 g2 fun h' hz hTI hTO e1 e2 _ hk => wpAny_pyIter_zip hz ?_
      have I2 : Inv X pins σ H1 { s1 with heap := h' } := I1.kept (t' := s1.toks) hk
      refine ⟨_, _, _, _, H1, rfl, I2, turn_zs (zip_sep2 l1 l2) (fun m => absurd (l1 _ m) (Nat.lt_irrefl _)) (fun m => absurd (l2 _ m) (Nat.not_lt_of_le (Nat.le_succ _))), ⟨hz, hTI, ⟨_, _, hTO⟩, it1 _ _ e1, it2 _ _ e2⟩, fun c hc => ?_, q⟩
      have hle : s1.heap.objs.size ≤ c := by
        simp only [List.mem_cons, List.not_mem_nil, or_false] at hc
        rcases hc with rfl | rfl | rfl | rfl | rfl <;> first | exact Nat.le_add_right _ _ | exact Nat.le_refl _
      exact I1.fpOk hle (I1.hok.fresh hle)
/-! enumerate -/
theorem meets_enumB {v : Value} {o : Obj} {Hh : Heap → Prop} (B : Begins v o Hh) : Meets (Builtin.«enumerate.__new__» ⟨[.type "enumerate", v], []⟩) (fun _ R s => Hh s.heap ∧
      R (.ok (.ret (.ref (s.heap.push o).objs.size))) { s with heap := (s.heap.push o).push { cls := .type "enumerate", data := .fields #[.none, .bool false, .ref s.heap.objs.size, rawInt 0, .none, .none] } }) :=
  .of_wp fun prog w A R s h => by
    obtain ⟨hp, g, d, tk, os⟩ := s
    obtain ⟨h1, h⟩ := h
    have hsub := sub_enumerate
    have qi : ∀ {A' : Around} {E : Value → Shared → Prop} {Q : Value → Shared → Prop}, Q (.ref hp.objs.size) ⟨hp.push o, g, d, tk, os⟩ → wpAny (model prog w) A' (pyIter v) Q E ⟨hp, g, d, tk, os⟩ := fun q => B.iter prog w _ _ ⟨hp, g, d, tk, os⟩ _ h1 q
    wp_walk using qi
    refine wpAny_stack_any fun st => wpAny_pure ?_
    split
    · rename_i c _ _ _ _ _
      cases (c == Value.type "enumerate")
      all_goals
        wp_walk using qi
        exact ⟨_, rfl, h⟩
    · wp_walk using qi
      exact ⟨_, rfl, h⟩
theorem enum_beginsB {prog : Program} {w : World} {A : Around} {E : Value → Shared → Prop} {s : Shared} {v : Value} {o : Obj} {Hh : Heap → Prop} {Q : Value → Shared → Prop} (B : Begins v o Hh) (h1 : Hh s.heap)
    (h : ∀ h', IsEnum h' (s.heap.objs.size + 1) s.heap.objs.size 0 .none → h'.get? s.heap.objs.size = some o → (∀ b o, s.heap.get? b = some o → h'.get? b = some o) → Q (.ref (s.heap.objs.size + 1)) { s with heap := h' }) :
    wpAny (model prog w) A (call (.type "enumerate") [v]) Q E s := by
  refine callType_new F.called_enumerate (by decide) (F.typeCall_enumerate_1 _) (F.newCall_enumerate_1 _) (fun obj => F.args_object_init_2 obj _) F.entry_enumerate_new (meets_enumB B) ⟨h1, ?_⟩
  have hz : (s.heap.push o).objs.size = s.heap.objs.size + 1 := Heap.size_push ..
  show _ ∧ _
  rw [hz]
  have he := Heap.get?_push_size (s.heap.push o) (o := { cls := .type "enumerate", data := .fields #[.none, .bool false, .ref s.heap.objs.size, rawInt 0, .none, .none] }) rfl
  rw [hz] at he
  exact ⟨⟨_, he, rfl⟩, h _ he (Heap.get?_push_of_some _ (Heap.get?_push_size _ B.free)) fun b o x => Heap.get?_push_of_some _ (Heap.get?_push_of_some _ x)⟩
/-- a thing walked with its numbers -/
def Ien (K : Fr) (src : Src) : It :=
  ⟨fun i H => src.ok K H ∧ i < src.xs.length, fun i H v H' => ∃ T x, v = .ref T ∧ H T = none ∧ H' = upd H T (.tup [.int (i : Nat), x]) ∧ src.xs[i]? = some x, fun i H => src.ok K H ∧ i = src.xs.length⟩
theorem turn_en {P : Program} {w : World} {K : Fr} {elts : List Expr} {kk : Nat} {tpos : Pos} {src : Src} {e it : Addr} (n1 : it ∉ src.fpo) (ne : e ≠ it) (n2 : e ∉ src.fpo) :
    Turn P w K (.Tuple elts kk tpos) (Ien K src) [e, it] e (fun i h => (∃ old, IsEnum h e it (0 + (i : Int)) old) ∧ src.iter it i h) where
  mem := List.mem_cons_self ..
  obj := fun i h st c hc => by
    obtain ⟨⟨old, he⟩, h1⟩ := st
    simp only [List.mem_cons, List.not_mem_nil, or_false] at hc
    rcases hc with rfl | rfl
    · exact ⟨_, he, fun v q => by cases q⟩
    · exact Src.iter_obj h1
  keep := fun i h h' st k => by
    obtain ⟨⟨old, he⟩, h1⟩ := st
    exact ⟨⟨old, k e (by simp) _ he⟩, Src.iter_keep h1 (k it (by simp))⟩
  item := by
    intro X hP hw hK hc i pins s σ H E I hf st hg
    subst hP hw hK
    obtain ⟨he, h1⟩ := st
    obtain ⟨o1, hi⟩ := hg
    have hh : X.A.in1.handled = none := I.ok.hd hc
    obtain ⟨P1, St1, D1, st1, p1, q1⟩ := Src.draws hh I o1 n1 h1
    refine (GoesN.enumFrom 0 D1 e ne (fun m => by rcases List.mem_cons.mp m with m | m; exact ne m; exact n2 m) (List.mem_cons_self ..)).goes i s _ E hi ⟨he, st1⟩ fun v h' tk hY st' fr _ => ?_
    obtain ⟨T, t, u, rfl, hT, hu, ht⟩ := hY
    obtain ⟨x, ex, rx⟩ := p1 i u hu
    obtain ⟨he', st1'⟩ := st'
    rw [Int.zero_add] at ht
    have J := I.turnedNew (t' := tk) (ch := [e, it]) (h' := h') (fun b o hb z => fr b o hb z) hf hT (two_tup (H := H) (P := X.prog) (w := X.w) (x := .int (i : Nat)) ⟨_, rfl⟩ rx ht)
    refine ⟨.ref T, _, J, rfl, ⟨T, x, rfl, I.hok.fresh hT, rfl, ex⟩, ⟨he', q1 _ _ st1'⟩, fun b hb => ?_⟩
    rw [upd_ne]
    · exact (hf b hb).1
    · rintro rfl
      have : ∃ o, s.heap.get? b = some o := by
        obtain ⟨old, he⟩ := he
        simp only [List.mem_cons, List.not_mem_nil, or_false] at hb
        rcases hb with rfl | rfl
        · exact ⟨_, he⟩
        · obtain ⟨o, e, _⟩ := Src.iter_obj h1; exact ⟨o, e⟩
      obtain ⟨o, e⟩ := this
      exact absurd (Heap.lt_size e) (Nat.not_lt_of_le hT)
  done := by
    intro X hP hw hK hc i pins s σ H E I hf st hg
    subst hP hw hK
    obtain ⟨he, h1⟩ := st
    obtain ⟨o1, hi⟩ := hg
    have hh : X.A.in1.handled = none := I.ok.hd hc
    obtain ⟨P1, St1, D1, st1, p1, q1⟩ := Src.draws hh I o1 n1 h1
    subst hi
    refine (GoesN.enumFrom 0 D1 e ne (fun m => by rcases List.mem_cons.mp m with m | m; exact ne m; exact n2 m) (List.mem_cons_self ..) (elts := elts) (x1 := kk) (pos := tpos)).stops s _ E ⟨he, st1⟩ fun h' tk fr _ => ?_
    exact I.turnedL (t' := tk) (ch := [e, it]) (fun b o hb z => fr b o hb z) hf
  self := fun A i s Q E st h => by
    obtain ⟨⟨old, he⟩, _⟩ := st
    exact wpAny_pyIter_enum he h
def iEn (K : Fr) (ta : TA) : TI := fun σ H R => ta σ H fun vs H1 => ∃ s1 : Src, vs = [s1.v] ∧ s1.ok K H1 ∧ R (Ien K s1) H1
theorem pi_en {e : Expr} {ta : TA} {p pos tpos : Pos} {elts : List Expr} {kk : Nat} (hg : Gl X "enumerate") (hm : X.mg "enumerate" = none) (ha : PA X [e] ta) (hs : starEach [e] X.env = [(false, eval e X.env)]) :
    PI X (.Tuple elts kk tpos) (.Call (.Name "enumerate" p) [e] [] pos) (iEn X.K ta) := by
  constructor
  intro pins s σ H R I h
  refine Call_ (ld_blt I hg hm boot_enumerate (PyProof.Rows.callWith_type1 (thn (ha.run pos pins s σ H _ I h) ?_) hs rfl))
  rintro us s1 ⟨vs, H1, I1, r1, a, rfl, oa, q⟩
  cases r1 with
  | cons ra rr =>
    cases rr
    obtain ⟨o1, Hh1, B1, g1, it1, l1⟩ := Src.begin_ I1 oa ra
    refine enum_beginsB B1 g1 fun h' he e1 hk => wpAny_pyIter_enum he ?_
    have I2 : Inv X pins σ H1 { s1 with heap := h' } := I1.kept (t' := s1.toks) hk
    refine ⟨_, _, _, _, H1, rfl, I2, turn_en (fun m => absurd (l1 _ m) (Nat.lt_irrefl _)) (Nat.succ_ne_self _) (fun m => absurd (l1 _ m) (Nat.not_lt_of_le (Nat.le_succ _))), ⟨⟨.none, he⟩, it1 _ _ e1⟩, fun c hc => ?_, q⟩
    have hle : s1.heap.objs.size ≤ c := by
      simp only [List.mem_cons, List.not_mem_nil, or_false] at hc
      rcases hc with rfl | rfl <;> first | exact Nat.le_add_right _ _ | exact Nat.le_refl _
    exact I1.fpOk hle (I1.hok.fresh hle)
end
end U

set_option Elab.async false
set_option linter.all false
set_option maxRecDepth 100000
set_option maxHeartbeats 2000000
namespace U
open PySem L2
def itD : D → Option (List D)
  | .tup ds => some ds
  | .lst ds => some ds
  | .kls ds => some ds
  | .str z => some (signs z)
  | _ => none
section
variable {K : Fr} {q : Nat → Addr} {n : Nat} {H : Hp}
theorem src_of {v : V} {d : D} {ds : List D} (h : itD d = some ds) (r : Dt K q n H v d) : ∃ src : Src, v = src.v ∧ (∀ q2 n2 H2, Ge q n H q2 n2 H2 → src.ok K H2) ∧ Dts K q n H src.xs ds := by
  cases r with
  | tup s rs => cases h; exact ⟨.tup _ _, rfl, fun q2 n2 H2 g => g.sqT s, rs⟩
  | lst s rs => cases h; exact ⟨.lst _ _, rfl, fun q2 n2 H2 g => (g.fzl (.inl ⟨_, s⟩)).sq, rs⟩
  | kls s rs => cases h; exact ⟨.lst _ _, rfl, fun q2 n2 H2 g => (g.fzl s).sq, rs⟩
  | str z =>
    cases h
    refine ⟨.txt z, rfl, fun _ _ _ _ => trivial, ?_⟩
    show Dts K q n H (z.cps.toList.map fun c => V.str ⟨#[c]⟩) (z.cps.toList.map fun c => D.str ⟨#[c]⟩)
    generalize z.cps.toList = l
    induction l with
    | nil => exact .nil
    | cons c l ih => exact .cons (.str _) ih
  | _ => cases h
def zipD (xs ys : List D) : List D := match xs, ys with
  | x :: xs, y :: ys => .tup [x, y] :: zipD xs ys
  | _, _ => []
theorem zipD_get : ∀ {xs ys : List D} {i : Nat} {d : D}, (zipD xs ys)[i]? = some d → ∃ x y, xs[i]? = some x ∧ ys[i]? = some y ∧ d = .tup [x, y]
  | [], _, _, _, h => by simp [zipD] at h
  | _ :: _, [], _, _, h => by simp [zipD] at h
  | x :: xs, y :: ys, 0, d, h => by simp [zipD] at h; exact ⟨x, y, rfl, rfl, h.symm⟩
  | x :: xs, y :: ys, i + 1, d, h => by
    obtain ⟨a, b, h1, h2, h3⟩ := zipD_get (xs := xs) (ys := ys) (i := i) (d := d) (by simpa [zipD] using h)
    exact ⟨a, b, by simpa using h1, by simpa using h2, h3⟩
theorem zipD_len : ∀ {xs ys : List D}, (zipD xs ys).length = min xs.length ys.length
  | [], _ => by simp [zipD]
  | _ :: _, [] => by simp [zipD]
  | x :: xs, y :: ys => by
    simp only [zipD, List.length_cons, zipD_len (xs := xs) (ys := ys)]
    omega
theorem wk_zs {s1 s2 : Src} {xs ys : List D} (o1 : ∀ q2 n2 H2, Ge q n H q2 n2 H2 → s1.ok K H2) (o2 : ∀ q2 n2 H2, Ge q n H q2 n2 H2 → s2.ok K H2) (r1 : Dts K q n H s1.xs xs) (r2 : Dts K q n H s2.xs ys) : Wk K q n H (Izs K s1 s2) (zipD xs ys) := by
  intro q2 n2 H2 g i
  have l1 := r1.length
  have l2 := r2.length
  refine ⟨fun d e => ?_, fun e => ⟨o1 _ _ _ g, o2 _ _ _ g, by rw [e, zipD_len, l1, l2]⟩⟩
  obtain ⟨x, y, e1, e2, rfl⟩ := zipD_get e
  have hi1 := (List.getElem?_eq_some_iff.mp e1).1
  have hi2 := (List.getElem?_eq_some_iff.mp e2).1
  refine ⟨⟨o1 _ _ _ g, o2 _ _ _ g, by omega⟩, fun v H3 yl => ?_⟩
  obtain ⟨T, u, u2, rfl, hT, rfl, eu, eu2⟩ := yl
  obtain ⟨w1, f1, d1⟩ := r1.get e1
  obtain ⟨w2, f2, d2⟩ := r2.get e2
  rw [eu] at f1
  rw [eu2] at f2
  cases f1
  cases f2
  have gn : Gr q2 n2 H2 q2 n2 (upd H2 T (.tup [u, u2])) := Gr.new hT
  exact ⟨gn, fun S hS w => w.new hT, .tup (.inl (.inl upd_same)) (.cons (d1.mono (g.trans gn.ge)) (.cons (d2.mono (g.trans gn.ge)) .nil))⟩
def enD (k : Nat) : List D → List D
  | [] => []
  | d :: ds => .tup [.int k, d] :: enD (k + 1) ds
theorem enD_get : ∀ {xs : List D} {k i : Nat} {d : D}, (enD k xs)[i]? = some d → ∃ x, xs[i]? = some x ∧ d = .tup [.int ((k + i : Nat) : Int), x]
  | [], _, _, _, h => by simp [enD] at h
  | x :: xs, k, 0, d, h => by simp [enD] at h; exact ⟨x, rfl, by rw [Nat.add_zero]; exact h.symm⟩
  | x :: xs, k, i + 1, d, h => by
    obtain ⟨a, h1, h2⟩ := enD_get (xs := xs) (k := k + 1) (i := i) (d := d) (by simpa [enD] using h)
    exact ⟨a, by simpa using h1, by rw [h2, show k + 1 + i = k + (i + 1) by omega]⟩
theorem enD_len : ∀ {xs : List D} {k : Nat}, (enD k xs).length = xs.length
  | [], _ => rfl
  | x :: xs, k => by simp [enD, enD_len]
theorem wk_en {s1 : Src} {xs : List D} (o1 : ∀ q2 n2 H2, Ge q n H q2 n2 H2 → s1.ok K H2) (r1 : Dts K q n H s1.xs xs) : Wk K q n H (Ien K s1) (enD 0 xs) := by
  intro q2 n2 H2 g i
  have l1 := r1.length
  refine ⟨fun d e => ?_, fun e => ⟨o1 _ _ _ g, by rw [e, enD_len, l1]⟩⟩
  obtain ⟨x, e1, rfl⟩ := enD_get e
  have hi1 := (List.getElem?_eq_some_iff.mp e1).1
  refine ⟨⟨o1 _ _ _ g, by omega⟩, fun v H3 yl => ?_⟩
  obtain ⟨T, u, rfl, hT, rfl, eu⟩ := yl
  obtain ⟨w1, f1, d1⟩ := r1.get e1
  rw [eu] at f1
  cases f1
  have gn : Gr q2 n2 H2 q2 n2 (upd H2 T (.tup [.int (i : Nat), u])) := Gr.new hT
  rw [Nat.zero_add]
  exact ⟨gn, fun S hS w => w.new hT, .tup (.inl (.inl upd_same)) (.cons (.int _) (.cons (d1.mono (g.trans gn.ge)) .nil))⟩
end
def zipF (xs : List D) (S : ST) : Option (Rs (List D) × ST) := match xs with
  | [x, y] => match itD x, itD y with
    | some a, some b => some (.ok (zipD a b), S)
    | _, _ => none
  | _ => none
def enumF (xs : List D) (S : ST) : Option (Rs (List D) × ST) := match xs with
  | [x] => match itD x with
    | some a => some (.ok (enD 0 a), S)
    | _ => none
  | _ => none
section
variable {X : Cx} {cl : Cl} {E : XK} {a b : Expr} {elts : List Expr} {kk : Nat} {tpos pos p : Pos} {mr : AM}
theorem ei_zip (ha : EA X cl E [a, b] mr) (hg : Gl X "zip") (hm : X.mg "zip" = none) (hs : starEach [a, b] X.env = (false, eval a X.env) :: starEach [b] X.env := by rfl) (hpl : (backTo pos (starEach [b] X.env)).any (·.1) = false := by rfl) : EI X cl E (.Tuple elts kk tpos) (.Call (.Name "zip" p) [a, b] [] pos) (iCall zipF mr) := by
  obtain ⟨ta, pa, ea⟩ := ha
  refine ⟨_, pi_zs hg hm pa hs hpl, fun g S z S' h q s H R w sl po => ?_⟩
  rcases bd_inv h with ⟨xs, S1, h1, h⟩ | ⟨c, fs, h1, rfl⟩
  · refine ea g S _ S1 h1 q s H _ w sl fun q1 H1 vs g1 w1 d1 => ?_
    unfold zipF at h
    split at h
    · split at h
      · rename_i e1 e2
        cases h
        cases d1 with
        | cons r1 rs =>
          cases rs with
          | cons r2 rs =>
            cases rs
            obtain ⟨s1, rfl, o1, t1⟩ := src_of e1 r1
            obtain ⟨s2, rfl, o2, t2⟩ := src_of e2 r2
            exact ⟨s1, s2, rfl, o1 _ _ _ .refl, o2 _ _ _ .refl, po q1 H1 _ g1 w1 (wk_zs o1 o2 t1 t2)⟩
      · cases h
    · cases h
  · exact ea g S _ S' h1 q s H _ w sl po
theorem ei_enum (ha : EA X cl E [a] mr) (hg : Gl X "enumerate") (hm : X.mg "enumerate" = none) (hs : starEach [a] X.env = [(false, eval a X.env)] := by rfl) : EI X cl E (.Tuple elts kk tpos) (.Call (.Name "enumerate" p) [a] [] pos) (iCall enumF mr) := by
  obtain ⟨ta, pa, ea⟩ := ha
  refine ⟨_, pi_en hg hm pa hs, fun g S z S' h q s H R w sl po => ?_⟩
  rcases bd_inv h with ⟨xs, S1, h1, h⟩ | ⟨c, fs, h1, rfl⟩
  · refine ea g S _ S1 h1 q s H _ w sl fun q1 H1 vs g1 w1 d1 => ?_
    unfold enumF at h
    split at h
    · split at h
      · rename_i e1
        cases h
        cases d1 with
        | cons r1 rs =>
          cases rs
          obtain ⟨s1, rfl, o1, t1⟩ := src_of e1 r1
          exact ⟨s1, rfl, o1 _ _ _ .refl, po q1 H1 _ g1 w1 (wk_en o1 t1)⟩
      · cases h
    · cases h
  · exact ea g S _ S' h1 q s H _ w sl po
end
end U

set_option Elab.async false
set_option linter.all false
set_option maxRecDepth 100000
set_option maxHeartbeats 2000000
namespace U
open PySem L2
/-! ### targets (a, b, ..), one in another -/
abbrev GsM := List D → EV → ST → Option (EV × ST)
structure EGs (X : Cx) (ts : List Expr) (ix : List Nat) (n : Nat) (f : GsM) : Prop where
  len : ∀ ds g S g' S', f ds g S = some (g', S') → ds.length = n
  ex : ∃ tt, PGs X ts tt ∧ ∀ ds g S g' S', f ds g S = some (g', S') → ∀ q s H vs Q, Wd X.K q S H → Sl X.K q S.length H s g → Dts X.K q S.length H vs ds →
    (∀ q' H' s', Gr q S.length H q' S'.length H' → Wd X.K q' S' H' → Sl X.K q' S'.length H' s' g' → But ix s s' → Q s' H') → tt vs s H Q
def gsNil : GsM := fun ds g S => match ds with
  | [] => some (g, S)
  | _ => none
def gsCons (t : GM) (u : GsM) : GsM := fun ds g S => match ds with
  | d :: ds => match t d g S with
    | some (g1, S1) => u ds g1 S1
    | none => none
  | [] => none
def gTup (u : GsM) : GM := fun d g S => match d with
  | .tup ds => u ds g S
  | _ => none
section
variable {X : Cx} {t : Expr} {ts : List Expr} {pos : Pos} {k n : Nat} {ix jx : List Nat} {f : GM} {u : GsM}
theorem egs_nil : EGs X [] [] 0 gsNil := by
  refine ⟨fun ds g S g' S' h => ?_, _, pgs_nil, fun ds g S g' S' h q s H vs Q w sl hd kk => ?_⟩
  · unfold gsNil at h
    split at h
    · rfl
    · cases h
  · cases hd with
    | nil =>
      cases h
      exact ⟨rfl, kk q H s Gr.refl w sl ⟨rfl, fun _ _ => rfl⟩⟩
    | cons _ _ => cases h
theorem egs_cons (h1 : EG X t ix f) (h2 : EGs X ts jx n u) (hs : (assignEach (t :: ts) X.env).map (·.2) = assign t X.env :: (assignEach ts X.env).map (·.2) := by rfl) : EGs X (t :: ts) (ix ++ jx) (n + 1) (gsCons f u) := by
  obtain ⟨t1, p1, e1⟩ := h1
  obtain ⟨len, t2, p2, e2⟩ := h2
  refine ⟨fun ds g S g' S' h => ?_, _, pgs_cons p1 p2 hs, fun ds g S g' S' h q s H vs Q w sl hd kk => ?_⟩
  · unfold gsCons at h
    split at h
    · split at h
      · rw [List.length_cons, len _ _ _ _ _ h]
      · cases h
    · cases h
  · cases hd with
    | nil => cases h
    | @cons v d vs ds r rs =>
      simp only [gsCons] at h
      split at h
      · rename_i g1 S1 h1
        refine ⟨v, vs, rfl, ?_⟩
        refine e1 d g S g1 S1 h1 q s H v _ w sl r fun q1 H1 s1 gr w1 sl1 b1 => ?_
        refine e2 ds g1 S1 g' S' h q1 s1 H1 vs Q w1 sl1 (rs.mono gr.ge) fun q2 H2 s2 gr2 w2 sl2 b2 => kk q2 H2 s2 (gr.trans gr2) w2 sl2 ⟨b2.1.trans b1.1, fun j hj => ?_⟩
        rw [List.mem_append, not_or] at hj
        rw [b2.2 j hj.2, b1.2 j hj.1]
      · cases h
theorem eg_tup (hc : X.calm = true) (h : EGs X ts ix n u) (hn : (assignEach ts X.env).length = n := by rfl) (hst : (assignEach ts X.env).findIdx? (·.1) = none := by rfl) : EG X (.Tuple ts k pos) ix (gTup u) := by
  obtain ⟨len, t1, p1, e1⟩ := h
  refine ⟨_, pg_tup hc p1 hn hst, fun d g S g' S' h q s H v Q w sl hd kk => ?_⟩
  unfold gTup at h
  split at h
  · obtain ⟨a, vs, rfl, sq, r⟩ := hd.tup_inv
    exact ⟨a, vs, rfl, sq, by rw [r.length]; exact len _ _ _ _ _ h, e1 _ g S g' S' h q s H vs Q w sl r kk⟩
  · cases h
end
/-! ### defs as values, called by a local name -/
section
open PySem.Spec PyProof.Rows
variable {X : Cx} {cl : Cl} {E : XK} {e : Expr} {es : List Expr} {pos p : Pos} {mr : AM} {x : Str} {j n : Nat}
theorem ee_fn (hm : X.mg x = some (.ref (He.ga X.K x))) (hg : Gl X x := by rfl) (hdb : (x == ("__debug__" : Str)) = false := by decide) : EE X cl E (.Name x pos) (eC (.fn x)) := ee_glob (v := .ref (He.ga X.K x)) hg hm rfl (fun _ _ _ => .fn) hdb
def fnT (tbl : List (Str × DM)) (x : Str) : Option DM := match tbl with
  | [] => none
  | p :: r => if p.1 = x then some p.2 else fnT r x
theorem fnT_mem {x : Str} {d : DM} : ∀ {tbl : List (Str × DM)}, fnT tbl x = some d → (x, d) ∈ tbl
  | [], h => by cases h
  | p :: r, h => by
    unfold fnT at h
    split at h
    · rename_i e
      cases h
      subst e
      exact List.mem_cons_self ..
    · exact List.mem_cons_of_mem _ (fnT_mem h)
/-- each def of the table keeps its mirror, of n things, at its own address -/
def OkT (P : Program) (w : World) (K : Fr) (mg : Str → Option Value) (base : Heap) (cl : Cl) (j n : Nat) (tbl : List (Str × DM)) : Prop :=
  ∀ p ∈ tbl, ∃ fd ps, ps.length = n ∧ OkA P w K mg base cl p.1 j ps p.2 (He.ga K p.1) fd
theorem okt_nil {P : Program} {w : World} {K : Fr} {mg : Str → Option Value} {base : Heap} : OkT P w K mg base cl j n [] := fun p h => by cases h
theorem FnG.up {P : Program} {w : World} {K : Fr} {mg : Str → Option Value} {base : Heap} {CX : CXT} {i : Nat} {f : Addr} {fd : FuncData} {ps : List Str} {sp : Sp} (F : FnG P w K mg base CX i f fd ps sp) (h : i ≤ j) : FnG P w K mg base CX j f fd ps sp :=
  ⟨F.len, fun A outer s H args us vs Q E hr => F.run A outer s H args us vs Q E (hr.mono h)⟩
theorem okt_cons {P : Program} {w : World} {K : Fr} {mg : Str → Option Value} {base : Heap} {i : Nat} {ps : List Str} {d : DM} {fd : FuncData} {f : Addr} {tbl : List (Str × DM)} (h : OkA P w K mg base cl x i ps d f fd) (hf : mg x = some (.ref (He.ga K x))) (hi : i ≤ j) (hn : ps.length = n) (t : OkT P w K mg base cl j n tbl) : OkT P w K mg base cl j n ((x, d) :: tbl) := by
  intro p hp
  rcases List.mem_cons.mp hp with rfl | hp
  · obtain ⟨F, hm, r⟩ := h
    obtain rfl : f = He.ga K x := by
      rw [hf] at hm
      cases hm
      rfl
    exact ⟨fd, ps, hn, F.up hi, hm, r⟩
  · exact t p hp
def loc (i : Nat) (g : EV) : Option D := match g[i]? with
  | some (some d) => some d
  | _ => none
def eCallL (i n : Nat) (tbl : List (Str × DM)) (r : AM) : EM := fun g S => match loc i g with
  | some (.fn x) => match fnT tbl x with
    | some d => bd (r g S) (Ar n d)
    | none => none
  | _ => none
theorem ee_callL {y : Str} (i : Nat) {tbl : List (Str × DM)} (T : OkT X.prog X.w X.K X.mg X.base cl j n tbl) (hr : RoomG j X.A) (hx : Passes (L2.CX X.prog X.w) X E) (ha : EA X cl E (e :: es) mr) (hN : X.N[i]? = some y := by rfl)
    (hv : Vis X.env.scope y := by first | exact Or.inl rfl | exact Or.inr (Or.inl rfl) | exact Or.inr (Or.inr rfl)) (hdb : (y == ("__debug__" : Str)) = false := by decide) (hcd : (y == ("__classdict__" : Str)) = false := by decide)
    (he : starEach (e :: es) X.env = (false, eval e X.env) :: starEach es X.env := by rfl) (hpl : (backTo pos (starEach es X.env)).any (·.1) = false := by rfl) : EE X cl E (.Call (.Name y p) (e :: es) [] pos) (eCallL i n tbl mr) := by
  obtain ⟨ta, pa, ea⟩ := ha
  have pe : PE X (.Call (.Name y p) (e :: es) [] pos) (fun σ H Q => ∃ f fd ps sp, σ[i]? = some (some (.ref f)) ∧ FnG X.prog X.w X.K X.mg X.base (L2.CX X.prog X.w) j f fd ps sp ∧ PySem.W.keepIn X.K (.ref f) = true ∧ Binds X.K fd ps [] ∧ ta σ H fun vs H1 => sp vs H1 Q E) := by
    constructor
    intro pins s σ H Q I h
    obtain ⟨f, fd, ps, sp, hs, F, hk, hb, ht⟩ := h
    refine wpAny_Call_Name_kw (thn ((pe_var (pos := p) hN hv hdb hcd).run pins s σ H (fun v H1 => v = .ref f ∧ H1 = H) I ⟨.ref f, hs, rfl, rfl⟩) ?_)
    rintro u s1 ⟨v, H1, I1, r1, rfl, rfl⟩
    cases r1
    refine PySem.W.callWith_K (h₀ := X.base) I.ok.mod.kin hk (thn (pa.run pos pins s1 σ _ _ I1 ht) ?_) he hpl
    rintro us s2 ⟨vs, H2, I2, r, q⟩
    have b := hb s2 us I2.kIn (by rw [List.append_nil, ← r.length]; exact F.len vs H2 Q E q)
    rw [List.append_nil] at b
    exact ⟨I2.kIn, rung F hr hx I2 b r q⟩
  refine ⟨_, pe, fun g S z S' h q s H Q w sl po => ?_⟩
  unfold eCallL at h
  split at h
  · rename_i x el
    split at h
    · rename_i d ed
      obtain ⟨fd, ps, hn, F, hm, hk, hb⟩ := T _ (fnT_mem ed)
      have e0 : g[i]? = some (some (.fn x)) := by
        unfold loc at el
        split at el
        · rename_i e0
          cases el
          exact e0
        · cases el
      obtain ⟨v, e1, e2⟩ := sl.2 i _ e0
      have e3 : v = .ref (He.ga X.K x) := by cases e2; rfl
      subst e3
      refine ⟨_, fd, ps, _, e1, F, hk, hb, ?_⟩
      rcases bd_inv h with ⟨xs, S1, h1, h⟩ | ⟨c, fs, h1, rfl⟩
      · refine ea g S _ S1 h1 q s H _ w sl fun q1 H1 vs g1 w1 d1 => ?_
        exact ⟨by rw [hn, d1.length]; exact Ar.len h, q1, S1, xs, z, S', w1, d1, Ar.get h, po.to g1⟩
      · exact ea g S _ S' h1 q s H _ w sl (Post.ex (Q' := fun _ _ => False) po)
    · cases h
  · cases h
end
/-! ### dicts of the top with text keys: D.get(e), D[e] -/
/-- the values of such a dict -/
def kvL (tbl : List (Str × D)) (z : Str) : Option D := match tbl with
  | [] => none
  | p :: r => if p.1 = z then some p.2 else kvL r z
/-- the top's dict x, its values as data -/
structure KTab (K : Fr) (w : World) (mg : Str → Option Value) (x : Str) (tbl : List (Str × D)) : Prop where
  at_ : mg x = some (.ref (He.ga K x))
  kd : ∃ es n, KDict K w (He.ga K x) es n
  val : ∀ z d, kvL tbl z = some d → ∃ u v, PySem.W.nsIn K (He.ga K x) z = some (some u) ∧ RelV v u ∧ ∀ q n H, Dt K q n H v d
  non : ∀ z, kvL tbl z = none → PySem.W.nsIn K (He.ga K x) z = some none
section
open PySem.Spec PyProof.Rows
variable {X : Cx} {cl : Cl} {E : XK} {a b e : Expr} {pos p apos : Pos} {ma : EM} {x : Str} {tbl : List (Str × D)}
def kgetF (tbl : List (Str × D)) (x : D) (S : ST) : Option (Rs D × ST) := match x with
  | .str z => some (.ok ((kvL tbl z).getD .non), S)
  | _ => none
def kixF (tbl : List (Str × D)) (x : D) (S : ST) : Option (Rs D × ST) := match x with
  | .str z => match kvL tbl z with
    | some d => some (.ok d, S)
    | none => none
  | _ => none
theorem ee_kget (T : KTab X.K X.w X.mg x tbl) (ha : EE X cl E e ma) (hg : Gl X x := by rfl) (hdb : (x == ("__debug__" : Str)) = false := by decide) (m : M1 X (.Name x p) "get" apos e pos := by exact ⟨rfl, rfl, rfl, rfl⟩) : EE X cl E (.Call (.Attribute (.Name x p) "get" apos) [e] [] pos) (eUn (kgetF tbl) ma) := by
  obtain ⟨ta, pa, ea⟩ := ha
  obtain ⟨es, n, D⟩ := T.kd
  have pe : PE X (.Call (.Attribute (.Name x p) "get" apos) [e] [] pos) (fun σ H Q => ta σ H fun y H1 => ∃ z r v, y = .str z ∧ PySem.W.nsIn X.K (He.ga X.K x) z = some r ∧ RelV v (r.getD .none) ∧ Q v H1) := by
    constructor
    intro pins s σ H Q I h
    refine wpAny_Call_method m.base m.few m.line PySem.F.plainAttrs_dict PySem.F.slot_dict_get PySem.F.type_dict_get (ld_glob I hg T.at_ ?_ hdb)
    have hm := PySem.W.mapOf_K (prog := X.prog) (w := X.w) I.kIn D.at_ D.lit
    refine ⟨hm.typeIs, fun b q => ?_, ?_⟩
    · cases q
      exact ⟨_, I.kIn _ _ D.at_, rfl⟩
    rw [m.trees]
    refine Calls.callWith_builtin rfl (Calls.evalArgs_plain (Calls.spliced_cons (thn (pa.run pins s σ H _ I h) ?_)))
    rintro iv s2 ⟨y, H2, I2, ry, z, r, v, rfl, e1, rv, q⟩
    refine Calls.spliced_nil ?_
    obtain ⟨t, rfl⟩ := (show ∃ t, iv = Value.str z t from ry)
    have hm2 := PySem.W.mapOf_K (prog := X.prog) (w := X.w) I2.kIn D.at_ D.lit
    refine call_meetsIn PySem.F.slot_dict_get hm2.typeIs PySem.F.entry_dict_get (PySem.F.args_dict_get_2 _ _) (meets_dict_get (PySem.strKind X.prog X.w) _ (PySem.strKind_is X.prog X.w z t) D.low) ⟨_, hm2, ?_⟩
    rw [PySem.W.find_K D.at_ e1]
    exact ⟨v, H2, I2.tok _, rv, q⟩
  refine ⟨_, pe, fun g S z S' h q s H Q w sl po => ?_⟩
  rcases bd_inv h with ⟨y, S1, h1, h⟩ | ⟨c, fs, h1, rfl⟩
  · refine ea g S _ S1 h1 q s H _ w sl fun q1 H1 vx g1 w1 d1 => ?_
    unfold kgetF at h
    split at h
    · rename_i k
      cases h
      obtain rfl := d1.str_inv
      cases ek : kvL tbl k with
      | none => exact ⟨k, none, .non, rfl, T.non k ek, rfl, by rw [ek] at po; exact po q1 H1 _ g1 w1 .non⟩
      | some d =>
        obtain ⟨u, v, e1, rv, dd⟩ := T.val k d ek
        exact ⟨k, some u, v, rfl, e1, rv, by rw [ek] at po; exact po q1 H1 _ g1 w1 (dd _ _ _)⟩
    · cases h
  · exact ea g S _ S' h1 q s H _ w sl (Post.ex (Q := Q) po)
end
end U

set_option Elab.async false
set_option linter.all false
set_option maxRecDepth 100000
set_option maxHeartbeats 2000000
namespace U
open PySem L2
section
open PySem.Spec PyProof.Rows
variable {X : Cx} {cl : Cl} {E : XK} {a b e : Expr} {pos p p1 apos : Pos} {ma : EM} {x : Str} {tbl : List (Str × D)}
theorem ee_kix (T : KTab X.K X.w X.mg x tbl) (ha : EE X cl E e ma) (hg : Gl X x := by rfl) (hdb : (x == ("__debug__" : Str)) = false := by decide) (hs : PlainIx e := by exact fun _ _ => rfl) : EE X cl E (.Subscript (.Name x p) e pos) (eUn (kixF tbl) ma) := by
  obtain ⟨ta, pa, ea⟩ := ha
  obtain ⟨es, n, D⟩ := T.kd
  refine ⟨_, pe_ix ix_kdict (pe_glob (v := .ref (He.ga X.K x)) hg T.at_ rfl hdb) pa hs, fun g S z S' h q s H Q w sl po => ?_⟩
  rcases bd_inv h with ⟨y, S1, h1, h⟩ | ⟨c, fs, h1, rfl⟩
  · refine ea g S _ S1 h1 q s H _ w sl fun q1 H1 vx g1 w1 d1 => ?_
    unfold kixF at h
    split at h
    · rename_i k
      split at h
      · rename_i d ek
        cases h
        obtain rfl := d1.str_inv
        obtain ⟨u, v, e1, rv, dd⟩ := T.val k d ek
        exact ⟨_, k, v, rfl, rfl, ⟨es, n, u, D.at_, D.lit, e1, rv⟩, po q1 H1 _ g1 w1 (dd _ _ _)⟩
      · cases h
    · cases h
  · exact ea g S _ S' h1 q s H _ w sl (Post.ex (Q := Q) po)
/-! ### isinstance(x, C), C an own class -/
/-- what is asked of the class of an instance -/
structure InsF (K : Fr) (C : Addr) : Prop where
  cl : Cls K C
  ha : PySem.W.findIn K (.ref C) "__class__" = some (some (.builtin "object.__class__"))
  hn : PySem.W.specialIn K (.builtin "object.__class__") "__get__" = some (some (.builtin "getset_descriptor.__get__"))
  htk : PySem.W.takesIn K (.builtin "object.__class__") = some true
  hm : PySem.W.mroIn K C (.type "object") = some true
def rIsO (K : Fr) (C : Addr) : List V → Hp → VK → Prop := fun vs H Q => ∃ x b, vs = [x, .ref C] ∧ ((∃ t, TyX K H x t ∧ PySem.W.kitOne K t (.ref C) = some b) ∨ ∃ a c dx fs, x = .ref a ∧ Rd H a (.ins c dx fs) ∧ InsF K c ∧ PySem.W.kitOne K (.ref c) (.ref C) = some b) ∧ Q (.bl b) H
theorem cr_isO {C : Addr} : CallR X (.builtin "isinstance") (rIsO X.K C) := by
  intro pins s σ H xs us Q I r h
  obtain ⟨x, b, rfl, h, q⟩ := h
  obtain ⟨u1, u2, rfl, r1, r2⟩ := vals2 r
  obtain rfl : u2 = Value.ref C := r2
  rcases h with ⟨t, ty, e⟩ | ⟨a, c, dx, fs, rfl, rd, F, e⟩
  · obtain ⟨P, Z, p, hx⟩ := kit_of I r1 ty
    exact PySem.W.kia_one Z I.kIn p e hx fun tk => ⟨.bl b, H, I.tok tk, rfl, q⟩
  · obtain rfl : u1 = Value.ref a := r1
    obtain ⟨mA, O, _⟩ := rins I.hok rd
    obtain ⟨od, J, _⟩ := O.look
    exact PySem.W.kia_one (PySem.W.kitx_own (F.cl.get _) F.cl.hd F.ha F.hn F.htk F.hm) I.kIn J e (fun z => nomatch z) fun tk => ⟨.bl b, H, I.tok tk, rfl, q⟩
/-- what the top says of C as a class that is asked for; cs: the classes of instances that are met -/
structure IsC (K : Fr) (mg : Str → Option Value) (C : Str) (cs : List Str) : Prop where
  at_ : mg C = some (.ref (He.ga K C))
  ty : ∀ t ∈ ["NoneType", "bool", "int", "str", "tuple", "list", "dict"], PySem.W.kitOne K (.type t) (.ref (He.ga K C)) = some false
  own : ∀ c ∈ cs, InsF K (He.ga K c) ∧ PySem.W.kitOne K (.ref (He.ga K c)) (.ref (He.ga K C)) = some (decide (c = C))
def isoF (C : Str) (cs : List Str) (x : D) (S : ST) : Option (Rs D × ST) := match insS S x with
  | some (c, _) => if c ∈ cs then some (.ok (.bl (decide (c = C))), S) else none
  | none => match tyD S x with
    | some _ => some (.ok (.bl false), S)
    | none => none
theorem ee_iso {C : Str} {cs : List Str} (T : IsC X.K X.mg C cs) (ha : EE X cl E a ma) (hg : Gl X "isinstance") (hm : X.mg "isinstance" = none) (hv : bootBuiltins "isinstance" = some (.builtin "isinstance")) (gc : Gl X C := by rfl) (hd : (C == ("__debug__" : Str)) = false := by decide)
    (hst : starEach [a, .Name C p1] X.env = (false, eval a X.env) :: starEach [.Name C p1] X.env := by rfl) (hpl : (backTo pos (starEach [.Name C p1] X.env)).any (·.1) = false := by rfl) (hs2 : starEach [.Name C p1] X.env = (false, eval (.Name C p1) X.env) :: starEach [] X.env := by rfl) :
    EE X cl E (.Call (.Name "isinstance" p) [a, .Name C p1] [] pos) (eUn (isoF C cs) ma) := by
  obtain ⟨ta, pa, ea⟩ := ha
  refine ⟨_, pe_callB (cr_isO (C := He.ga X.K C)) hg hm hv (pa_cons pa (pa_cons (pe_glob (v := .ref (He.ga X.K C)) gc T.at_ rfl hd) pa_nil hs2) hst) (by decide) (by decide) hst hpl, fun g S z S' h q s H Q w sl po => ?_⟩
  rcases bd_inv h with ⟨x, S1, h1, h⟩ | ⟨c, fs, h1, rfl⟩
  · refine ea g S _ S1 h1 q s H _ w sl fun q1 H1 vx g1 w1 d1 => ?_
    unfold isoF at h
    split at h
    · rename_i c fs e1
      split at h
      · rename_i hc
        cases h
        obtain ⟨a, dx, fv, rfl, rd, _⟩ := insS_inv e1 w1 d1
        obtain ⟨F, k⟩ := T.own c hc
        exact ⟨_, _, rfl, .inr ⟨a, _, dx, fv, rfl, rd, F, k⟩, po q1 H1 _ g1 w1 (.bl _)⟩
      · cases h
    · split at h
      · rename_i t e2
        cases h
        obtain ⟨ty, ht⟩ := tyD_inv e2 w1 d1
        exact ⟨_, _, rfl, .inl ⟨_, ty, T.ty t (by rcases ht with rfl | rfl | rfl | rfl | rfl | rfl | rfl <;> simp)⟩, po q1 H1 _ g1 w1 (.bl _)⟩
      · cases h
  · exact ea g S _ S' h1 q s H _ w sl (Post.ex (Q := Q) po)
end
end U

set_option Elab.async false
set_option linter.all false
set_option maxRecDepth 100000
set_option maxHeartbeats 2000000
namespace U
open PySem L2
/-! ### dicts read, shut or of the store: k in d, len(d), list(d), list(d.values()), list(d.items()) -/
def dkD (k : Key) : D := match k with
  | .inl i => .int i
  | .inr z => .str z
section
variable {K : Fr} {q : Nat → Addr} {n : Nat} {H : Hp}
theorem dkD_dt {k : Key} : Dt K q n H (kV k) (dkD k) := by
  cases k with
  | inl i => exact .int i
  | inr z => exact .str z
theorem Dkv.dkeys : ∀ {kv : List (Key × V)} {kvs : List (Key × D)}, Dkv K q n H kv kvs → Dts K q n H (kv.map fun x => kV x.1) (kvs.map fun x => dkD x.1)
  | _, _, .nil => .nil
  | _, _, .cons _ rs => .cons dkD_dt rs.dkeys
theorem Dkv.dvals : ∀ {kv : List (Key × V)} {kvs : List (Key × D)}, Dkv K q n H kv kvs → Dts K q n H (kv.map fun x => x.2) (kvs.map fun x => x.2)
  | _, _, .nil => .nil
  | _, _, .cons r rs => .cons r rs.dvals
theorem valD_none : ∀ {kv : List (Key × V)} {kvs : List (Key × D)} {k : Key}, Dkv K q n H kv kvs → valD kvs k = none → valV kv k = none
  | _, _, _, .nil, _ => rfl
  | _, _, k, .cons (k := k') (v := v) (vs := vs) r rs, h => by
    unfold valD at h
    split at h
    · cases h
    · rename_i e
      have e : ¬ k' = k := e
      have ih := valD_none rs h
      unfold valV at ih ⊢
      rw [List.find?_cons_of_neg (by simpa using e)]
      exact ih
end
section
open PySem.Spec PyProof.Rows
variable {X : Cx} {cl : Cl} {E : XK} {a b e : Expr} {pos p p1 apos cpos : Pos} {ma mb m : EM} {mr : AM}
/-- k in d -/
def dinF (f : Bool → Bool) (x y : D) (S : ST) : Option (Rs D × ST) := match dcS S y, keyD x with
  | some kvs, some k => some (.ok (.bl (f (valD kvs k).isSome)), S)
  | _, _ => none
theorem din_get {K : Fr} {q : Nat → Addr} {S : ST} {H : Hp} {vx vy : V} {x y : D} {kvs : List (Key × D)} {k : Key} (h1 : dcS S y = some kvs) (h2 : keyD x = some k) (w : Wd K q S H) (rx : Dt K q S.length H vx x) (ry : Dt K q S.length H vy y) : ∃ a o, vy = .ref a ∧ DGet H a vx o ∧ o.isSome = (valD kvs k).isSome := by
  obtain ⟨l, kv, rfl, rd, dk⟩ := dcS_inv h1 w ry
  obtain rfl := keyD_inv h2 rx
  refine ⟨l, valV kv k, rfl, .inl ⟨kv, k, rd, rfl, rfl⟩, ?_⟩
  cases e : valD kvs k with
  | none => rw [valD_none dk e]; rfl
  | some d =>
    obtain ⟨v, hv, _⟩ := valD_ok dk e
    rw [hv]
    rfl
theorem ee_din (hu : X.A.units + 1 < cLine) (ha : EE X cl E a ma) (hb : EE X cl E b mb) (hm : behindInMarks .In b = false := by rfl) : EE X cl E (.Compare a [.In] [b] pos) (eOp (dinF id) ma mb) := by
  obtain ⟨ta, pa, ea⟩ := ha
  obtain ⟨tb, pb, eb⟩ := hb
  refine ⟨_, pe_cmp (pc_din hu pa pb) hm, fun g S z S' h q s H Q w sl po => ?_⟩
  rcases bd_inv h with ⟨x, S1, h1, h⟩ | ⟨c, fs, h1, rfl⟩
  · refine ea g S _ S1 h1 q s H _ w sl fun q1 H1 vx g1 w1 d1 => ?_
    rcases bd_inv h with ⟨y, S2, h2, h⟩ | ⟨c, fs, h2, rfl⟩
    · refine eb g S1 _ S2 h2 q1 s H1 _ w1 (sl.mono g1) fun q2 H2 vy g2 w2 d2 => ?_
      unfold dinF at h
      split at h
      · rename_i e1 e2
        cases h
        obtain ⟨l, o, rfl, g, eo⟩ := din_get e1 e2 w2 (d1.mono g2.ge) d2
        exact ⟨l, o, rfl, g, by rw [eo]; exact po q2 H2 _ (g1.trans g2) w2 (.bl _)⟩
      · cases h
    · exact eb g S1 _ S' h2 q1 s H1 _ w1 (sl.mono g1) (Post.ex (Q := Q) (po.to g1))
  · exact ea g S _ S' h1 q s H _ w sl (Post.ex (Q := Q) po)
theorem ee_dnotin (hu : X.A.units + 1 < cLine) (ha : EE X cl E a ma) (hb : EE X cl E b mb) (hm : behindInMarks .NotIn b = false := by rfl) : EE X cl E (.Compare a [.NotIn] [b] pos) (eOp (dinF not) ma mb) := by
  obtain ⟨ta, pa, ea⟩ := ha
  obtain ⟨tb, pb, eb⟩ := hb
  refine ⟨_, pe_cmp (pc_dnotin hu pa pb) hm, fun g S z S' h q s H Q w sl po => ?_⟩
  rcases bd_inv h with ⟨x, S1, h1, h⟩ | ⟨c, fs, h1, rfl⟩
  · refine ea g S _ S1 h1 q s H _ w sl fun q1 H1 vx g1 w1 d1 => ?_
    rcases bd_inv h with ⟨y, S2, h2, h⟩ | ⟨c, fs, h2, rfl⟩
    · refine eb g S1 _ S2 h2 q1 s H1 _ w1 (sl.mono g1) fun q2 H2 vy g2 w2 d2 => ?_
      unfold dinF at h
      split at h
      · rename_i e1 e2
        cases h
        obtain ⟨l, o, rfl, g, eo⟩ := din_get e1 e2 w2 (d1.mono g2.ge) d2
        exact ⟨l, o, rfl, g, by rw [eo]; exact po q2 H2 _ (g1.trans g2) w2 (.bl _)⟩
      · cases h
    · exact eb g S1 _ S' h2 q1 s H1 _ w1 (sl.mono g1) (Post.ex (Q := Q) (po.to g1))
  · exact ea g S _ S' h1 q s H _ w sl (Post.ex (Q := Q) po)
/-- list(d) -/
def rLK : List V → Hp → VK → Prop := fun xs H Q => ∃ p kvs, xs = [.ref p] ∧ Rd H p (.dK kvs) ∧ ∀ q, H q = none → Q (.ref q) (upd H q (.lst (kvs.map fun kv => kV kv.1)))
theorem items_new {pins : List (Addr × Obj)} {σ : L2.St} {H : Hp} {s : Shared} {h' : Heap} {tk c : Nat} {xs : List V} {acc : Array Value} {Q : VK} (I : Inv X pins σ H s) (hk : ∀ b o, s.heap.get? b = some o → h'.get? b = some o) (hS : h'.get? s.heap.objs.size = some { cls := .type "list", dict := none, data := .seq acc c, slots := #[] }) (hl : xs.length ≤ sizeLine) (hv : Vals xs acc.toList)
    (q : ∀ q, H q = none → Q (.ref q) (upd H q (.lst xs))) : EP X pins σ Q (.ref s.heap.objs.size) { s with heap := h', toks := tk } := by
  have new : ObjOk X.prog X.w (upd H s.heap.objs.size (.lst xs)) h' s.heap.objs.size (.lst xs) := ⟨hl, acc.toList, c, hv, by rw [Array.toArray_toList]; exact hS⟩
  exact ⟨.ref s.heap.objs.size, _, I.laid hk (Nat.le_refl _) new, rfl, q _ (I.hok.fresh (Nat.le_refl _))⟩
theorem cr_lk (hc : X.calm = true) : CallR X (.type "list") rLK := by
  intro pins s σ H xs us Q I r h
  obtain ⟨p, kvs, rfl, hk, q⟩ := h
  obtain ⟨u, rfl, rx⟩ := vals1 r
  obtain rfl : u = Value.ref p := rx
  obtain ⟨z, lo, vs, rk, hd⟩ := dk_rd I.hok hk
  obtain ⟨ep, hat⟩ := hd.dictAt
  have hl : kvs.length = vs.length := rk.length
  refine PySem.W.kdl_call (PySem.W.kdl_dict (knd := mixKind X.prog X.w) (kvs := vs) (ep := ep) lo) (I.ok.hd hc) hat (by rw [← hl]; exact z) fun h' tk acc' c' hkeep hS hacc => items_new I hkeep hS (by rw [List.length_map]; exact z) ?_ q
  have el : acc'.toList.length = acc'.size := by simp
  refine vals_of_at (by rw [List.length_map, el, hacc.1, hl]) fun j x w h1 h2 => ?_
  obtain ⟨k, y, hky, hi⟩ := hacc.2 j w (by rw [← Array.getElem?_toList]; exact h2)
  rw [List.getElem?_map] at h1
  cases ekv : kvs[j]? with
  | none => rw [ekv] at h1; cases h1
  | some kv =>
    rw [ekv] at h1
    cases h1
    have e1 : (kvs.map (·.1))[j]? = some kv.1 := by rw [List.getElem?_map, ekv]; rfl
    rw [rk.keys, List.getElem?_map, hky] at e1
    cases e1
    exact keyIs_rel hi
/-- list(d.values()) -/
def tLV (te : TE) : TE := fun σ H Q => te σ H fun x H1 => ∃ p kvs, x = .ref p ∧ Rd H1 p (.dK kvs) ∧ ∀ q, H1 q = none → Q (.ref q) (upd H1 q (.lst (kvs.map fun kv => kv.2)))
theorem pe_lv {te : TE} (hc : X.calm = true) (he : PE X e te) (hg : Gl X "list") (hm : X.mg "list" = none) (hv : bootBuiltins "list" = some (.type "list")) (hbase : attributeBase e "values" X.env (eval e X.env) = eval e X.env) (hline : (apos.endLine == cpos.line) = true)
    (hs : starEach [.Call (.Attribute e "values" apos) [] [] cpos] X.env = (false, eval (.Call (.Attribute e "values" apos) [] [] cpos) X.env) :: starEach [] X.env) : PE X (.Call (.Name "list" p) [.Call (.Attribute e "values" apos) [] [] cpos] [] pos) (tLV te) := by
  constructor
  intro pins s σ H Q I hq
  refine wpAny_Call_Name_kw (ld_blt I hg hm hv (PyProof.Rows.callWith_type1 ?_ hs rfl))
  rw [hs]
  show wpAny _ _ (spliced ((false, eval (.Call (.Attribute e "values" apos) [] [] cpos) X.env) :: backTo pos (starEach [] X.env))) _ _ s
  refine Calls.spliced_cons (wpAny_Call_method (T := "dict") (id := "dict.values") hbase rfl hline F.plainAttrs_dict F.slot_dict_values F.type_dict_values (thn (he.run pins s σ H _ I hq) ?_))
  rintro u s1 ⟨x, H1, I1, rx, d, kvs, rfl, hd, q⟩
  obtain rfl : u = Value.ref d := rx
  obtain ⟨hz, hs0, vs, kv, hdo⟩ := dk_rd I1.hok hd
  obtain ⟨ep, hat⟩ := hdo.dictAt
  have lk : kvs.length = vs.length := kv.length
  have I2 : Inv X pins σ H1 { s1 with heap := s1.heap.push { cls := .type "dict_values", data := .fields #[.ref d] } } := I1.kept (t' := s1.toks) fun b ob q => Heap.get?_push_of_some _ q
  refine ⟨hdo.typeIs, hdo.mapOf.noDict, ?_⟩
  show wpAny _ _ (callWith cpos (.builtin "dict.values") [.ref d] [] []) _ X.xe s1
  refine method_meetsIn F.slot_dict_values F.entry_dict_values rfl (PySem.evalArgs_none ⟨rfl, hdo.typeIs, F.args_dict_values_1 _, _, meets_dict_values (mixKind X.prog X.w) d hs0, ⟨vs, hdo⟩, ?_⟩)
  refine Calls.spliced_nil ?_
  refine PySem.W.kdl_call (PySem.W.kdl_values (knd := mixKind X.prog X.w) (kvs := vs) (ep := ep)) (I1.ok.hd hc) ⟨⟨_, Heap.get?_push_size _ rfl, rfl, rfl⟩, hat.push _⟩ (by omega) fun h' tk acc c hk hS hacc => items_new I2 hk hS (by rw [List.length_map]; exact hz) ?_ q
  have el : acc.toList.length = acc.size := by simp
  refine vals_of_at (by rw [List.length_map, el, hacc.1, lk]) fun j x w h1 h2 => ?_
  obtain ⟨k, hky⟩ := hacc.2 j w (by rw [← Array.getElem?_toList]; exact h2)
  rw [List.getElem?_map] at h1
  cases ekv : kvs[j]? with
  | none => rw [ekv] at h1; cases h1
  | some kv' =>
    rw [ekv] at h1
    cases h1
    obtain ⟨y, e1, e2⟩ := LiI.paired_get kv ekv
    rw [hky] at e1
    cases e1
    exact e2.2
/-- list(d.items()) -/
def tLI (te : TE) : TE := fun σ H Q => te σ H fun x H1 => ∃ (d : Addr) (kvs : List (Key × V)), x = .ref d ∧ Rd H1 d (.dK kvs) ∧
  ∀ (H' : Hp) (p : Addr) (ts : List Addr), (∀ b o, H1 b = some o → H' b = some o) → H1 p = none → H' p = some (.lst (ts.map V.ref)) → Paired (fun (t : Addr) (q : Key × V) => H' t = some (.tup [kV q.1, q.2])) ts kvs → Q (.ref p) H'
theorem pe_li {te : TE} (hc : X.calm = true) (he : PE X e te) (hg : Gl X "list") (hm : X.mg "list" = none) (hv : bootBuiltins "list" = some (.type "list")) (hbase : attributeBase e "items" X.env (eval e X.env) = eval e X.env) (hline : (apos.endLine == cpos.line) = true)
    (hs : starEach [.Call (.Attribute e "items" apos) [] [] cpos] X.env = (false, eval (.Call (.Attribute e "items" apos) [] [] cpos) X.env) :: starEach [] X.env) : PE X (.Call (.Name "list" p) [.Call (.Attribute e "items" apos) [] [] cpos] [] pos) (tLI te) := by
  constructor
  intro pins s σ H Q I hq
  refine wpAny_Call_Name_kw (ld_blt I hg hm hv (PyProof.Rows.callWith_type1 ?_ hs rfl))
  rw [hs]
  show wpAny _ _ (spliced ((false, eval (.Call (.Attribute e "items" apos) [] [] cpos) X.env) :: backTo pos (starEach [] X.env))) _ _ s
  refine Calls.spliced_cons (wpAny_Call_method (T := "dict") (id := "dict.items") hbase rfl hline F.plainAttrs_dict F.slot_dict_items F.type_dict_items (thn (he.run pins s σ H _ I hq) ?_))
  rintro u s1 ⟨x, H1, I1, rx, d, kvs, rfl, hd, q⟩
  obtain rfl : u = Value.ref d := rx
  obtain ⟨hz, hs0, vs, kv, hdo⟩ := dk_rd I1.hok hd
  obtain ⟨ep, hat⟩ := hdo.dictAt
  have lk : kvs.length = vs.length := kv.length
  have I2 : Inv X pins σ H1 { s1 with heap := s1.heap.push { cls := .type "dict_items", data := .fields #[.ref d] } } := I1.kept (t' := s1.toks) fun b ob q => Heap.get?_push_of_some _ q
  refine ⟨hdo.typeIs, hdo.mapOf.noDict, ?_⟩
  show wpAny _ _ (callWith cpos (.builtin "dict.items") [.ref d] [] []) _ X.xe s1
  refine method_meetsIn F.slot_dict_items F.entry_dict_items rfl (PySem.evalArgs_none ⟨rfl, hdo.typeIs, F.args_dict_items_1 _, _, meets_dict_items (mixKind X.prog X.w) d hs0, ⟨vs, hdo⟩, ?_⟩)
  refine Calls.spliced_nil ?_
  refine PySem.W.kdx_call (knd := mixKind X.prog X.w) (kvs := vs) (ep := ep) (I1.ok.hd hc) ⟨_, Heap.get?_push_size _ rfl, rfl, rfl⟩ (hat.push _) (by omega) fun h' tk acc c as hk hS hl hG hacc => ?_
  obtain ⟨H', k1, k2, k3, k4, k5, k6, J⟩ := LiI.items_laid (tk := tk) I2 hz kv hk hS hl hG hacc
  exact ⟨.ref _, H', J, rfl, q H' _ as k1 k2 k5 k6⟩
/-! .. as lists that were just made -/
def oD (f : List (Key × D) → List D) (x : D) (S : ST) : Option (Rs (List D) × ST) := match dcS S x with
  | some kvs => if few kvs.length = true then some (.ok (f kvs), S) else none
  | none => none
def lkF := oD fun kvs => kvs.map fun x => dkD x.1
def lvF := oD fun kvs => kvs.map fun x => x.2
def liF := oD fun kvs => kvs.map fun x => D.tup [dkD x.1, x.2]
def oU (f : D → ST → Option (Rs (List D) × ST)) (a : EM) : AM := fun g S => bd (a g S) f
theorem oD_inv {f : List (Key × D) → List D} {x : D} {S S' : ST} {z : Rs (List D)} (h : oD f x S = some (z, S')) : ∃ kvs, dcS S x = some kvs ∧ z = .ok (f kvs) ∧ S' = S := by
  unfold oD at h
  split at h
  · rename_i kvs e
    split at h
    · cases h
      exact ⟨kvs, e, rfl, rfl⟩
    · cases h
  · cases h
theorem eo_lk (hc : X.calm = true) (ha : EE X cl E a m) (hg : Gl X "list") (hm : X.mg "list" = none) (hv : bootBuiltins "list" = some (.type "list")) (hst : starEach [a] X.env = (false, eval a X.env) :: starEach [] X.env := by rfl) : EO X cl E (.Call (.Name "list" p) [a] [] pos) (oU lkF m) := by
  obtain ⟨ta, pa, ea⟩ := ha
  refine ⟨_, pe_callTy (cr_lk hc) hg hm hv (pa_cons pa pa_nil hst) (he := hst), fun g S z S' h q s H Q w sl po => ?_⟩
  rcases bd_inv h with ⟨x, S1, h1, h⟩ | ⟨c, fs, h1, rfl⟩
  · refine ea g S _ S1 h1 q s H _ w sl fun q1 H1 vx g1 w1 d1 => ?_
    obtain ⟨kvs, e, rfl, rfl⟩ := oD_inv h
    obtain ⟨l, kv, rfl, rd, dk⟩ := dcS_inv e w1 d1
    exact ⟨l, kv, rfl, rd, fun r hr => po q1 _ r _ (g1.trans (Gr.new hr)) (w1.new hr) (g1.free hr) upd_same (fun m hm => w1.ne hr hm) (dk.dkeys.mono (Gr.new hr).ge)⟩
  · exact ea g S _ S' h1 q s H _ w sl (Post.ex (Q := fun _ _ => False) po)
theorem eo_lv (hc : X.calm = true) (ha : EE X cl E a m) (hg : Gl X "list") (hm : X.mg "list" = none) (hv : bootBuiltins "list" = some (.type "list")) (hbase : attributeBase a "values" X.env (eval a X.env) = eval a X.env := by rfl) (hline : (apos.endLine == cpos.line) = true := by rfl)
    (hs : starEach [.Call (.Attribute a "values" apos) [] [] cpos] X.env = (false, eval (.Call (.Attribute a "values" apos) [] [] cpos) X.env) :: starEach [] X.env := by rfl) : EO X cl E (.Call (.Name "list" p) [.Call (.Attribute a "values" apos) [] [] cpos] [] pos) (oU lvF m) := by
  obtain ⟨ta, pa, ea⟩ := ha
  refine ⟨_, pe_lv hc pa hg hm hv hbase hline hs, fun g S z S' h q s H Q w sl po => ?_⟩
  rcases bd_inv h with ⟨x, S1, h1, h⟩ | ⟨c, fs, h1, rfl⟩
  · refine ea g S _ S1 h1 q s H _ w sl fun q1 H1 vx g1 w1 d1 => ?_
    obtain ⟨kvs, e, rfl, rfl⟩ := oD_inv h
    obtain ⟨l, kv, rfl, rd, dk⟩ := dcS_inv e w1 d1
    exact ⟨l, kv, rfl, rd, fun r hr => po q1 _ r _ (g1.trans (Gr.new hr)) (w1.new hr) (g1.free hr) upd_same (fun m hm => w1.ne hr hm) (dk.dvals.mono (Gr.new hr).ge)⟩
  · exact ea g S _ S' h1 q s H _ w sl (Post.ex (Q := fun _ _ => False) po)
theorem Gr.grown {q : Nat → Addr} {n : Nat} {H H' : Hp} (k : ∀ b o, H b = some o → H' b = some o) : Gr q n H q n H' :=
  ⟨⟨fun _ _ => rfl, Nat.le_refl _, fun a xs h => k _ _ h, fun a o u h => k _ _ h⟩, fun a u h _ => k _ _ h, fun m h h' => absurd h (Nat.not_le_of_lt h'), fun a u h => ⟨u, k _ _ h⟩⟩
theorem Wd.grown {K : Fr} {q : Nat → Addr} {S : ST} {H H' : Hp} (w : Wd K q S H) (k : ∀ b o, H b = some o → H' b = some o) : Wd K q S H' := ⟨w.inj, fun m o h => by
  have ho := w.ob m o h
  obtain ⟨u, e⟩ := ho.some
  exact ho.mono (Gr.grown k).ge ((k _ _ e).trans e.symm)⟩
theorem dts_items {K : Fr} {q : Nat → Addr} {n : Nat} {H : Hp} : ∀ {kv : List (Key × V)} {kvs : List (Key × D)} {ts : List Addr}, Dkv K q n H kv kvs → Paired (fun (t : Addr) (q : Key × V) => H t = some (.tup [kV q.1, q.2])) ts kv → Dts K q n H (ts.map V.ref) (kvs.map fun x => D.tup [dkD x.1, x.2])
  | _, _, _, .nil, .nil => .nil
  | _, _, _, .cons r rs, .cons h t => .cons (.tup (.inl (.inl h)) (.cons dkD_dt (.cons r .nil))) (dts_items rs t)
theorem eo_li (hc : X.calm = true) (ha : EE X cl E a m) (hg : Gl X "list") (hm : X.mg "list" = none) (hv : bootBuiltins "list" = some (.type "list")) (hbase : attributeBase a "items" X.env (eval a X.env) = eval a X.env := by rfl) (hline : (apos.endLine == cpos.line) = true := by rfl)
    (hs : starEach [.Call (.Attribute a "items" apos) [] [] cpos] X.env = (false, eval (.Call (.Attribute a "items" apos) [] [] cpos) X.env) :: starEach [] X.env := by rfl) : EO X cl E (.Call (.Name "list" p) [.Call (.Attribute a "items" apos) [] [] cpos] [] pos) (oU liF m) := by
  obtain ⟨ta, pa, ea⟩ := ha
  refine ⟨_, pe_li hc pa hg hm hv hbase hline hs, fun g S z S' h q s H Q w sl po => ?_⟩
  rcases bd_inv h with ⟨x, S1, h1, h⟩ | ⟨c, fs, h1, rfl⟩
  · refine ea g S _ S1 h1 q s H _ w sl fun q1 H1 vx g1 w1 d1 => ?_
    obtain ⟨kvs, e, rfl, rfl⟩ := oD_inv h
    obtain ⟨l, kv, rfl, rd, dk⟩ := dcS_inv e w1 d1
    refine ⟨l, kv, rfl, rd, fun H' r ts k hr er hp => ?_⟩
    exact po q1 H' r _ (g1.trans (Gr.grown k)) (w1.grown k) (g1.free hr) er (fun m hm => w1.ne hr hm) (dts_items (dk.mono (Gr.grown (q := q1) (n := S'.length) k).ge) hp)
  · exact ea g S _ S' h1 q s H _ w sl (Post.ex (Q := fun _ _ => False) po)
end
end U

set_option Elab.async false
set_option linter.all false
set_option maxRecDepth 100000
set_option maxHeartbeats 2000000
namespace U
open PySem L2
/-! ### comprehensions of two fors -/
def cm2 (tg : GM) (t : BM) (it1 : AM) (tg1 : GM) (t1 : BM) (el : EM) (vs1 : List Nat) (g : EV) : List D → ST → Option (List D × ST)
  | [], S => some ([], S)
  | d :: ds, S => match tg d g S with
    | none => none
    | some (g1, S1) => match t g1 S1 with
      | some (.ok true, S2) => match it1 g1 S2 with
        | some (.ok es, S3) => match cmD tg1 t1 el (wpD g1 vs1) es S3 with
          | some (xs, S4) => match cm2 tg t it1 tg1 t1 el vs1 g ds S4 with
            | some (ys, S5) => some (xs ++ ys, S5)
            | none => none
          | none => none
        | _ => none
      | some (.ok false, S2) => cm2 tg t it1 tg1 t1 el vs1 g ds S2
      | _ => none
def oLc2 (it : AM) (tg : GM) (t : BM) (it1 : AM) (tg1 : GM) (t1 : BM) (el : EM) (vs vs1 : List Nat) : AM := fun g S => bd (it g S) fun ds S1 => match cm2 tg t it1 tg1 t1 el vs1 (wpD g vs) ds S1 with
  | some (xs, S2) => if few xs.length = true then some (.ok xs, S2) else none
  | none => none
/-- at L the list of what was made so far -/
def AcL (K : Fr) (q1 : Nat → Addr) (n1 : Nat) (H1 : Hp) (L : Addr) (S : ST) (accD : List D) (H : Hp) : Prop :=
  ∃ q acc, Gr q1 n1 H1 q S.length H ∧ Wd K q S H ∧ H L = some (.lst acc) ∧ (∀ m, m < S.length → q m ≠ L) ∧ Dts K q S.length H acc accD
theorem Sl.ge {K : Fr} {q q1 : Nat → Addr} {n n1 : Nat} {H H1 : Hp} {s : L2.St} {g : EV} (r : Ge q n H q1 n1 H1) (h : Sl K q n H s g) : Sl K q1 n1 H1 s g :=
  ⟨h.1, fun i d e => let ⟨v, h1, h2⟩ := h.2 i d e; ⟨v, h1, h2.mono r⟩⟩
section
variable {cl : Cl} {E : XK} {K : Fr} {m : EM} {mr mr1 : AM} {t t1 : BM} {f f1 : GM} {ix ix1 vs vs1 : List Nat}
theorem lc_inner {wi1 : TI} (hv : ∀ i ∈ ix1, i ∈ vs1) (hwi : ∀ g S r S', mr1 g S = some (r, S') → ∀ q s H R, Wd K q S H → Sl K q S.length H s g → PostI K cl q S.length H E0 R r S' → wi1 s H R)
    {g : EV} {S S1 S' : ST} {es xs accD : List D} (h1 : mr1 g S = some (.ok es, S1)) (hc : cmD f1 t1 m (wpD g vs1) es S1 = some (xs, S')) (hfew : (accD ++ xs).length ≤ 100000)
    {q0 q : Nat → Addr} {n0 : Nat} {H0 H : Hp} {L : Addr} {acc : List V} {s : L2.St} {Nx : Hp → Prop} (hL0 : H0 L = none) (g0 : Gr q0 n0 H0 q S.length H) (w : Wd K q S H) (sl : Sl K q S.length H s g) (hL : H L = some (.lst acc)) (hne : ∀ m, m < S.length → q m ≠ L) (dacc : Dts K q S.length H acc accD)
    (nx : ∀ H', AcL K q0 n0 H0 L S' (accD ++ xs) H' → Nx H') :
    wi1 s H fun J1 H4 => ∃ W1 : Nat → Nat → Hp → Prop, (∃ m, W1 0 m H4) ∧ ∀ j k H, W1 j k H →
      (J1.stop j H ∧ Nx H) ∨ (J1.go j H ∧ ∃ Nx1 : Hp → Prop, (∀ H', Nx1 H' → ∃ k', k' < k ∧ W1 (j + 1) k' H') ∧ ∀ x H', J1.yld j H x H' → rdG K ix1 f1 x (L2.wipe s vs1) H' fun σ3 H5 => L2.wipe σ3 vs1 = L2.wipe s vs1 ∧ rdT K cl E0 t1 σ3 H5 fun b H6 =>
        if b = true then rdE K cl E0 m σ3 H6 fun y H7 => ∃ acc, H7 L = some (.lst acc) ∧ acc.length < sizeLine ∧ Nx1 (upd H7 L (.lst (acc ++ [y]))) else Nx1 H6) := by
  refine hwi g S _ S1 h1 q s H _ w sl fun q1 H1 J gr1 w1 wk => ?_
  have hL1 : H1 L = some (.lst acc) := gr1.fr L _ hL hne
  have ne1 := gr1.out hL hne
  let In (i : Nat) (H2 : Hp) : Prop := ∃ q2 S2 acc2 accD2 rest, Ge q1 S1.length H1 q2 S2.length H2 ∧ Wd K q2 S2 H2 ∧ H2 L = some (.lst acc2) ∧ (∀ m, m < S2.length → q2 m ≠ L) ∧ Dts K q2 S2.length H2 acc2 accD2 ∧ accD2 ++ rest = accD ++ xs ∧ cmD f1 t1 m (wpD g vs1) (es.drop i) S2 = some (rest, S') ∧ Gr q0 n0 H0 q2 S2.length H2 ∧ Sl K q2 S2.length H2 s g
  refine ⟨fun i k H2 => k = es.length - i ∧ i ≤ es.length ∧ In i H2, ⟨es.length, by simp, Nat.zero_le _, q1, S1, acc, accD, xs, .refl, w1, hL1, ne1, dacc.mono gr1.ge, rfl, by simpa using hc, g0.trans gr1, sl.mono gr1⟩, ?_⟩
  rintro i k H2 ⟨rfl, hi, q2, S2, acc2, accD2, rest, gr2, w2, hacc, hn2, dac2, hr, hf, gz2, slz2⟩
  obtain ⟨wg, ws⟩ := wk q2 S2.length H2 gr2 i
  by_cases hlt : i < es.length
  · rw [List.drop_eq_getElem_cons hlt] at hf
    obtain ⟨go, yld⟩ := wg es[i] (List.getElem?_eq_getElem hlt)
    refine .inr ⟨go, In (i + 1), fun H3 z => ⟨es.length - (i + 1), by omega, rfl, hlt, z⟩, fun x H3 y => ?_⟩
    obtain ⟨gr3, wd3, d3⟩ := yld x H3 y
    have w3 := wd3 S2 rfl w2
    have al : acc2.length ≤ 100000 := by
      rw [dac2.length]
      have := congrArg List.length hr
      rw [List.length_append] at this
      omega
    unfold cmD at hf
    split at hf
    · cases hf
    · rename_i gA SA hA
      refine ⟨es[i], wpD g vs1, S2, gA, SA, q2, hA, w3, (slz2.mono gr3).wipe vs1, d3, fun q4 H4 s4 gr4 w4 sl4 but4 => ⟨?_, ?_⟩⟩
      · have e1 : L2.wipe s4 vs1 = L2.wipe (L2.wipe s vs1) vs1 := wipe_eq but4.1 fun j hj => but4.2 j fun z => hj (hv j z)
        rw [e1]
        exact wipe_eq (wipe_length s vs1) fun j hj => wipe_out hj
      · split at hf
        · rename_i SB hB
          refine ⟨gA, SA, _, SB, q4, hB, w4, sl4, fun q5 H5 gr5 w5 => ?_⟩
          show rdE K cl E0 m s4 H5 _
          split at hf
          · rename_i y SC hC
            refine ⟨gA, SB, _, SC, q5, hC, w5, sl4.mono gr5, fun q6 H6 v gr6 w6 d6 => ?_⟩
            split at hf
            · rename_i xs' SD hD
              cases hf
              have gl := ((gr3.trans gr4).trans gr5).trans gr6
              have hL6 : H6 L = some (.lst acc2) := gl.fr L _ hacc hn2
              have ne6 := gl.out hacc hn2
              have gw : Ge q6 SC.length H6 q6 SC.length (upd H6 L (.lst (acc2 ++ [v]))) := Ge.wr hL6 trivial
              exact ⟨acc2, hL6, Nat.lt_of_le_of_lt al (by decide), q6, SC, acc2 ++ [v], accD2 ++ [y], xs', (gr2.trans gl.ge).trans gw, w6.off hL6 trivial ne6, upd_same, ne6, ((dac2.mono gl.ge).append (.cons d6 .nil)).mono gw, by rw [List.append_assoc]; exact hr, hD, (gz2.trans gl).over hL0, (slz2.mono gl).ge gw⟩
            · cases hf
          · cases hf
        · rename_i SB hB
          refine ⟨gA, SA, _, SB, q4, hB, w4, sl4, fun q5 H5 gr5 w5 => ?_⟩
          have gl := (gr3.trans gr4).trans gr5
          exact ⟨q5, SB, acc2, accD2, rest, gr2.trans gl.ge, w5, gl.fr L _ hacc hn2, gl.out hacc hn2, dac2.mono gl.ge, hr, hf, gz2.trans gl, slz2.mono gl⟩
        · cases hf
  · have e : i = es.length := by omega
    subst e
    rw [List.drop_length] at hf
    cases hf
    rw [List.append_nil] at hr
    exact .inl ⟨ws rfl, nx H2 ⟨q2, acc2, gz2, w2, hacc, hn2, by rw [← hr]; exact dac2⟩⟩
theorem lc2_post {wi wi1 : TI} (hv : ∀ i ∈ ix, i ∈ vs) (hv1 : ∀ i ∈ ix1, i ∈ vs1) (hwi : ∀ g S r S', mr g S = some (r, S') → ∀ q s H R, Wd K q S H → Sl K q S.length H s g → PostI K cl q S.length H E R r S' → wi s H R)
    (hwi1 : ∀ g S r S', mr1 g S = some (r, S') → ∀ q s H R, Wd K q S H → Sl K q S.length H s g → PostI K cl q S.length H E0 R r S' → wi1 s H R)
    {g : EV} {S S' : ST} {z : Rs (List D)} (h : oLc2 mr f t mr1 f1 t1 m vs vs1 g S = some (z, S')) {q : Nat → Addr} {s : L2.St} {H : Hp} {Q : VK} (w : Wd K q S H) (sl : Sl K q S.length H s g) (po : PostO K cl q S.length H E Q z S') :
    tLc2 wi (rdG K ix f) (rdT K cl E0 t) wi1 (rdG K ix1 f1) (rdT K cl E0 t1) (rdE K cl E0 m) vs vs1 s H Q := by
  rcases bd_inv h with ⟨ds, S1, h1, h⟩ | ⟨c, fs, h1, rfl⟩
  · refine hwi g S _ S1 h1 q s H _ w sl fun q1 H1 J g1 w1 wk L hL => ?_
    split at h
    · rename_i total S2 hc
      split at h
      · rename_i hfew
        cases h
        have hlen : total.length ≤ 100000 := of_decide_eq_true hfew
        let In (i : Nat) (H2 : Hp) : Prop := ∃ S2 accD rest, AcL K q1 S1.length H1 L S2 accD H2 ∧ accD ++ rest = total ∧ cm2 f t mr1 f1 t1 m vs1 (wpD g vs) (ds.drop i) S2 = some (rest, S')
        refine ⟨fun i k H2 => k = ds.length - i ∧ i ≤ ds.length ∧ In i H2, ⟨ds.length, by simp, Nat.zero_le _, S1, [], total, ⟨q1, [], Gr.new hL, w1.new hL, upd_same, fun m hm => w1.ne hL hm, .nil⟩, rfl, by simpa using hc⟩, ?_⟩
        rintro i k H2 ⟨rfl, hi, S2, accD, rest, ⟨q2, acc, gr2, w2, hacc, hne, dacc⟩, hr, hf⟩
        obtain ⟨wg, ws⟩ := wk q2 S2.length H2 gr2.ge i
        by_cases hlt : i < ds.length
        · rw [List.drop_eq_getElem_cons hlt] at hf
          obtain ⟨go, yld⟩ := wg ds[i] (List.getElem?_eq_getElem hlt)
          refine .inr ⟨go, In (i + 1), fun H3 z => ⟨ds.length - (i + 1), by omega, rfl, hlt, z⟩, fun x H3 y => ?_⟩
          obtain ⟨gr3, wd3, d3⟩ := yld x H3 y
          have w3 := wd3 S2 rfl w2
          have gs : Gr q S.length H q2 S2.length H3 := (g1.trans gr2).trans gr3
          unfold cm2 at hf
          split at hf
          · cases hf
          · rename_i gA SA hA
            refine ⟨ds[i], wpD g vs, S2, gA, SA, q2, hA, w3, (sl.mono gs).wipe vs, d3, fun q4 H4 s4 gr4 w4 sl4 but4 => ⟨?_, ?_⟩⟩
            · have e1 : L2.wipe s4 vs = L2.wipe (L2.wipe s vs) vs := wipe_eq but4.1 fun j hj => but4.2 j fun z => hj (hv j z)
              rw [e1]
              exact wipe_eq (wipe_length s vs) fun j hj => wipe_out hj
            · split at hf
              · rename_i SB hB
                refine ⟨gA, SA, _, SB, q4, hB, w4, sl4, fun q5 H5 gr5 w5 => ?_⟩
                dsimp only
                rw [if_pos rfl]
                split at hf
                · rename_i es SC hC
                  split at hf
                  · rename_i xs SD hD
                    split at hf
                    · rename_i ys SE hE
                      cases hf
                      have gl := (gr3.trans gr4).trans gr5
                      refine lc_inner hv1 hwi1 hC hD (accD := accD) ?_ hL (gr2.trans gl) w5 (sl4.mono gr5) (gl.fr L _ hacc hne) (gl.out hacc hne) (dacc.mono gl.ge) fun H' ac => ⟨SD, accD ++ xs, ys, ac, by rw [List.append_assoc]; exact hr, hE⟩
                      have := congrArg List.length hr
                      simp only [List.length_append] at this ⊢
                      omega
                    · cases hf
                  · cases hf
                · cases hf
              · rename_i SB hB
                refine ⟨gA, SA, _, SB, q4, hB, w4, sl4, fun q5 H5 gr5 w5 => ?_⟩
                dsimp only
                rw [if_neg (by decide)]
                have gl := (gr3.trans gr4).trans gr5
                exact ⟨SB, accD, rest, ⟨q5, acc, gr2.trans gl, w5, gl.fr L _ hacc hne, gl.out hacc hne, dacc.mono gl.ge⟩, hr, hf⟩
              · cases hf
        · have e : i = ds.length := by omega
          subst e
          rw [List.drop_length] at hf
          cases hf
          rw [List.append_nil] at hr
          subst hr
          exact .inl ⟨ws rfl, po q2 H2 L acc (g1.trans gr2) w2 (g1.free hL) hacc hne dacc⟩
      · cases h
    · cases h
  · exact hwi g S _ S' h1 q s H _ w sl po
end
/-- the reading of what is walked that hangs on the mirror alone -/
def rdI (K : Fr) (cl : Cl) (E : XK) (mr : AM) : TI := fun s H R => ∃ g S r S' q, mr g S = some (r, S') ∧ Wd K q S H ∧ Sl K q S.length H s g ∧ PostI K cl q S.length H E R r S'
theorem EI.pi {X : Cx} {cl : Cl} {E : XK} {tg e : Expr} {mr : AM} (h : EI X cl E tg e mr) : PI X tg e (rdI X.K cl E mr) := by
  obtain ⟨wi, pi, ei⟩ := h
  exact ⟨fun pins s σ H R I ⟨g, S, r, S', q, h, w, sl, po⟩ => pi.run pins s σ H R I (ei g S r S' h q σ H R w sl po)⟩
section
variable {X : Cx} {cl : Cl} {E : XK} {tg iter elt tg1 iter1 : Expr} {ifs ifs1 : List Expr} {pos : Pos} {m : EM} {mr mr1 : AM} {t t1 : BM} {f f1 : GM} {ix ix1 vs1 : List Nat} {scope : Scope} {own : List (Str × Nat)}
theorem eo_lc2 (hv : ∀ i ∈ ix, i ∈ own.map (·.2)) (hv1 : ∀ i ∈ ix1, i ∈ vs1) (hvv : ∀ i ∈ vs1, i ∈ own.map (·.2)) (hc : X.calm = true) (hN : X.N.Nodup) (hi : EI X cl E tg iter mr) (ok : BlkOk X.N X.env.scope scope own)
    (hg : ∀ (s : Shared) (H : Hp) (C : Addr) (cl : List (Str × Addr)) (fp : List Addr), EG (X.blk s H scope (compEnvC scope cl C X.env) fp) tg ix f)
    (ht : ∀ (s : Shared) (H : Hp) (C : Addr) (l : List (Str × Addr)) (fp : List Addr), ETs (X.blk s H scope (compEnvC scope l C X.env) fp) cl E0 ifs t)
    (hi1 : ∀ (s : Shared) (H : Hp) (C : Addr) (l : List (Str × Addr)) (fp : List Addr), EI (X.blk s H scope (compEnvC scope l C X.env) fp) cl E0 tg1 iter1 mr1)
    (hg1 : ∀ (s : Shared) (H : Hp) (C : Addr) (cl : List (Str × Addr)) (fp : List Addr), EG (X.blk s H scope (compEnvC scope cl C X.env) fp) tg1 ix1 f1)
    (ht1 : ∀ (s : Shared) (H : Hp) (C : Addr) (l : List (Str × Addr)) (fp : List Addr), ETs (X.blk s H scope (compEnvC scope l C X.env) fp) cl E0 ifs1 t1)
    (he : ∀ (s : Shared) (H : Hp) (C : Addr) (l : List (Str × Addr)) (fp : List Addr), EE (X.blk s H scope (compEnvC scope l C X.env) fp) cl E0 elt m) (hs : ∀ x, foldedSetIterable iter X.env x = pure x := by intro _; rfl) (hs1 : ∀ env x, foldedSetIterable iter1 env x = pure x := by intro _ _; rfl) :
    EO X cl E (.ListComp elt [⟨tg, iter, ifs, 0⟩, ⟨tg1, iter1, ifs1, 0⟩] scope pos) (oLc2 mr f t mr1 f1 t1 m (own.map (·.2)) vs1) := by
  obtain ⟨wi, pi, ei⟩ := hi
  exact ⟨_, pe_lc2 (wi1 := rdI X.K cl E0 mr1) (g := rdG X.K ix f) (tt := rdT X.K cl E0 t) (g1 := rdG X.K ix1 f1) (tt1 := rdT X.K cl E0 t1) (te := rdE X.K cl E0 m) hc hN pi ok hvv (fun s H C l fp => (hg s H C l fp).pg) (fun s H C l fp => (ht s H C l fp).pts) (fun s H C l fp => (hi1 s H C l fp).pi) (fun s H C l fp => (hg1 s H C l fp).pg) (fun s H C l fp => (ht1 s H C l fp).pts) (fun s H C l fp => (he s H C l fp).pe) hs hs1,
    fun g S r S' h q s H Q w sl po => lc2_post (wi1 := rdI X.K cl E0 mr1) hv hv1 ei (fun g S r S' h q s H R w sl po => ⟨g, S, r, S', q, h, w, sl, po⟩) h w sl po⟩
end
end U

set_option Elab.async false
set_option linter.all false
set_option maxRecDepth 100000
set_option maxHeartbeats 2000000
namespace U
open PySem L2
/-! ### {e for x in xs}, e a whole number; sorted of it -/
section
open PySem.Spec PyProof.Rows
variable {X : Cx} {pins : List (Addr × Obj)} {σ : L2.St} {H : Hp} {s : Shared}
/-- the set object of numbers, one more put in -/
def inS (S : Int → Bool) (k : Int) : Int → Bool := fun j => S j || decide (j = k)
def noS : Int → Bool := fun _ => false
def cnS (S : Int → Bool) (n : Nat) (k : Int) : Nat := if S k = true then n else n + 1
def tSi (w : World) (wi : TI) (g : TG) (tt : TT) (te : TE) (vs : List Nat) : TE := fun σ H Q => wi σ H fun J H1 => ∀ L, H1 L = none →
  ∃ Wv : Nat → Nat → Hp → Prop, (∃ m, Wv 0 m (upd H1 L (SetO w L noS 0))) ∧ ∀ i m G, Wv i m G → (J.stop i G ∧ Q (.ref L) G) ∨
    (J.go i G ∧ ∃ Nx : Hp → Prop, (∀ G', Nx G' → ∃ m', m' < m ∧ Wv (i + 1) m' G') ∧ ∀ x G', J.yld i G x G' → g x (L2.wipe σ vs) G' fun σ2 G2 => L2.wipe σ2 vs = L2.wipe σ vs ∧ tt σ2 G2 fun b G3 =>
      if b = true then te σ2 G3 fun y G4 => ∃ k S n, y = .int k ∧ G4 L = some (SetO w L S n) ∧ n + 1 < scanBound ∧ Nx (upd G4 L (SetO w L (inS S k) (cnS S n k))) else Nx G3)
theorem addI_ok {E : Value → Shared → Prop} {L : Addr} {S : Int → Bool} {n : Nat} {k : Int} {t : Tok} {Q : Value → Shared → Prop} (I : Inv X pins σ H s) (hL : H L = some (SetO X.w L S n)) (room : n + 1 < scanBound) (h : ∀ s', Inv X pins σ (upd H L (SetO X.w L (inS S k) (cnS S n k))) s' → Q .none s') :
    wpAny (model X.prog X.w) X.A (call (.builtin "set.add") [.ref L, .int k t]) Q E s := by
  refine setR_add (setO_get I hL) room fun h' sb new => h _ ?_
  have there : ∃ u, h'.get? L = some u := by
    obtain ⟨o, _, _, _, ho, _⟩ := id new
    exact ⟨o, ho⟩
  exact I.write (e := L) (t' := s.toks + 1) (by rw [hL]; trivial) (.inl rfl) (fun b u hb hu => (sb.2 b hb).trans hu) there (setO_new new)
theorem si_core {Q : VK} {elt tg iter : Expr} {ifs : List Expr} {scope : Scope} {own : List (PySem.Str × Nat)} {pos pos' : Pos} {wi : TI} {g : TG} {tt : TT} {te : TE} {use : Option (Value → Sem Unit)} {Qf : Value → Shared → Prop} (hc : X.calm = true) (hN : X.N.Nodup) (I : Inv X pins σ H s) (hi : PI X tg iter wi) (ok : BlkOk X.N X.env.scope scope own)
    (hg : ∀ s H C l fp, PG (X.blk s H scope (compEnvC scope l C X.env) fp) tg g) (ht : ∀ s H C l fp, PTs (X.blk s H scope (compEnvC scope l C X.env) fp) ifs tt) (he : ∀ s H C l fp, PE (X.blk s H scope (compEnvC scope l C X.env) fp) elt te)
    (hs : ∀ x, foldedSetIterable iter X.env x = pure x) (h : tSi X.w wi g tt te (own.map (·.2)) σ H Q)
    (fin : ∀ L C s' m G, Inv X pins σ G s' → Q (.ref L) G → s'.heap.Ns C m → FpOk X pins G C → compPost (model X.prog X.w) X.A X.xe use Qf (.ref L) C (.ok .next) s') :
    wpAny (model X.prog X.w) X.A (comprehension (.SetComp elt [⟨tg, iter, ifs, 0⟩] scope pos) scope X.env pos' (newSet (.type "set")) false (eval iter X.env) use) Qf X.xe s := by
  have fr : ∀ y ∈ scope.names, y.2 = .free → ∃ c, X.env.cells.lookup y.1 = some c := fun y hy e => (ok.free y hy e).elim (fun k => I.ok.has _ (.inl k)) fun k => I.ok.has _ (.inr k)
  refine wpAny_comprehension_free (use := use) rfl hs (closure_ok fr) ok.kind (fun y hy e => (ok.uniq y hy).trans (congrArg some e)) (thn (hi.run pins s σ H _ I h) fun xv u1 hx => thn hx ?_)
  rintro itv u2 ⟨it, fp, tn, J, G2, rfl, I2, T, st2, f2, body⟩
  refine PpSet.newSet_ok (newEnv_comp ?_)
  generalize hL : u2.heap.objs.size = L
  have nL : G2 L = none := I2.hok.fresh (Nat.le_of_eq hL)
  obtain ⟨Wv, ⟨m0, w0⟩, turn⟩ := body L nL
  generalize hu3 : ({ u2 with heap := u2.heap.push { cls := .type "set", dict := none, data := .set #[] 0 (.fresh 0 0 (!X.w.params.followText "set-order")) } } : Shared) = u3
  have e3 : u3.heap = u2.heap.push { cls := .type "set", dict := none, data := .set #[] 0 (.fresh 0 0 (!X.w.params.followText "set-order")) } := by rw [← hu3]
  generalize hG3 : upd G2 L (SetO X.w L noS 0) = G3 at w0
  have I3 : Inv X pins σ G3 u3 := by
    rw [← hG3, ← hu3]
    refine I2.laid (t' := u2.toks) (fun b o e => Heap.get?_push_of_some _ e) (Nat.le_of_eq hL) ?_
    rw [← hL]
    exact setO_new (setR_fresh X.w)
  have f3 : ∀ b ∈ fp, FpOk X pins G3 b ∧ b < u3.heap.objs.size := fun b hb => by
    obtain ⟨o, e, _⟩ := T.obj _ _ st2 b hb
    have lt := Heap.lt_size e
    refine ⟨⟨?_, (f2 b hb).2⟩, by rw [e3, Heap.size_push]; exact Nat.lt_succ_of_lt lt⟩
    rw [← hG3, upd_ne (by rw [← hL]; exact Nat.ne_of_lt lt)]
    exact (f2 b hb).1
  have st3 : tn 0 u3.heap := T.keep _ _ _ st2 fun b _ o e => by rw [e3]; exact Heap.get?_push_of_some _ e
  have I4 := block_start I3 ok hN f3
  have pg := hg u3 G3 u3.heap.objs.size (cellsFrom (u3.heap.objs.size + 1) scope.names (cloFrom X.env.cells scope.names [])) fp
  have pt := ht u3 G3 u3.heap.objs.size (cellsFrom (u3.heap.objs.size + 1) scope.names (cloFrom X.env.cells scope.names [])) fp
  have pe := he u3 G3 u3.heap.objs.size (cellsFrom (u3.heap.objs.size + 1) scope.names (cloFrom X.env.cells scope.names [])) fp
  show codeAny _ _ (.compStart _ 0 (.ref it) (.ref L) (compEnvC scope (cellsFrom (u3.heap.objs.size + 1) scope.names (cloFrom X.env.cells scope.names [])) u3.heap.objs.size X.env)) (compPost (model X.prog X.w) X.A X.xe use Qf (.ref L) u3.heap.objs.size) { u3 with heap := pushCells (u3.heap.push { cls := .type "dict", data := .dict #[] }) scope.names }
  have nfp : ∀ b ∈ fp, G3 b = none := fun b hb => (f3 b hb).1.1
  generalize hce : compEnvC scope (cellsFrom (u3.heap.objs.size + 1) scope.names (cloFrom X.env.cells scope.names [])) u3.heap.objs.size X.env = ce at I4 pg pt pe ⊢
  have cL : ce.locals = u3.heap.objs.size := by subst hce; rfl
  generalize hu4 : ({ u3 with heap := pushCells (u3.heap.push { cls := .type "dict", data := .dict #[] }) scope.names } : Shared) = u4 at I4 ⊢
  have st4 : tn 0 u4.heap := T.keep _ _ _ st3 fun b _ o e => by rw [← hu4]; exact pushCells_keeps _ _ _ _ (Heap.get?_push_of_some _ e)
  let B := X.blk u3 G3 scope ce fp
  have fps : ∀ {σ' : L2.St} {G : Hp} {s' : Shared}, Inv B [] σ' G s' → (∀ b ∈ fp, G b = none) → ∀ b ∈ fp, FpOk B [] G b := fun {σ' G s'} I' hn b hb =>
    ⟨hn b hb, (I'.ok.exf b hb).1, I'.ok.exfs b hb, .inl hb, (I'.ok.exf b hb).2, fun p hp => absurd (show p ∈ ([] : List (Addr × Obj)) ++ [] from hp) (by simp)⟩
  let St := fun (n : Nat) (s' : Shared) => ∃ i G, Inv B [] (L2.wipe σ (own.map (·.2))) G s' ∧ tn i s'.heap ∧ (∀ b ∈ fp, G b = none) ∧ Wv i n G
  have loop : codeAny (model X.prog X.w) X.A (.compLoop (.SetComp elt [⟨tg, iter, ifs, 0⟩] scope pos) 0 (.ref it) (.ref L) ce) (compPost (model X.prog X.w) X.A X.xe use Qf (.ref L) u3.heap.objs.size) u4 := by
    refine PpSet.compLoopS_any St ?_ m0 ⟨0, G3, I4, st4, nfp, w0⟩
    rintro n u5 ⟨i, G5, I5, st5, n5, w5⟩
    rcases turn i n G5 w5 with ⟨stop, qq⟩ | ⟨go, Nx, hNx, step⟩
    · refine thnF (T.done B rfl rfl rfl hc i [] u5 _ G5 (fun _ _ => False) I5 (fps I5 n5) st5 stop) ?_
      rintro r u6 ⟨rfl, I6⟩
      have I7 : Inv X pins σ G5 u6 := I3.call' (ch := fp) I6.os I6.base I6.hok I6.bare fun b hb => by
        obtain ⟨_, a1, _, a3, a4, a5⟩ := (f3 b hb).1
        exact ⟨a3, a1, a4, a5⟩
      have nC : G5 u3.heap.objs.size = none := cL ▸ (show G5 ce.locals = none from I6.free)
      obtain ⟨m, hn, _⟩ := I6.loc
      exact fin L u3.heap.objs.size u6 m G5 I7 qq (cL ▸ (show u6.heap.Ns ce.locals m from hn)) (I3.fpOk (Nat.le_refl _) nC)
    · refine thnF (T.item B rfl rfl rfl hc i [] u5 _ G5 (fun _ _ => False) I5 (fps I5 n5) st5 go) ?_
      rintro r u6 ⟨u, rfl, h6⟩
      refine thnF h6 ?_
      rintro _ u7 ⟨x, G7, I7, r7, y7, st7, n7⟩
      have P7 := I7.pinned (fps I7 n7) (T.obj _ _ st7)
      refine thnF (pg.run _ u7 _ G7 x u _ P7 r7 (step x G7 y7)) ?_
      rintro _ u8 ⟨σ8, G8, I8, hw8, q8⟩
      refine thnF (pt.run _ u8 σ8 G8 _ I8 q8) ?_
      rintro b u9 ⟨G9, I9, q9⟩
      have on : ∀ {s' : Shared} {G : Hp}, Inv B ([] ++ pinsAt fp u7.heap) σ8 G s' → Nx G → ∃ m, m < n ∧ St m s' := fun {s' G} I' nx => by
        obtain ⟨m', hm, w'⟩ := hNx G nx
        have pin' : ∀ b ∈ fp, ∀ o, u7.heap.get? b = some o → s'.heap.get? b = some o ∧ G b = none := fun b hb o e => by
          have z := I'.pin (b, o) (List.mem_append_right _ (List.mem_append_right _ (mem_pinsAt hb e)))
          exact ⟨z.1, z.2.1⟩
        have len8 : (L2.wipe σ (own.map (·.2))).length = σ8.length := by rw [← hw8, wipe_length]
        refine ⟨m', hm, i + 1, G, (I'.unpinned (pins := [])).weak len8 (fun j v e => ?_), T.keep _ _ _ st7 fun b hb o e => (pin' b hb o e).1, fun b hb => ?_, w'⟩
        · rw [← hw8] at e
          exact (wipe_some e).1
        · obtain ⟨o, e, _⟩ := T.obj _ _ st7 b hb
          exact (pin' b hb o e).2
      cases b with
      | false =>
        rw [if_neg (by decide)] at q9
        exact on I9 q9
      | true =>
        rw [if_pos rfl] at q9
        refine thnF (pe.run _ u9 σ8 G9 _ I9 q9) ?_
        rintro z u10 ⟨yv, G10, I10, r10, k, S0, n0, rfl, hL10, room, nx⟩
        obtain ⟨t, rfl⟩ := (show ∃ t, z = Value.int k t from r10)
        exact addI_ok (X := B) I10 hL10 room fun u11 I11 => on I11 nx
  exact PpSet.codeAny_compStart_set loop (T.self X.A 0 _ _ _ st4 loop)
theorem pe_si {elt tg iter : Expr} {ifs : List Expr} {scope : Scope} {own : List (PySem.Str × Nat)} {pos : Pos} {wi : TI} {g : TG} {tt : TT} {te : TE} (hc : X.calm = true) (hN : X.N.Nodup) (hi : PI X tg iter wi) (ok : BlkOk X.N X.env.scope scope own)
    (hg : ∀ s H C l fp, PG (X.blk s H scope (compEnvC scope l C X.env) fp) tg g) (ht : ∀ s H C l fp, PTs (X.blk s H scope (compEnvC scope l C X.env) fp) ifs tt) (he : ∀ s H C l fp, PE (X.blk s H scope (compEnvC scope l C X.env) fp) elt te) (hs : ∀ x, foldedSetIterable iter X.env x = pure x) :
    PE X (.SetComp elt [⟨tg, iter, ifs, 0⟩] scope pos) (tSi X.w wi g tt te (own.map (·.2))) := by
  constructor
  intro pins s σ H Q I h
  rw [PpSet.eval_SetComp]
  refine si_core hc hN I hi ok hg ht he hs h fun L C s' m G I' q hn f => ⟨m, hn, fun h'' sb => ?_⟩
  obtain ⟨f0, f1, _, f3, f4, f5⟩ := f
  exact ⟨.ref L, G, I'.turned (t' := s'.toks) (fun b o hb e => (sb.2 b hb).trans e) f0 f1 f3 f4 f5, rfl, q⟩
end
/-! numbers put in order, each once -/
def insU (k : Int) : List Int → List Int
  | [] => [k]
  | x :: xs => if k < x then k :: x :: xs else if k = x then x :: xs else x :: insU k xs
def srtU : List Int → List Int
  | [] => []
  | x :: xs => insU x (srtU xs)
theorem insU_mem {k j : Int} : ∀ {xs : List Int}, j ∈ insU k xs ↔ j = k ∨ j ∈ xs
  | [] => by simp [insU]
  | x :: xs => by
    unfold insU
    split
    · simp
    · split
      · rename_i e
        subst e
        simp
      · simp only [List.mem_cons, insU_mem (xs := xs)]
        constructor
        · rintro (h | h | h)
          · exact .inr (.inl h)
          · exact .inl h
          · exact .inr (.inr h)
        · rintro (h | h | h)
          · exact .inr (.inl h)
          · exact .inl h
          · exact .inr (.inr h)
theorem insU_pw {k : Int} : ∀ {xs : List Int}, xs.Pairwise (· < ·) → (insU k xs).Pairwise (· < ·)
  | [], _ => by simp [insU]
  | x :: xs, h => by
    have h' := List.pairwise_cons.mp h
    unfold insU
    split
    · rename_i hk
      refine List.pairwise_cons.mpr ⟨fun j hj => ?_, h⟩
      rcases List.mem_cons.mp hj with rfl | hj
      · exact hk
      · exact Int.lt_trans hk (h'.1 j hj)
    · split
      · exact h
      · refine List.pairwise_cons.mpr ⟨fun j hj => ?_, insU_pw h'.2⟩
        rcases insU_mem.mp hj with rfl | hj
        · omega
        · exact h'.1 j hj
theorem srtU_mem {j : Int} : ∀ {xs : List Int}, j ∈ srtU xs ↔ j ∈ xs
  | [] => by simp [srtU]
  | x :: xs => by simp only [srtU, insU_mem, srtU_mem (xs := xs), List.mem_cons]
theorem srtU_pw : ∀ {xs : List Int}, (srtU xs).Pairwise (· < ·)
  | [] => List.Pairwise.nil
  | x :: xs => insU_pw srtU_pw
theorem pw_uniq : ∀ {xs ys : List Int}, xs.Pairwise (· < ·) → ys.Pairwise (· < ·) → (∀ k, k ∈ xs ↔ k ∈ ys) → xs = ys
  | [], [], _, _, _ => rfl
  | [], y :: ys, _, _, h => by have := (h y).mpr (List.mem_cons_self ..); cases this
  | x :: xs, [], _, _, h => by have := (h x).mp (List.mem_cons_self ..); cases this
  | x :: xs, y :: ys, hx, hy, h => by
    have hx' := List.pairwise_cons.mp hx
    have hy' := List.pairwise_cons.mp hy
    have e : x = y := by
      rcases List.mem_cons.mp ((h x).mp (List.mem_cons_self ..)) with e | e
      · exact e
      · rcases List.mem_cons.mp ((h y).mpr (List.mem_cons_self ..)) with e2 | e2
        · exact e2.symm
        · have a := hy'.1 x e
          have b := hx'.1 y e2
          omega
    subst e
    congr 1
    refine pw_uniq hx'.2 hy'.2 fun k => ⟨fun hk => ?_, fun hk => ?_⟩
    · rcases List.mem_cons.mp ((h k).mp (List.mem_cons_of_mem _ hk)) with e | e
      · have := hx'.1 k hk
        omega
      · exact e
    · rcases List.mem_cons.mp ((h k).mpr (List.mem_cons_of_mem _ hk)) with e | e
      · have := hy'.1 k hk
        omega
      · exact e
def intsD : List D → Option (List Int)
  | [] => some []
  | .int i :: ds => match intsD ds with
    | some is => some (i :: is)
    | none => none
  | _ :: _ => none
theorem intsD_app : ∀ {xs ys : List D} {is : List Int}, intsD (xs ++ ys) = some is → ∃ a b, intsD xs = some a ∧ intsD ys = some b ∧ is = a ++ b
  | [], ys, is, h => ⟨[], is, rfl, h, rfl⟩
  | x :: xs, ys, is, h => by
    cases x with
    | int i =>
      simp only [List.cons_append, intsD] at h
      split at h
      · rename_i l e
        cases h
        obtain ⟨a, b, h1, h2, rfl⟩ := intsD_app e
        exact ⟨i :: a, b, by simp only [intsD, h1], h2, rfl⟩
      · cases h
    | _ => cases h
def sSt (x : Option (List D × ST)) : Option (Rs (List D) × ST) := match x with
  | some (xs, S2) => match intsD xs with
    | some is => if is.length < 60 then some (.ok ((srtU is).map D.int), S2) else none
    | none => none
  | none => none
def oSi (it : AM) (tg : GM) (t : BM) (el : EM) (vs : List Nat) : AM := fun g S => bd (it g S) fun ds S1 => sSt (cmD tg t el (wpD g vs) ds S1)
theorem sSt_inv {x : Option (List D × ST)} {z : Rs (List D)} {S' : ST} (h : sSt x = some (z, S')) : ∃ xs is, x = some (xs, S') ∧ intsD xs = some is ∧ is.length < 60 ∧ z = .ok ((srtU is).map D.int) := by
  unfold sSt at h
  split at h
  · rename_i xs S2
    split at h
    · rename_i is e
      split at h
      · rename_i hl
        cases h
        exact ⟨xs, is, rfl, e, hl, rfl⟩
      · cases h
    · cases h
  · cases h
section
variable {X : Cx} {cl : Cl} {E : XK} {tg iter elt : Expr} {ifs : List Expr} {pos p cpos : Pos} {m : EM} {mr : AM} {t : BM} {f : GM} {ix vs : List Nat} {scope : Scope} {own : List (Str × Nat)}
theorem si_post {K : Fr} {w0 : World} {wi : TI} (hv : ∀ i ∈ ix, i ∈ vs) (hwi : ∀ g S r S', mr g S = some (r, S') → ∀ q s H R, Wd K q S H → Sl K q S.length H s g → PostI K cl q S.length H E R r S' → wi s H R)
    {g : EV} {S S' : ST} {z : Rs (List D)} (h : oSi mr f t m vs g S = some (z, S')) {q : Nat → Addr} {s : L2.St} {H : Hp} {Q : VK} (w : Wd K q S H) (sl : Sl K q S.length H s g) (po : PostO K cl q S.length H E Q z S') :
    tSi w0 wi (rdG K ix f) (rdT K cl E0 t) (rdE K cl E0 m) vs s H fun x H2 => rSortedSet w0 [x] H2 Q := by
  rcases bd_inv h with ⟨ds, S1, h1, h⟩ | ⟨c, fs, h1, rfl⟩
  · obtain ⟨total, is, hc, hti, hsm, rfl⟩ := sSt_inv h
    refine hwi g S _ S1 h1 q s H _ w sl fun q1 H1 J g1 w1 wk L hL => ?_
    let Sf (a : List Int) : Int → Bool := fun k => decide (k ∈ a)
    have step : ∀ (a : List Int) (k : Int), inS (Sf a) k = Sf (a ++ [k]) := fun a k => by
      funext j
      show (decide (j ∈ a) || decide (j = k)) = decide (j ∈ a ++ [k])
      simp only [List.mem_append, List.mem_singleton, Bool.decide_or]
    let In (i : Nat) (H2 : Hp) : Prop := ∃ q2 S2 accD acc n rest, Gr q1 S1.length H1 q2 S2.length H2 ∧ Wd K q2 S2 H2 ∧ H2 L = some (SetO w0 L (Sf acc) n) ∧ n ≤ acc.length ∧ (∀ m, m < S2.length → q2 m ≠ L) ∧ intsD accD = some acc ∧ accD ++ rest = total ∧ cmD f t m (wpD g vs) (ds.drop i) S2 = some (rest, S')
    have s0 : Sf [] = noS := by funext j; rfl
    refine ⟨fun i k H2 => k = ds.length - i ∧ i ≤ ds.length ∧ In i H2, ⟨ds.length, by simp, Nat.zero_le _, q1, S1, [], [], 0, total, Gr.new hL, w1.new hL, by rw [s0]; exact upd_same, Nat.le_refl _, fun m hm => w1.ne hL hm, rfl, rfl, by simpa using hc⟩, ?_⟩
    rintro i k H2 ⟨rfl, hi, q2, S2, accD, acc, n, rest, gr2, w2, hacc, hn, hne, hai, hr, hf⟩
    obtain ⟨wg, ws⟩ := wk q2 S2.length H2 gr2.ge i
    have hal : acc.length < 60 := by
      rw [← hr] at hti
      obtain ⟨a, b, e1, e2, rfl⟩ := intsD_app hti
      rw [hai] at e1
      cases e1
      rw [List.length_append] at hsm
      omega
    by_cases hlt : i < ds.length
    · rw [List.drop_eq_getElem_cons hlt] at hf
      obtain ⟨go, yld⟩ := wg ds[i] (List.getElem?_eq_getElem hlt)
      refine .inr ⟨go, In (i + 1), fun H3 z => ⟨ds.length - (i + 1), by omega, rfl, hlt, z⟩, fun x H3 y => ?_⟩
      obtain ⟨gr3, wd3, d3⟩ := yld x H3 y
      have w3 := wd3 S2 rfl w2
      have gs : Gr q S.length H q2 S2.length H3 := (g1.trans gr2).trans gr3
      unfold cmD at hf
      split at hf
      · cases hf
      · rename_i gA SA hA
        refine ⟨ds[i], wpD g vs, S2, gA, SA, q2, hA, w3, (sl.mono gs).wipe vs, d3, fun q4 H4 s4 gr4 w4 sl4 but4 => ⟨?_, ?_⟩⟩
        · have e1 : L2.wipe s4 vs = L2.wipe (L2.wipe s vs) vs := wipe_eq but4.1 fun j hj => but4.2 j fun z => hj (hv j z)
          rw [e1]
          exact wipe_eq (wipe_length s vs) fun j hj => wipe_out hj
        · split at hf
          · rename_i SB hB
            refine ⟨gA, SA, _, SB, q4, hB, w4, sl4, fun q5 H5 gr5 w5 => ?_⟩
            show rdE K cl E0 m s4 H5 _
            split at hf
            · rename_i y SC hC
              refine ⟨gA, SB, _, SC, q5, hC, w5, sl4.mono gr5, fun q6 H6 v gr6 w6 d6 => ?_⟩
              split at hf
              · rename_i xs SD hD
                cases hf
                have gl := ((gr3.trans gr4).trans gr5).trans gr6
                have hL6 : H6 L = some (SetO w0 L (Sf acc) n) := gl.fr L _ hacc hne
                have ne6 := gl.out hacc hne
                obtain ⟨j, rfl⟩ : ∃ j, y = .int j := by
                  rw [← hr] at hti
                  obtain ⟨a, b, e1, e2, rfl⟩ := intsD_app hti
                  cases y with
                  | int j => exact ⟨j, rfl⟩
                  | _ => cases e2
                obtain rfl := d6.int_inv
                refine ⟨j, Sf acc, n, rfl, hL6, by have : (100 : Nat) < scanBound := by decide
                                                   omega, q6, SC, accD ++ [.int j], acc ++ [j], cnS (Sf acc) n j, xs, (gr2.trans gl).over hL, w6.off hL6 trivial ne6, by rw [step]; exact upd_same, ?_, ne6, ?_, by rw [List.append_assoc]; exact hr, hD⟩
                · unfold cnS
                  rw [List.length_append, List.length_singleton]
                  split <;> omega
                · clear hr hacc
                  have : ∀ {l : List D} {a : List Int}, intsD l = some a → intsD (l ++ [.int j]) = some (a ++ [j]) := by
                    intro l
                    induction l with
                    | nil => intro a e; cases e; rfl
                    | cons d l ih =>
                      intro a e
                      cases d with
                      | int i =>
                        simp only [intsD] at e
                        split at e
                        · rename_i b eb
                          cases e
                          simp only [List.cons_append, intsD, ih eb]
                        · cases e
                      | _ => cases e
                  exact this hai
              · cases hf
            · cases hf
          · rename_i SB hB
            refine ⟨gA, SA, _, SB, q4, hB, w4, sl4, fun q5 H5 gr5 w5 => ?_⟩
            have gl := (gr3.trans gr4).trans gr5
            exact ⟨q5, SB, accD, acc, n, rest, gr2.trans gl, w5, gl.fr L _ hacc hne, hn, gl.out hacc hne, hai, hr, hf⟩
          · cases hf
    · have e : i = ds.length := by omega
      subst e
      rw [List.drop_length] at hf
      cases hf
      rw [List.append_nil] at hr
      subst hr
      rw [hai] at hti
      cases hti
      refine .inl ⟨ws rfl, L, Sf is, n, rfl, hacc, by omega, fun ns r pw mem _ hr => ?_⟩
      have e : ns = srtU is := pw_uniq pw srtU_pw fun k => by rw [mem k, srtU_mem]; exact decide_eq_true_iff
      subst e
      exact po q2 _ r _ ((g1.trans gr2).trans (Gr.new hr)) (w2.new hr) ((g1.trans gr2).free hr) upd_same (fun m hm => w2.ne hr hm) (dts_ints _)
  · exact hwi g S _ S' h1 q s H _ w sl po
theorem eo_si (hv : ∀ i ∈ ix, i ∈ own.map (·.2)) (hc : X.calm = true) (hN : X.N.Nodup) (hi : EI X cl E tg iter mr) (ok : BlkOk X.N X.env.scope scope own)
    (hg : ∀ (s : Shared) (H : Hp) (C : Addr) (cl : List (Str × Addr)) (fp : List Addr), EG (X.blk s H scope (compEnvC scope cl C X.env) fp) tg ix f)
    (ht : ∀ (s : Shared) (H : Hp) (C : Addr) (l : List (Str × Addr)) (fp : List Addr), ETs (X.blk s H scope (compEnvC scope l C X.env) fp) cl E0 ifs t)
    (he : ∀ (s : Shared) (H : Hp) (C : Addr) (l : List (Str × Addr)) (fp : List Addr), EE (X.blk s H scope (compEnvC scope l C X.env) fp) cl E0 elt m) (gs : Gl X "sorted") (ms : X.mg "sorted" = none) (bs : bootBuiltins "sorted" = some (.builtin "sorted")) (hs : ∀ x, foldedSetIterable iter X.env x = pure x := by intro _; rfl)
    (hst : starEach [.SetComp elt [⟨tg, iter, ifs, 0⟩] scope pos] X.env = (false, eval (.SetComp elt [⟨tg, iter, ifs, 0⟩] scope pos) X.env) :: starEach [] X.env := by rfl) :
    EO X cl E (.Call (.Name "sorted" p) [.SetComp elt [⟨tg, iter, ifs, 0⟩] scope pos] [] cpos) (oSi mr f t m (own.map (·.2))) := by
  obtain ⟨wi, pi, ei⟩ := hi
  exact ⟨_, pe_callB (cr_sortedSet hc) gs ms bs (pa_cons (pe_si (g := rdG X.K ix f) (tt := rdT X.K cl E0 t) (te := rdE X.K cl E0 m) hc hN pi ok (fun s H C l fp => (hg s H C l fp).pg) (fun s H C l fp => (ht s H C l fp).pts) (fun s H C l fp => (he s H C l fp).pe) hs) pa_nil hst) (he := hst), fun g S r S' h q s H Q w sl po => si_post hv ei h w sl po⟩
end
end U

set_option Elab.async false
set_option linter.all false
set_option maxRecDepth 100000
set_option maxHeartbeats 1000000
namespace U
open PySem L2
/-! ### the promises of methods, of classes, of defs that call themselves -/
section
open PyProof.Rows
variable {P : Program} {w : World} {K : Fr} {mg : Str → Option Value} {base : Heap} {cl : Cl} {x qual C m : Str} {params : Arguments} {body : List Stmt} {scope : Scope} {kws : List (Str × V)} {f : Addr} {fd : FuncData} {N ps : List Str} {n k j : Nat} {mb : SM} {d : DM}
theorem okm_mk (hc : Cls K (He.ga K C)) (hm : Meth K (He.ga K C) m f) (F : FunD K m qual params body scope [] kws f fd) (S : FnScope N ps scope)
    (hbn : ∀ (kV doc pm : Value) (an : Option Addr) (cdv ct : Value) (us : List Value), us.length = ps.length → bindArgs (PySem.W.fnOf m qual params body scope .none kV doc pm an cdv ct) ⟨us, []⟩ = pure (ps.zip us))
    (hb : ∀ (cdv : Value) (A : Around) (outer : List Env) (s : Shared) (H : Hp) (E : XK), RoomG k (A.deeper (PyProof.Rows.envOfC qual scope s.heap.objs.size f cdv)) → ESs (cxOf (L2.CX P w) P w K mg base N qual scope f cdv A outer s H E) cl E body mb) :
    Okm P w K mg base cl C m (k + 1) ps (mkD N.length mb) := ⟨f, fd, fn_mk F S hb, hc, hm, F.bindsN hbn⟩
/-- C(..), an __init__ without keyword-only parameters -/
theorem okc_plain (Fn : FnG P w K mg base (L2.CX P w) j f fd ps (spM K cl ps.length d)) (F : FunD K x qual params body scope [] kws f fd) (hm : mg C = some (.ref (He.ga K C))) (M : Mk K (He.ga K C) f) (hn : ps.length = n + 1)
    (hbn : ∀ (kV doc pm : Value) (an : Option Addr) (cdv ct : Value) (us : List Value), us.length = ps.length → bindArgs (PySem.W.fnOf x qual params body scope .none kV doc pm an cdv ct) ⟨us, []⟩ = pure (ps.zip us)) : Okc P w K mg base cl C j ps d n [] (fun ds _ => ds) := by
  refine ⟨f, fd, fun us _ => us, fun vs _ => vs, Fn, hm, M, fun s us ws X l1 l2 y => ?_, fun _ _ h _ => h, fun _ _ _ _ _ _ _ _ _ h _ => h⟩
  have b := F.bindsN hbn s (y :: us) X (by rw [List.append_nil, List.length_cons, l1, hn])
  rw [List.append_nil] at b
  exact b
theorem okc_ko (Fn : FnG P w K mg base (L2.CX P w) j f fd ps (spM K cl ps.length d)) (F : FunD K x qual params body scope [] kws f fd) (hm : mg C = some (.ref (He.ga K C))) (M : Mk K (He.ga K C) f) (n : Nat) (ks : List Str) (ms : List (Str × V)) (dm : List D) (cs cs' : List (Nat × Nat)) (hk : kws ≠ []) (hms : ∀ q ∈ ms, q ∈ kws) (hdm : ∀ q N H, Dts K q N H (ms.map (·.2)) dm)
    (h : ∀ (D : Addr) (doc pm : Value) (an : Option Addr) (cdv ct : Value) (us mv ws : List Value), us.length = n + 1 → mv.length = ms.length → ws.length = ks.length →
      KwChain D ((ms.map (·.1)).zip mv) (bindArgs (PySem.W.fnOf x qual params body scope .none (.ref D) doc pm an cdv ct) ⟨us, ks.zip ws⟩) (ps.zip (pks3 cs us mv ws)))
    (sh : ∀ {α : Type} (y : α) (us mv ws : List α), pks3 cs (y :: us) mv ws = y :: pks3 cs' us mv ws) : Okc P w K mg base cl C j ps d n ks (fun ds es => pks3 cs' ds dm es) := by
  obtain ⟨mv, kb⟩ := FunD.kbinds0 F (n + 1) ks ms (fun us mv ws => pks3 cs us mv ws) hk hms (fun a b c => pks3_vals a b c cs) h
  refine ⟨f, fd, fun us ws => pks3 cs' us mv ws, fun vs zs => pks3 cs' vs (ms.map (·.2)) zs, Fn, hm, M, fun s us ws X l1 l2 y => ?_, fun {vs zs us ws} _ _ r rz => ?_, fun q N H vs zs ds es _ _ a b => pks3_dts a (hdm q N H) b cs'⟩
  · have b := kb.to s (y :: us) ws X (by rw [List.length_cons, l1]) l2
    rwa [sh] at b
  · have r2 := kb.rel (vs := V.non :: vs) (us := Value.none :: us) (.cons rfl r) rz
    rw [sh, sh] at r2
    cases r2 with
    | cons _ t => exact t
theorem oka_none (F : FunD K x qual params body scope [] kws f fd) (hm : mg x = some (.ref f))
    (hbn : ∀ (kV doc pm : Value) (an : Option Addr) (cdv ct : Value) (us : List Value), us.length = ps.length → bindArgs (PySem.W.fnOf x qual params body scope .none kV doc pm an cdv ct) ⟨us, []⟩ = pure (ps.zip us)) : OkA P w K mg base cl x j ps (fun _ _ => none) f fd := by
  refine ⟨⟨fun vs H Q E h => h.1, fun A outer s H args us vs Q E _ _ _ _ h => ?_⟩, hm, F.kp, F.bindsN hbn⟩
  obtain ⟨_, _, _, _, _, _, _, _, e, _⟩ := h
  cases e
theorem okf_up {i : Nat} (h : Okf P w K mg base cl x i ps d) (hi : i ≤ j) : Okf P w K mg base cl x j ps d := by
  obtain ⟨f, fd, F, r⟩ := h
  exact ⟨f, fd, F.up hi, r⟩
end
section
variable {X : Cx} {cl : Cl} {E : XK} {a b : Expr} {pos : Pos} {ma mb : EM}
theorem et_dX {op : CmpOp} {fb : Bool → Bool} {tt : TE → TE → TE} (hp : ∀ ta tb, PE X a ta → PE X b tb → PT X (.Compare a [op] [b] pos) (tB (tt ta tb))) (ht : ∀ ta tb σ H Q, (ta σ H fun y H1 => tb σ H1 fun x H2 => ∃ a o, x = .ref a ∧ DGet H2 a y o ∧ Q (.bl (fb o.isSome)) H2) → tt ta tb σ H Q)
    (ha : EE X cl E a ma) (hb : EE X cl E b mb) : ET X cl E (.Compare a [op] [b] pos) (bVal (eOp (dinF fb) ma mb)) := by
  obtain ⟨ta, pa, ea⟩ := ha
  obtain ⟨tb, pb, eb⟩ := hb
  refine ⟨_, hp ta tb pa pb, fun g S z S' h q s H Q w sl po => ht ta tb _ _ _ ?_⟩
  have key : ∀ r T, eOp (dinF fb) ma mb g S = some (r, T) → Post X.K cl q S.length H E (fun v H1 => ∃ k, v = .bl k ∧ Q k H1) r T → ta s H fun y H1 => tb s H1 fun x H2 => ∃ a o, x = .ref a ∧ DGet H2 a y o ∧ ∃ k, V.bl (fb o.isSome) = .bl k ∧ Q k H2 := by
    intro r T h po
    rcases bd_inv h with ⟨x, S1, h1, h⟩ | ⟨c, fs, h1, rfl⟩
    · refine ea g S _ S1 h1 q s H _ w sl fun q1 H1 vx g1 w1 d1 => ?_
      rcases bd_inv h with ⟨y, S2, h2, h⟩ | ⟨c, fs, h2, rfl⟩
      · refine eb g S1 _ S2 h2 q1 s H1 _ w1 (sl.mono g1) fun q2 H2 vy g2 w2 d2 => ?_
        unfold dinF at h
        split at h
        · rename_i e1 e2
          cases h
          obtain ⟨l, o, rfl, g, eo⟩ := din_get e1 e2 w2 (d1.mono g2.ge) d2
          exact ⟨l, o, rfl, g, by rw [eo]; exact po q2 H2 _ (g1.trans g2) w2 (.bl _)⟩
        · cases h
      · exact eb g S1 _ T h2 q1 s H1 _ w1 (sl.mono g1) (Post.ex (Q := fun v H1 => ∃ k, v = V.bl k ∧ Q k H1) (po.to g1))
    · exact ea g S _ T h1 q s H _ w sl (Post.ex (Q := fun v H1 => ∃ k, v = V.bl k ∧ Q k H1) po)
  rcases bd_inv h with ⟨x, S1, h1, h⟩ | ⟨c, fs, h1, rfl⟩
  · obtain ⟨k, rfl, rfl, rfl⟩ := toB_inv h
    exact key _ _ h1 fun q' H' v g' w' d' => ⟨k, d'.bl_inv, po q' H' g' w'⟩
  · exact key _ _ h1 (Post.ex (Q := fun _ _ => False) po)
theorem et_din (hu : X.A.units + 1 < cLine) (ha : EE X cl E a ma) (hb : EE X cl E b mb) (hm : behindInMarks .In b = false := by rfl) : ET X cl E (.Compare a [.In] [b] pos) (bVal (eOp (dinF id) ma mb)) := et_dX (fun ta tb pa pb => pt_cmp (pc_din hu pa pb) hm) (fun _ _ _ _ _ h => h) ha hb
theorem et_dnotin (hu : X.A.units + 1 < cLine) (ha : EE X cl E a ma) (hb : EE X cl E b mb) (hm : behindInMarks .NotIn b = false := by rfl) : ET X cl E (.Compare a [.NotIn] [b] pos) (bVal (eOp (dinF not) ma mb)) := et_dX (fun ta tb pa pb => pt_cmp (pc_dnotin hu pa pb) hm) (fun _ _ _ _ _ h => h) ha hb
end
end U

set_option Elab.async false
set_option linter.all false
set_option maxRecDepth 100000
set_option maxHeartbeats 2000000
namespace U
open PySem L2
/-! ### exceptions of own classes as values -/
section
open PySem.Spec PySem.Calls PyProof.Rows PySem.HandSPX
variable {prog : Program} {w : World} {A : Around} {R : Result → Shared → Prop} {h : Heap} {g : Array GenState} {d : Drawn} {t : Nat} {os : OsState}
variable {nm q : Str} {C N : Addr} {bs bm bmB : List Value} {hdct : Bool} {sn : List Str} {sub : List Value} {ab : Bool} {col : Option Bool} {dd : Option Addr} {k0 k1 k2 k3 k5 : Option Value} {B newId initId : String}
/-- B.__init__(e, ..): the args, told -/
theorem init_told (FB : ExcBaseFacts B newId initId bmB) (hB : ∀ Z : String, bm.contains (.type Z) = bmB.contains (.type Z)) {e t0 : Addr} {xs : List Value}
    (hC : h.get? C = some (excClassObj nm q C N bs bm hdct sn sub ab col dd k0 k1 k2 k3 k5 newId)) (he : h.get? e = some (exR C none t0)) (hz : xs.length ≤ sizeLine)
    (k : ∀ h', (∀ b o, b ≠ e → (h.push (W.kdv_tup xs)).get? b = some o → h'.get? b = some o) → h'.get? e = some (exR C none h.objs.size) → R (.ok (.ret .none)) ⟨h', g, d, t, os⟩) :
    codeAny (model prog w) A (.call (.builtin initId) ⟨.ref e :: xs, []⟩) R ⟨h, g, d, t, os⟩ := by
  refine codeAny_call_builtin FB.init.plain FB.initEntry (check_init_own FB hB hC he rfl ?_)
  wp_walk
  refine k _ (fun b o hb ho => (Heap.get?_update_other _ _ (Ne.symm hb)).trans ho) ?_
  have z := Heap.get?_update_self (h := h.push (W.kdv_tup xs)) (Obj.mapFields fun vs => vs.setIfInBounds 0 (.ref h.objs.size)) (Heap.get?_push_of_some _ he) rfl
  exact z.trans rfl
end
def exT (e C : Addr) (d : Option Addr) (t : Addr) : HO := .ext fun h => h.get? e = some (exR C d t)
theorem exT_ok {P : Program} {w : World} {H : Hp} {h : Heap} {e C t : Addr} {d : Option Addr} (he : h.get? e = some (exR C d t)) : ObjOk P w H h e (exT e C d t) := ⟨he, ⟨_, he⟩, fun _ _ z k => k _ z⟩
theorem exT_at {P : Program} {w : World} {H : Hp} {h : Heap} {e C t : Addr} {d : Option Addr} (hok : HOk P w H h) (he : H e = some (exT e C d t)) : h.get? e = some (exR C d t) := (show ObjOk P w H h e (.ext fun h => h.get? e = some (exR C d t)) from hok e _ he).1
section
open PySem.Spec PyProof.Rows
variable {X : Cx} {pins : List (Addr × Obj)} {σ : L2.St} {H : Hp} {s : Shared} {a C n : Addr} {E : Value → Shared → Prop} {A : Around}
/-- a thing of ours is written, a new one is laid beside it -/
theorem inv_two {h' : Heap} {t' : Nat} {φ : Heap → Prop} {un ua : HO} (I : Inv X pins σ H s) (ea : H a = some (.ext φ)) (hn : s.heap.objs.size ≤ n) (k : ∀ b o, b ≠ a → s.heap.get? b = some o → h'.get? b = some o) (hx : ∃ o, h'.get? a = some o)
    (n1 : ObjOk X.prog X.w (upd (upd H n un) a ua) h' n un) (a1 : ObjOk X.prog X.w (upd (upd H n un) a ua) h' a ua) : Inv X pins σ (upd (upd H n un) a ua) { s with heap := h', toks := t' } := by
  have hN : H n = none := I.hok.fresh hn
  have ne : ∀ {b : Addr} {o : Obj}, s.heap.get? b = some o → b ≠ n := fun {b o} z => Nat.ne_of_lt (Nat.lt_of_lt_of_le (Heap.lt_size z) hn)
  have nf : ∀ {b : Addr}, H b = none → b ≠ a := fun {b} z e => by rw [e, ea] at z; cases z
  have nu : ∀ {b : Addr} {u : HO}, H b = some u → (∀ f, u ≠ .ext f) → b ≠ a := fun {b u} z hu e => by
    rw [e, ea] at z
    exact hu _ (Option.some.inj z).symm
  have up : ∀ {b : Addr} {u : HO}, H b = some u → b ≠ a → upd (upd H n un) a ua b = some u := fun {b u} z hb => by
    rw [upd_ne hb, upd_ne (ne_of_none z hN)]
    exact z
  refine I.un (t' := t') ⟨fun b o z q _ _ => k b o (nf q) z, fun b o z q _ _ => ⟨o.slots, k b o (nf q) z⟩, fun b o z q _ => ?_, fun b o z _ => ?_, fun b xs z => up z (nu z fun _ => nofun), fun b o v z => up z (nu z fun _ => nofun), fun b ps z => ⟨#[], ?_⟩⟩ fun b o z => ?_
  · rw [upd_ne (nf q), upd_ne (ne z)]
    exact q
  · by_cases hb : b = a
    · rw [hb]; exact hx
    · exact ⟨o, k b o hb z⟩
  · rw [up z (nu z fun _ => nofun), Array.append_empty]
  · by_cases hb : b = a
    · subst hb
      rw [upd_same] at z
      cases z
      exact a1
    · rw [upd_ne hb] at z
      by_cases hb2 : b = n
      · subst hb2
        rw [upd_same] at z
        cases z
        exact n1
      · rw [upd_ne hb2] at z
        have no : ∀ {c : Addr}, H c = some (.own b) → c ≠ a := fun {c} y => nu y fun _ => nofun
        exact (I.hok b o z).stay (fun c v hc y => k c v (by rcases hc with rfl | hc; exact hb; exact no hc) y) (fun c y => up y (no y)) fun c xs y => up y (nu y fun _ => nofun)
theorem x_init {t0 : Addr} {x : Str} {tk : Tok} {Q : Value → Shared → Prop} (T : OexC X.K C) (I : Inv X pins σ H s) (e : H a = some (exT a C none t0))
    (h : ∀ t1 s', H t1 = none → Inv X pins σ (upd (upd H t1 (.tup [.str x])) a (exT a C none t1)) s' → Q .none s') : wpAny (model X.prog X.w) A (call (.builtin "ValueError.__init__") [.ref a, .str x tk]) Q E s := by
  obtain ⟨nm, q, N, bs, bm, sn, sub, ab, col, dd, k0, k1, k2, k3, k5, hC, hbm⟩ := T.cls
  have ho := exT_at I.hok e
  obtain ⟨hp, g, d, t, os⟩ := s
  refine wpAny_call (init_told PySem.F.excBase_ValueError (fun Z => PySem.HandSPX.refsVE_contains Z bm hbm) (I.kIn _ _ hC) ho (show 1 ≤ sizeLine by rw [sizeLine_eq]; omega) fun h' k hx => ?_)
  have hs : (hp.push (PySem.W.kdv_tup [Value.str x tk])).get? hp.objs.size = some (PySem.W.kdv_tup [Value.str x tk]) := Heap.get?_push_size _ rfl
  have nt : hp.objs.size ≠ a := Nat.ne_of_gt (Heap.lt_size ho)
  refine h hp.objs.size _ (I.hok.fresh (Nat.le_refl _)) (inv_two (t' := t) I e (Nat.le_refl _) (fun b o hb z => k b o hb (Heap.get?_push_of_some _ z)) ⟨_, hx⟩ ⟨?_, [.str x tk], .cons ⟨tk, rfl⟩ .nil, _, k _ _ nt hs, rfl, 0, rfl⟩ (exT_ok hx))
  show 1 ≤ sizeLine
  rw [sizeLine_eq]
  omega
/-- self.f = y -/
theorem x_set {t0 : Addr} {f : Str} {y : V} {u : Value} {Q : Unit → Shared → Prop} (T : OexC X.K C) (I : Inv X pins σ H s) (e : H a = some (exT a C none t0)) (hno : PySem.W.findIn X.K (.ref C) f = some none) (ry : RelV y u)
    (h : ∀ dx s', H dx = none → Inv X pins σ (upd (upd H dx (exd dx [(f, y)])) a (exT a C (some dx) t0)) s' → Q () s') : wpAny (model X.prog X.w) A (setAttr (.ref a) f u) Q E s := by
  obtain ⟨nm, q, N, bs, bm, sn, sub, ab, col, dd, k0, k1, k2, k3, k5, hC, hbm⟩ := T.cls
  have hcl : PySem.W.clsIn X.K C = some { name := nm, bases := bs, mro := .ref C :: bm, ns := N, qualname := q, hasDict := true, slotNames := sn, subclasses := sub, abstract := ab, collection := col, hasDel := false } := by
    unfold PySem.W.clsIn
    rw [hC] <;> rfl
  have ho := exT_at I.hok e
  obtain ⟨hp, g, d, t, os⟩ := s
  refine PySem.W.set_plain I.kIn (ox := exR C none t0) (od := none) ⟨ho, rfl, rfl, trivial⟩ T.sa (PySem.HandSPX.exc_osa I.kIn ho hcl (show PySem.HandSPX.refsVE (.ref C :: bm) = true from hbm) rfl hno fun h' tk dx k dn _ hx hn => ?_)
  exact h dx _ (I.hok.fresh dn) (inv_two (t' := tk) I e dn k ⟨_, hx⟩ (exd_ok hn (relO_put (fs := []) ry fun _ => True.intro)) (exT_ok hx))
/-! what an __init__ of the two lines does -/
def spX (C : Addr) (x f : Str) : Sp := fun vs H Q _ => ∃ (a : Addr) (y : V) (t0 : Addr), vs = [.ref a, y] ∧ H a = some (exT a C none t0) ∧
  ∀ t1 dx, H t1 = none → H dx = none → t1 ≠ dx → Q .non (upd (upd (upd (upd H t1 (.tup [.str x])) a (exT a C none t1)) dx (exd dx [(f, y)])) a (exT a C (some dx) t1))
/-- what the written part says of the base B whose __init__ is called by its name -/
structure BasC (K : Fr) (mg : Str → Option Value) (B : Str) : Prop where
  at_ : mg B = some (.ref (He.ga K B))
  ga : PySem.W.specialIn K (.ref (He.ga K B)) "__getattribute__" = some (some (.builtin "type.__getattribute__"))
  rd : PySem.W.readsIn K (He.ga K B) (.type "type") = true
  it : PySem.W.findCls K (.ref (He.ga K B)) (.type "type") "__init__" = some (.val (.builtin "ValueError.__init__"))
/-- B.__init__(o, 'x') -/
def tXi (K : Fr) (x : Str) (to : TE) : TE := fun σ H Q => tCons to (tCons (tC (.str x)) tNil) σ H fun vs H1 => ∃ a C t0, vs = [.ref a, .str x] ∧ OexC K C ∧ H1 a = some (exT a C none t0) ∧ ∀ t1, H1 t1 = none → Q .non (upd (upd H1 t1 (.tup [.str x])) a (exT a C none t1))
/-- o.f = e -/
def tXs (K : Fr) (f : Str) (to te : TE) : TS := fun D σ H => te σ H fun y H1 => to σ H1 fun x H2 => ∃ a C t0, x = .ref a ∧ OexC K C ∧ PySem.W.findIn K (.ref C) f = some none ∧ H2 a = some (exT a C none t0) ∧
  ∀ dx, H2 dx = none → D.nx σ (upd (upd H2 dx (exd dx [(f, y)])) a (exT a C (some dx) t0))
theorem pe_xinit {B x : Str} {o : Expr} {to : TE} {p1 p2 p3 pos : Pos} {k3} {pl : Sem Bool} (T : BasC X.K X.mg B) (hg : Gl X B) (ho : PE X o to) (hdb : (B == ("__debug__" : Str)) = false := by decide)
    (hc : eval (.Call (.Attribute (.Name B p1) "__init__" p2) [o, .Constant (.str x) k3 p3] [] pos) X.env = (do
      let ov ← eval (.Name B p1) X.env
      standAt p2.atName
      let (f, first) ← holding [ov] (getMethod ov "__init__" pl)
      callWith pos f first (backTo pos (starEach [o, .Constant (.str x) k3 p3] X.env)) (backToKw pos (keywordEach [] X.env))) := by rfl)
    (he : starEach [o, .Constant (.str x) k3 p3] X.env = (false, eval o X.env) :: starEach [.Constant (.str x) k3 p3] X.env := by rfl) (he2 : starEach [.Constant (.str x) k3 p3] X.env = (false, eval (.Constant (.str x) k3 p3) X.env) :: starEach [] X.env := by rfl)
    (hpl : (backTo pos (starEach [.Constant (.str x) k3 p3] X.env)).any (·.1) = false := by rfl) :
    PE X (.Call (.Attribute (.Name B p1) "__init__" p2) [o, .Constant (.str x) k3 p3] [] pos) (tXi X.K x to) := by
  constructor
  intro pins s σ H Q I h
  refine PySem.W.methodCall_KW (ld_glob I hg T.at_ ?_ hdb) hc
  refine PySem.W.method_cls I.kIn T.ga (PySem.W.cls_value I.kIn T.rd T.it (by decide +kernel) ?_)
  show wpAny _ _ (callWith pos (Value.builtin "ValueError.__init__") [] (backTo pos (starEach [o, .Constant (.str x) k3 p3] X.env)) []) _ _ _
  refine PyProof.Rows.callWith_method1 (thn ((pa_cons ho (pa_cons pe_str pa_nil he2) he).run pos pins _ σ H _ (I.tok _) h) fun us s1 ⟨vs, H1, I1, r1, a, C, t0, ev, O, ea, q⟩ => ?_) he hpl
  subst ev
  obtain ⟨u1, u2, rfl, r2, r3⟩ := vals2 r1
  obtain rfl : u1 = Value.ref a := r2
  obtain ⟨tk, rfl⟩ := (show ∃ t, u2 = Value.str x t from r3)
  exact x_init O I1 ea fun t1 s' n J => ⟨.non, _, J, rfl, q t1 n⟩
/-- self.f = e, e a name -/
theorem ps_xset {f : Str} {o e : Expr} {to te : TE} {p' pos : Pos} (ho : PE X o to) (he : PE X e te) (hs : swapsWith e (some (.Attribute o f p')) pos.line X.env = pure false := by rfl) :
    PS X (.Assign [.Attribute o f p'] e pos) (tXs X.K f to te) := by
  constructor
  intro pins s σ H D I h
  refine plainObj_wpAny_Assign_Attribute (thn (he.run pins s σ H _ I h) fun v s1 ⟨y, H1, I1, r1, q1⟩ => thn (ho.run pins s1 σ H1 _ I1 q1) fun u s2 ⟨x, H2, I2, r2, z⟩ => ?_) hs
  obtain ⟨a, C, t0, rfl, O, hno, ea, q⟩ := z
  obtain rfl : u = Value.ref a := r2
  exact x_set O I2 ea hno r1 fun dx s' n J => ⟨σ, _, J, q dx n⟩
end
section
variable {P : Program} {w : World} {K : Fr} {mg : Str → Option Value} {base : Heap}
open PySem.Spec PyProof.Rows
/-- __init__(self, y): B.__init__(self, 'x'); self.f = y -/
theorem fnx_mk {CX : CXT} {x f y qual : Str} {C fI : Addr} {params : Arguments} {body : List Stmt} {scope : Scope} {kws : List (Str × V)} {fd : FuncData} (O : OexC K C) (hno : PySem.W.findIn K (.ref C) f = some none)
    (F : FunD K "__init__" qual params body scope [] kws fI fd) (S : FnScope ["self", y] ["self", y] scope)
    (hs : ∀ (cdv : Value) (A : Around) (outer : List Env) (s : Shared) (H : Hp) (E : XK), PSs (cxOf CX P w K mg base ["self", y] qual scope fI cdv A outer s H E) body (tSeq (tDrop (tXi K x (tVar 0))) (tXs K f (tVar 0) (tVar 1)))) :
    FnG P w K mg base CX 1 fI fd ["self", y] (spX C x f) := by
  refine fng_of F S (fun vs H Q E h => ?_) fun cdv A outer s H vs Q E hr h => ?_
  · obtain ⟨a, y, t0, rfl, _⟩ := h
    rfl
  · refine ⟨_, hs cdv A outer s H E, ?_⟩
    obtain ⟨a, y, t0, rfl, ea, q⟩ := h
    refine ⟨_, rfl, a, C, t0, rfl, O, ea, fun t1 n1 => ⟨_, rfl, _, rfl, a, C, t1, rfl, O, hno, upd_same, fun dx n2 => ?_⟩⟩
    have d1 : dx ≠ a := fun z => by rw [z, upd_same] at n2; cases n2
    rw [upd_ne d1] at n2
    have d2 : dx ≠ t1 := fun z => by rw [z, upd_same] at n2; cases n2
    rw [upd_ne d2] at n2
    exact q t1 dx n1 n2 (Ne.symm d2)
/-- the exception class C, made by one thing, its args the text x, its one field f -/
def Okx (P : Program) (w : World) (K : Fr) (mg : Str → Option Value) (base : Heap) (C : Str) (j : Nat) (x f : Str) : Prop :=
  ∃ (fI : Addr) (fd : FuncData) (ps : List Str), FnG P w K mg base (L2.CX P w) j fI fd ps (spX (He.ga K C) x f) ∧ ps.length = 2 ∧ mg C = some (.ref (He.ga K C)) ∧ OexC K (He.ga K C) ∧ PySem.W.findIn K (.ref (He.ga K C)) "__init__" = some (some (.ref fI)) ∧ PySem.W.typeIn K (.ref fI) = some (.type "function") ∧ Binds K fd ps []
theorem okx_mk {C x f y qual : Str} {fI : Addr} {params : Arguments} {body : List Stmt} {scope : Scope} {kws : List (Str × V)} {fd : FuncData} (O : OexC K (He.ga K C)) (hno : PySem.W.findIn K (.ref (He.ga K C)) f = some none) (hm : mg C = some (.ref (He.ga K C)))
    (hi : PySem.W.findIn K (.ref (He.ga K C)) "__init__" = some (some (.ref fI))) (ht : PySem.W.typeIn K (.ref fI) = some (.type "function"))
    (F : FunD K "__init__" qual params body scope [] kws fI fd) (S : FnScope ["self", y] ["self", y] scope)
    (hbn : ∀ (kV doc pm : Value) (an : Option Addr) (cdv ct : Value) (us : List Value), us.length = (["self", y] : List Str).length → bindArgs (PySem.W.fnOf "__init__" qual params body scope .none kV doc pm an cdv ct) ⟨us, []⟩ = pure ((["self", y] : List Str).zip us))
    (hs : ∀ (cdv : Value) (A : Around) (outer : List Env) (s : Shared) (H : Hp) (E : XK), PSs (cxOf (L2.CX P w) P w K mg base ["self", y] qual scope fI cdv A outer s H E) body (tSeq (tDrop (tXi K x (tVar 0))) (tXs K f (tVar 0) (tVar 1)))) :
    Okx P w K mg base C 1 x f := ⟨fI, fd, ["self", y], fnx_mk O hno F S hs, rfl, hm, O, hi, ht, F.bindsN hbn⟩
end
/-! ### C(e) -/
/-- what is made is shut at once -/
def tMkX (C : Addr) (x f : Str) (ta : TA) : TE := fun σ H Q => ta σ H fun vs H1 => ∃ y, vs = [y] ∧ ∀ (a t1 dx : Addr) (od : Obj), H1 a = none → H1 t1 = none → H1 dx = none → a ≠ t1 → a ≠ dx → t1 ≠ dx →
  Q (.ref a) (upd (upd (upd H1 t1 (.tup [.str x])) dx (.frz od (.xd [(f, y)]))) a (.frz (exR C (some dx) t1) (.ext fun _ => True)))
section
open PySem.Spec PyProof.Rows
variable {X : Cx} {cl : Cl} {E : XK} {e : Expr} {es : List Expr} {p pos : Pos} {mr : AM} {C x f : Str} {j : Nat} {ta : TA}
theorem inv_xshut {pins : List (Addr × Obj)} {σ : L2.St} {H : Hp} {s : Shared} {a C t1 dx : Addr} {f : Str} {y : V} (I : Inv X pins σ (upd (upd H dx (exd dx [(f, y)])) a (exT a C (some dx) t1)) s) (ne : dx ≠ a) :
    ∃ od, Inv X pins σ (upd (upd H dx (.frz od (.xd [(f, y)]))) a (.frz (exR C (some dx) t1) (.ext fun _ => True))) s := by
  have ha := exT_at I.hok upd_same
  have hd : upd (upd H dx (exd dx [(f, y)])) a (exT a C (some dx) t1) dx = some (exd dx [(f, y)]) := by rw [upd_ne ne, upd_same]
  obtain ⟨mA, hn, r⟩ := exd_at I.hok hd
  obtain ⟨od, es, ep, ho, hr⟩ := id hn
  refine ⟨od, ?_⟩
  have J := I.write (t' := s.toks) (x := a) (e := a) (o := .frz (exR C (some dx) t1) (.ext fun _ => True)) (by rw [upd_same]; exact True.intro) (.inl rfl) (fun _ _ _ z => z) ⟨_, ha⟩ ⟨ha, True.intro, ⟨_, ha⟩, fun _ _ _ _ => True.intro⟩
  rw [upd_upd] at J
  have hd2 : upd (upd H dx (exd dx [(f, y)])) a (.frz (exR C (some dx) t1) (.ext fun _ => True)) dx = some (exd dx [(f, y)]) := by rw [upd_ne ne, upd_same]
  have J2 := J.write (t' := s.toks) (x := dx) (e := dx) (o := .frz od (.xd [(f, y)])) (by rw [hd2]; exact True.intro) (.inl rfl) (fun _ _ _ z => z) ⟨_, ho⟩ ⟨ho, mA, hn, r⟩
  have ee : upd (upd (upd H dx (exd dx [(f, y)])) a (.frz (exR C (some dx) t1) (.ext fun _ => True))) dx (.frz od (.xd [(f, y)])) = upd (upd H dx (.frz od (.xd [(f, y)]))) a (.frz (exR C (some dx) t1) (.ext fun _ => True)) := by
    funext b
    by_cases h1 : b = dx
    · subst h1; rw [upd_same, upd_ne ne, upd_same]
    · rw [upd_ne h1]
      by_cases h2 : b = a
      · subst h2; rw [upd_same, upd_same]
      · rw [upd_ne h2, upd_ne h2, upd_ne h1, upd_ne h1]
  rw [ee] at J2
  exact J2
theorem pe_mkx (F : Okx X.prog X.w X.K X.mg X.base C j x f) (hr : RoomG (j + 1) X.A) (hx : Passes (L2.CX X.prog X.w) X E) (hg : Gl X C) (ha : PA X (e :: es) ta)
    (hdb : (C == ("__debug__" : Str)) = false) (he : starEach (e :: es) X.env = (false, eval e X.env) :: starEach es X.env) (hpl : (backTo pos (starEach es X.env)).any (·.1) = false) :
    PE X (.Call (.Name C p) (e :: es) [] pos) (tMkX (He.ga X.K C) x f ta) := by
  obtain ⟨fI, fd, ps, F1, pl, hm, T, iC, tI, hb⟩ := F
  constructor
  intro pins s σ H Q I h
  have kC := T.kC
  refine wpAny_Call_Name_kw (ld_glob I hg hm (PySem.W.callWith_K (h₀ := X.base) I.ok.mod.kin kC (thn (ha.run pos pins s σ H _ I h) fun us s1 ⟨vs, H1, I1, r1, y, ev, q1⟩ => ⟨I1.kIn, ?_⟩) he hpl) hdb)
  subst ev
  obtain ⟨u, rfl, ru⟩ : ∃ u, us = [u] ∧ RelV y u := by
    cases r1 with
    | cons r rr => cases rr; exact ⟨_, rfl, r⟩
  obtain ⟨nm, q, N, bs, bm, sn, sub, ab, col, dd, k0, k1, k2, k3, k5, hC, hbm⟩ := T.cls
  obtain ⟨hp, g, dr, tk, os⟩ := s1
  have hsz : hp.objs.size ≤ hp.objs.size + 1 := Nat.le_succ _
  have hn : H1 (hp.objs.size + 1) = none := I1.hok.fresh hsz
  have kk : ∀ b o, hp.get? b = some o → ((hp.push (PySem.W.kdv_tup [u])).push (PySem.HandSPX.excO (He.ga X.K C) hp.objs.size)).get? b = some o := fun b o z => Heap.get?_push_of_some _ (Heap.get?_push_of_some _ z)
  have hget : ((hp.push (PySem.W.kdv_tup [u])).push (PySem.HandSPX.excO (He.ga X.K C) hp.objs.size)).get? (hp.objs.size + 1) = some (exR (He.ga X.K C) none hp.objs.size) := by heap_get
  have I2 := I1.laid (t' := tk) (a := hp.objs.size + 1) (o := exT (hp.objs.size + 1) (He.ga X.K C) none hp.objs.size) kk hsz (exT_ok hget)
  have r2 : Vals [V.ref (hp.objs.size + 1), y] [Value.ref (hp.objs.size + 1), u] := .cons rfl (.cons ru .nil)
  have hb2 := hb ⟨(hp.push (PySem.W.kdv_tup [u])).push (PySem.HandSPX.excO (He.ga X.K C) hp.objs.size), g, dr, tk, os⟩ [Value.ref (hp.objs.size + 1), u] I2.kIn (by rw [List.append_nil, pl]; rfl)
  rw [List.append_nil] at hb2
  have run := F1.run _ X.stack _ _ ⟨[Value.ref (hp.objs.size + 1), u], []⟩ _ _ (fun v H2 => v = .non ∧ ∃ t1 dx, H1 t1 = none ∧ H1 dx = none ∧ t1 ≠ hp.objs.size + 1 ∧ dx ≠ hp.objs.size + 1 ∧ t1 ≠ dx ∧ H2 = upd (upd (upd H1 t1 (.tup [.str x])) dx (exd dx [(f, y)])) (hp.objs.size + 1) (exT (hp.objs.size + 1) (He.ga X.K C) (some dx) t1)) E (hr.make (He.ga X.K C) [u] []) (I2.env0.make (He.ga X.K C) [u] []) hb2 r2
    ⟨_, y, hp.objs.size, rfl, upd_same, fun t1 dx n1 n2 nd => ?_⟩
  · refine wpAny_call (PySem.HandSPX.call_own PySem.F.excBase_ValueError (fun Z => PySem.HandSPX.refsVE_contains Z bm hbm) (I1.kIn _ _ hC) (PySem.W.looks_findIn I1.kIn iC) (fun self => PySem.W.bind_fn I1.kIn self tI) (show 1 ≤ sizeLine by rw [sizeLine_eq]; omega) (codeAny_mono run ?_))
    rintro (er | fl) s' hq
    · exact hx pins σ _ _ er s' I2 hq
    · cases fl with
      | ret u =>
        obtain ⟨v, H', I3, rv, ev, t1, dx, n1, n2, m1, m2, m3, rfl⟩ := I2.after hq
        subst ev
        obtain ⟨od, J⟩ := inv_xshut I3 m2
        exact ⟨rv, .ref _, _, J, rfl, q1 _ t1 dx od hn n1 n2 (Ne.symm m1) (Ne.symm m2) m3⟩
      | next => exact hq.elim
      | brk => exact hq.elim
      | cont => exact hq.elim
  · have m1 : t1 ≠ hp.objs.size + 1 := fun z => by rw [z, upd_same] at n1; cases n1
    have m2 : dx ≠ hp.objs.size + 1 := fun z => by rw [z, upd_same] at n2; cases n2
    rw [upd_ne m1] at n1
    rw [upd_ne m2] at n2
    refine ⟨rfl, t1, dx, n1, n2, m1, m2, nd, ?_⟩
    funext b
    by_cases h1 : b = hp.objs.size + 1
    · subst h1; rw [upd_same, upd_same]
    · rw [upd_ne h1, upd_ne h1]
      by_cases h2 : b = dx
      · subst h2; rw [upd_same, upd_same]
      · rw [upd_ne h2, upd_ne h2, upd_ne h1]
        by_cases h3 : b = t1
        · subst h3; rw [upd_same, upd_same]
        · rw [upd_ne h3, upd_ne h3, upd_ne h1]
/-- the mirror -/
def mkX (c x f : Str) (xs : List D) (S : ST) : Option (Rs D × ST) := match xs with
  | [d] => some (.ok (.exc c x [(f, d)]), S)
  | _ => none
theorem ee_mkx (F : Okx X.prog X.w X.K X.mg X.base C j x f) (hr : RoomG (j + 1) X.A) (hx : Passes (L2.CX X.prog X.w) X E) (ha : EA X cl E (e :: es) mr) (hg : Gl X C := by rfl) (hdb : (C == ("__debug__" : Str)) = false := by decide)
    (he : starEach (e :: es) X.env = (false, eval e X.env) :: starEach es X.env := by rfl) (hpl : (backTo pos (starEach es X.env)).any (·.1) = false := by rfl) :
    EE X cl E (.Call (.Name C p) (e :: es) [] pos) (eCall (mkX C x f) mr) := by
  obtain ⟨ta, pa, ea⟩ := ha
  refine ⟨_, pe_mkx F hr hx hg pa hdb he hpl, fun g S z S' h q s H Q w sl po => ?_⟩
  rcases bd_inv h with ⟨xs, S1, h1, h⟩ | ⟨c, fs, h1, rfl⟩
  · refine ea g S _ S1 h1 q s H _ w sl fun q1 H1 vs g1 w1 d1 => ?_
    unfold mkX at h
    split at h
    · rename_i d
      cases h
      cases d1 with
      | @cons y _ _ _ dy dr =>
        cases dr
        refine ⟨_, rfl, fun a t1 dx od na nt nd m1 m2 m3 => ?_⟩
        have gt : Gr q1 S'.length H1 q1 S'.length (upd H1 t1 (.tup [.str x])) := Gr.new nt
        have nd1 : upd H1 t1 (.tup [.str x]) dx = none := by rw [upd_ne (Ne.symm m3)]; exact nd
        have gd := gt.trans (Gr.new (o := .frz od (.xd [(f, y)])) nd1)
        have na1 : upd (upd H1 t1 (.tup [.str x])) dx (.frz od (.xd [(f, y)])) a = none := by rw [upd_ne m2, upd_ne m1]; exact na
        have ga := gd.trans (Gr.new (o := .frz (exR (He.ga X.K C) (some dx) t1) (.ext fun _ => True)) na1)
        refine po q1 _ _ (g1.trans ga) (((w1.new nt).new nd1).new na1) (.exc (od := od) upd_same (.inl (.inl ?_)) ?_ (.cons (dy.mono ga.ge) .nil))
        · rw [upd_ne (Ne.symm m1), upd_ne m3, upd_same]
        · rw [upd_ne (Ne.symm m2), upd_same]
    · cases h
  · exact ea g S _ S' h1 q s H _ w sl (Post.ex (Q' := fun _ _ => False) po)
end
end U

set_option Elab.async false
set_option linter.all false
set_option maxRecDepth 100000
set_option maxHeartbeats 4000000
namespace U
open PySem L2
/-! ### isinstance of exceptions that are values -/
section
open PySem.W PySem.Spec PySem.Calls PyProof.Rows
variable {prog : Program} {w : World} {A : Around} {E : Value → Shared → Prop} {s : Shared} {K : Fr} {x D : Addr} {ox od : Obj}
theorem x_class {Q : Option Value → Shared → Prop} (C : ExcC K D) (X : K.In s.heap) (I : InstAt s.heap x ox D (some od)) (k : Q (some (.ref D)) { s with toks := s.toks + 1 }) : wpAny (model prog w) A (getAttr? (.ref x) "__class__") Q E s := by
  have hf : findObj K D (some od) "__class__" = some (.bind (.builtin "getset_descriptor.__get__") (.builtin "object.__class__")) := findObj_data (by obtain ⟨cd, z, _⟩ := any_some C.hd; rw [z]; rfl) C.ha C.hn C.ht
  obtain ⟨hp, g, d, t, os⟩ := s
  have a0 := I.type (M := model prog w)
  have a1 := looks_findIn (M := model prog w) X C.hg
  have a2 := looks_findIn (M := model prog w) X C.hk
  have a3 := looks_find (M := model prog w) X I hf
  have sb : Looks (model prog w) hp (isInstance (.ref x) (.type "BaseException")) true := a0.andThen (looks_subIn X C.hs)
  have b2 : (onTheHeap (Value.ref D) && Value.builtin "BaseException.__getattribute__" == Value.builtin "object.__getattribute__") = false := by
    rw [show (Value.builtin "BaseException.__getattribute__" == Value.builtin "object.__getattribute__") = false from by decide +kernel, Bool.and_false]
  have b3 : (false && onTheHeap (Value.builtin "BaseException.__getattribute__")) = false := rfl
  unfold getAttr? getAttrBy? getAttrBy
  refine wpAny_bind (wpAny_mkText (wpAny_bind (wpAny_attempt (wpAny_holding (wpAny_bind (a0.at (wpAny_bind (a1.at ?_))))))))
  show wpAny _ _ (if (onTheHeap (Value.ref D) && Value.builtin "BaseException.__getattribute__" == Value.builtin "object.__getattribute__") = true then _ else _) _ _ _
  rw [b2, if_neg Bool.false_ne_true]
  unfold getAttrByItsOwn hookBefore
  refine wpAny_bind ?_
  rw [if_pos (by rfl : onTheHeap (Value.ref D) = true)]
  refine a2.at (wpAny_bind (wpAny_attempt (wpAny_holding ?_)))
  unfold callGetattribute
  rw [b3, if_neg Bool.false_ne_true]
  unfold boundAndCalled
  rw [PySem.F.excAttr_ValueError.ga.bind (.ref x)]
  refine wpAny_bind (wpAny_pure ?_)
  refine wpAny_call (codeAny_call_builtin PySem.F.excAttr_ValueError.ga.plain PySem.F.entry_bexc_ga ?_)
  refine @check_slot (model prog w) _ _ ⟨hp, g, d, t + 1, os⟩ "BaseException.__getattribute__" "BaseException" "__getattribute__" (.ref x) [.str "__class__" t] [] _ (by decide +kernel) (by decide +kernel) sb (PySem.F.args_bexc_ga _ _) ?_
  unfold Builtin.«object.__getattribute__»
  refine wpAny_bind (wpAny_of_eq (a := ((Value.ref x : Value), [Value.str "__class__" t])) (by first | rfl | (simp only [slotArgs]; rfl)) ?_)
  refine wpAny_bind (wpAny_pure (wpAny_bind (a0.at (wpAny_bind (a3.at ?_)))))
  refine wpAny_bind (wpAny_holding (wpAny_call (class_get (s := ⟨hp, g, d, t + 1, os⟩) (ox := ox) (od := some od) X I C.hm ?_)))
  refine wpAny_pure ?_
  show wpAny _ _ (handedOut (.ref D)) _ _ _
  rw [handedOut_of (v := .ref D) rfl]
  first
    | exact wpAny_pure (wpAny_pure k)
    | exact wpAny_pure k
    | exact wpAny_pure (wpAny_bind (wpAny_pure (wpAny_pure k)))
theorem x_kit (C : ExcC K D) : KitX K (.ref x) (.ref D) (fun h => InstAt h x ox D (some od)) := by
  obtain ⟨cd, hc, _⟩ := any_some C.hd
  obtain ⟨c', d', sl, ho⟩ : ∃ c' d' sl, K.lookup D = some ⟨c', d', .cls cd, sl⟩ := by
    unfold clsIn at hc
    split at hc
    · rename_i c' d' cd' sl ho
      cases hc
      exact ⟨_, _, _, ho⟩
    · cases hc
  refine ⟨fun _ _ _ I => I.type, fun M h X _ => ?_, fun h tp dd its n sl X htp => ?_, fun X I k => x_class C X I k⟩
  · intro A' Q' E' s' k q
    unfold isType loadHead
    exact wpAny_bind (wpAny_loadPart (k _ _ (X _ _ ho)) (wpAny_pure q))
  · refine Bool.eq_false_iff.mpr fun q => ?_
    obtain rfl : D = tp := Value.ref.inj (beq_iff_eq.mp q)
    have z := (X _ _ ho).symm.trans htp
    cases z
end
/-- the class of a value, exceptions too -/
def TyY (K : Fr) (H : Hp) (x : V) (t : Value) : Prop := TyX K H x t ∨ ∃ (a dx t1 C : Addr) (od : Obj) (fv : List (Str × V)), x = .ref a ∧ t = .ref C ∧ ExcC K C ∧ H a = some (.frz (exR C (some dx) t1) (.ext fun _ => True)) ∧ H dx = some (.frz od (.xd fv))
section
variable {X : Cx} {pins : List (Addr × Obj)} {σ : L2.St} {H : Hp} {s : Shared}
theorem kit_ofY {x : V} {u t : Value} (I : Inv X pins σ H s) (rx : RelV x u) (ty : TyY X.K H x t) : ∃ P : Heap → Prop, PySem.W.KitX X.K u t P ∧ P s.heap ∧ u ≠ .builtin "__main__.__loader__#opaque" := by
  rcases ty with ty | ⟨a, dx, t1, C, od, fv, rfl, rfl, T, e1, e2⟩
  · exact kit_of I rx ty
  · obtain rfl : u = Value.ref a := rx
    have h1 : s.heap.get? a = some (exR C (some dx) t1) := (show ObjOk X.prog X.w H s.heap a (.frz (exR C (some dx) t1) (.ext fun _ => True)) from I.hok a _ e1).1
    have h2 : s.heap.get? dx = some od := (show ObjOk X.prog X.w H s.heap dx (.frz od (.xd fv)) from I.hok dx _ e2).1
    exact ⟨_, x_kit (ox := exR C (some dx) t1) (od := od) T, ⟨h1, rfl, rfl, h2⟩, fun z => nomatch z⟩
def rIsY (K : Fr) (cs : List String) : List V → Hp → VK → Prop := fun xs H Q => ∃ (x : V) (t : Value) (b : Bool), TyY K H x t ∧ PySem.W.kitAny K t (cs.map Value.type) = some b ∧ Q (.bl b) H ∧ ((∃ c, cs = [c] ∧ xs = [x, .ty c]) ∨ ∃ tp, xs = [x, .ref tp] ∧ H tp = some (.tup (cs.map V.ty)))
theorem kitAny_one {K : Fr} {t c : Value} {b : Bool} (h : PySem.W.kitAny K t [c] = some b) : PySem.W.kitOne K t c = some b := by
  unfold PySem.W.kitAny at h
  cases e : PySem.W.kitOne K t c with
  | none => rw [e] at h; cases h
  | some v =>
    rw [e] at h
    cases v with
    | true => simpa using h
    | false => simpa [PySem.W.kitAny] using h
theorem vals_ty : ∀ {cs : List String} {us : List Value}, Vals (cs.map V.ty) us → us = cs.map Value.type
  | [], _, .nil => rfl
  | _ :: _, _, .cons r t => by
    rw [List.map_cons, ← vals_ty t]
    cases r
    rfl
theorem cr_isY {cs : List String} : CallR X (.builtin "isinstance") (rIsY X.K cs) := by
  intro pins s σ H xs us Q I r h
  obtain ⟨x, t, b, ty, e, q, h⟩ := h
  rcases h with ⟨c, rfl, rfl⟩ | ⟨tp, rfl, hT⟩
  · obtain ⟨u1, u2, rfl, r1, r2⟩ := vals2 r
    obtain ⟨P, Z, p, hx⟩ := kit_ofY I r1 ty
    cases (show u2 = Value.type c from r2)
    exact PySem.W.kia_one Z I.kIn p (kitAny_one e) hx fun tk => ⟨.bl b, H, I.tok tk, rfl, q⟩
  · obtain ⟨u1, u2, rfl, r1, r2⟩ := vals2 r
    obtain ⟨P, Z, p, hx⟩ := kit_ofY I r1 ty
    cases (show u2 = Value.ref tp from r2)
    obtain ⟨_, its, rv, o, h1, h2, n, h3⟩ := (show ObjOk X.prog X.w H s.heap tp (.tup (cs.map V.ty)) from I.hok tp _ hT)
    obtain rfl := vals_ty rv
    obtain ⟨oc, od, dt, sl⟩ := o
    simp only at h2 h3
    subst h2 h3
    exact PySem.W.kia_tup Z I.kIn p h1 e hx fun tk => ⟨.bl b, H, I.tok tk, rfl, q⟩
end
/-- the exception classes xs -/
structure XCs (K : Fr) (xs : List Str) : Prop where
  own : ∀ c ∈ xs, ExcC K (He.ga K c) ∧ ∀ t ∈ ["int", "bool", "str", "tuple", "list", "dict"], PySem.W.kitOne K (.ref (He.ga K c)) (.type t) = some false
def isiX (xs : List Str) (cs : List String) (x : D) (S : ST) : Option (Rs D × ST) := match x with
  | .exc c _ _ => if c ∈ xs then some (.ok (.bl false), S) else none
  | x => isiF cs x S
theorem kitAny_no {K : Fr} {t : Value} : ∀ {cs : List String}, (∀ c ∈ cs, PySem.W.kitOne K t (.type c) = some false) → PySem.W.kitAny K t (cs.map Value.type) = some false
  | [], _ => kitAny_nil
  | c :: cs, h => kitAny_cons (h c List.mem_cons_self) (fun _ => kitAny_no fun z hz => h z (List.mem_cons_of_mem _ hz)) (fun z => by cases z)
theorem isiX_inv {K : Fr} {q : Nat → Addr} {S S' : ST} {H : Hp} {v : V} {d : D} {r : Rs D} {xs : List Str} {cs : List String} (T : XCs K xs) (hc : cs.all asked = true) (h : isiX xs cs d S = some (r, S')) (w : Wd K q S H) (z : Dt K q S.length H v d) :
    ∃ t b, r = .ok (.bl b) ∧ S' = S ∧ TyY K H v t ∧ PySem.W.kitAny K t (cs.map Value.type) = some b := by
  unfold isiX at h
  split at h
  · rename_i c x fs
    split at h
    · rename_i hm
      cases h
      obtain ⟨C, k⟩ := T.own c hm
      cases z with
      | exc e1 e2 e3 e4 =>
        refine ⟨_, false, rfl, rfl, .inr ⟨_, _, _, _, _, _, rfl, rfl, C, e1, e3⟩, kitAny_no fun t ht => k t ?_⟩
        have y := List.all_eq_true.mp hc t ht
        simp only [asked, Bool.or_eq_true, beq_iff_eq] at y
        rcases y with ((((rfl | rfl) | rfl) | rfl) | rfl) | rfl <;> simp
    · cases h
  · unfold isiF at h
    split at h
    · rename_i t e
      cases h
      obtain ⟨ty, ht⟩ := tyD_inv e w z
      exact ⟨_, _, rfl, rfl, .inl ty, kit_any ht hc⟩
    · cases h
section
variable {X : Cx} {cl : Cl} {E : XK} {a : Expr} {pos : Pos} {ma : EM} {xs : List Str}
theorem ee_isx {p p1 : Pos} {c : Str} {cs : String} (T : XCs X.K xs) (ha : EE X cl E a ma) (hg : Gl X "isinstance") (hm : X.mg "isinstance" = none) (hv : bootBuiltins "isinstance" = some (.builtin "isinstance")) (gc : Gl X c) (mc : X.mg c = none) (vc : bootBuiltins c = some (.type cs))
    (hc : asked cs = true) (hn : c ≠ "__name__") (hd : (c == ("__debug__" : Str)) = false)
    (hst : starEach [a, .Name c p1] X.env = (false, eval a X.env) :: starEach [.Name c p1] X.env := by rfl) (hpl : (backTo pos (starEach [.Name c p1] X.env)).any (·.1) = false := by rfl) (hs2 : starEach [.Name c p1] X.env = (false, eval (.Name c p1) X.env) :: starEach [] X.env := by rfl) :
    EE X cl E (.Call (.Name "isinstance" p) [a, .Name c p1] [] pos) (eUn (isiX xs [cs]) ma) := by
  obtain ⟨ta, pa, ea⟩ := ha
  refine ⟨_, pe_callB (cr_isY (cs := [cs])) hg hm hv (pa_cons pa (pa_cons (pe_bltn (v := .ty cs) gc mc vc rfl hn hd) pa_nil hs2) hst) (by decide) (by decide) hst hpl, fun g S z S' h q s H Q w sl po => ?_⟩
  rcases bd_inv h with ⟨x, S1, h1, h⟩ | ⟨c, fs, h1, rfl⟩
  · refine ea g S _ S1 h1 q s H _ w sl fun q1 H1 vx g1 w1 d1 => ?_
    obtain ⟨t, b, rfl, rfl, ty, k⟩ := isiX_inv T (by rw [List.all_cons, hc]; rfl) h w1 d1
    exact ⟨vx, t, b, ty, k, po q1 H1 _ g1 w1 (.bl _), .inl ⟨cs, rfl, rfl⟩⟩
  · exact ea g S _ S' h1 q s H _ w sl (Post.ex (Q := Q) po)
theorem ee_isx2 {p p1 p2 p3 : Pos} {k3} {c d : Str} {cs ds : String} (T : XCs X.K xs) (ha : EE X cl E a ma) (hg : Gl X "isinstance") (hm : X.mg "isinstance" = none) (hv : bootBuiltins "isinstance" = some (.builtin "isinstance"))
    (gc : Gl X c) (mc : X.mg c = none) (vc : bootBuiltins c = some (.type cs)) (hc : asked cs = true) (hn : c ≠ "__name__") (hd : (c == ("__debug__" : Str)) = false)
    (gd : Gl X d) (md : X.mg d = none) (vd : bootBuiltins d = some (.type ds)) (hc2 : asked ds = true) (hn2 : d ≠ "__name__") (hd2 : (d == ("__debug__" : Str)) = false)
    (hst : starEach [a, .Tuple [.Name c p1, .Name d p2] k3 p3] X.env = (false, eval a X.env) :: starEach [.Tuple [.Name c p1, .Name d p2] k3 p3] X.env := by rfl) (hpl : (backTo pos (starEach [.Tuple [.Name c p1, .Name d p2] k3 p3] X.env)).any (·.1) = false := by rfl)
    (hs2 : starEach [.Tuple [.Name c p1, .Name d p2] k3 p3] X.env = (false, eval (.Tuple [.Name c p1, .Name d p2] k3 p3) X.env) :: starEach [] X.env := by rfl)
    (hs3 : starEach [.Name c p1, .Name d p2] X.env = (false, eval (.Name c p1) X.env) :: starEach [.Name d p2] X.env := by rfl) (hs4 : starEach [.Name d p2] X.env = (false, eval (.Name d p2) X.env) :: starEach [] X.env := by rfl) :
    EE X cl E (.Call (.Name "isinstance" p) [a, .Tuple [.Name c p1, .Name d p2] k3 p3] [] pos) (eUn (isiX xs [cs, ds]) ma) := by
  obtain ⟨ta, pa, ea⟩ := ha
  refine ⟨_, pe_callB (cr_isY (cs := [cs, ds])) hg hm hv (pa_cons pa (pa_cons (pe_tup (pa_cons (pe_bltn (v := .ty cs) gc mc vc rfl hn hd) (pa_cons (pe_bltn (v := .ty ds) gd md vd rfl hn2 hd2) pa_nil hs4) hs3)) pa_nil hs2) hst) (by decide) (by decide) hst hpl, fun g S z S' h q s H Q w sl po => ?_⟩
  rcases bd_inv h with ⟨x, S1, h1, h⟩ | ⟨c, fs, h1, rfl⟩
  · refine ea g S _ S1 h1 q s H _ w sl fun q1 H1 vx g1 w1 d1 => ?_
    refine ⟨by show 2 ≤ sizeLine; decide, fun p hp => ?_⟩
    obtain ⟨t, b, rfl, rfl, ty, k⟩ := isiX_inv (cs := [cs, ds]) T (by rw [List.all_cons, List.all_cons, hc, hc2]; rfl) h (w1.new (o := .tup [.ty cs, .ty ds]) hp) (d1.mono (Gr.new hp).ge)
    exact ⟨vx, t, b, ty, k, po q1 _ _ (g1.trans (Gr.new hp)) (w1.new hp) (.bl _), .inr ⟨p, rfl, upd_same⟩⟩
  · exact ea g S _ S' h1 q s H _ w sl (Post.ex (Q := Q) po)
end
end U

set_option Elab.async false
set_option linter.all false
set_option maxRecDepth 100000
set_option maxHeartbeats 4000000
namespace U
open PySem L2
/-! ### repr of an exception that is a value -/
/-- what the class of an exception says for its repr: it is shown by the name nm -/
structure XNm (K : Fr) (C : Addr) (nm : Str) : Prop where
  cls : ∃ cd, PySem.W.clsIn K C = some cd ∧ Str.ofString ((cd.name.toString.cutAt '.').getLastD "") = nm
  rp : PySem.W.findIn K (.ref C) "__repr__" = some (some (.builtin "BaseException.__repr__"))
  sb : PySem.W.subIn K (.ref C) (.type "BaseException") = some true
def excText (nm x : Str) : Str := nm ++ "(" ++ reprText x ++ ")"
section
open PySem.W PySem.Spec PySem.Calls PyProof.Rows PySem.Builtin PySem.Builtin.BaseException
variable {prog : Program} {w : World} {K : Fr} {a C t1 : Addr} {ox : Obj} {od : Option Obj} {nm x : Str} {tk : Tok} {h₀ : Heap}
theorem x_body {A : Around} {E : Value → Shared → Prop} {s : Shared} {b : Nat} {vs : Array Value} {Q : Fin → Shared → Prop} (T : XNm K C nm) (X : K.In s.heap) (I : InstAt s.heap a ox C od) (hd : ox.data = .fields vs) (h0 : vs[0]? = some (.ref t1)) (ht : s.heap.TupAt t1 [.str x tk])
    (hz : b + (excText nm x).length ≤ sizeLine) (k : ∀ u tk, Q (.done (.ret (.str (excText nm x) u))) { s with toks := tk }) : wpAny (model prog w) A (bexcReprAt b ⟨[.ref a], []⟩) Q E s := by
  obtain ⟨cd, hc, rfl⟩ := T.cls
  obtain ⟨hp, g, d, t, os⟩ := s
  have a0 := I.type (M := model prog w)
  have a1 := looks_clsIn (M := model prog w) X hc
  have hne : (Value.ref C == Value.type "builtin_function_or_method") = false := rfl
  have L : Looks (model prog w) hp (typeNameOfWhole (.ref a)) cd.name.toString := by
    unfold typeNameOfWhole shownTypeOf
    refine Looks.andThen (a := Value.ref C) (a0.andThen ?_) (a1.andThen .now)
    rw [hne, if_neg Bool.false_ne_true]
    exact .now
  obtain ⟨ot, kk, hto, _, htd⟩ := ht
  have e1 := hz
  unfold excText at e1
  have eP : (Str.ofString "(").length = 1 := by rw [PySem.ofString_length]; rfl
  rw [strLen_append, strLen_append, strLen_append, eP] at e1
  have z1 : b + ((Str.ofString ((cd.name.toString.cutAt '.').getLastD "")).length + 1) ≤ sizeLine := by omega
  have z2 : (reprText x).length ≤ sizeLine := by omega
  have z3 : (Str.ofString ((cd.name.toString.cutAt '.').getLastD "") ++ Str.ofString "(" ++ reprText x ++ Str.ofString ")").length ≤ sizeLine := Nat.le_trans (Nat.le_add_left _ b) hz
  unfold bexcReprAt bexcArgs
  repeat (first | with_reducible refine L.at ?_ | with_reducible refine wpAny_field I.at_ hd h0 ?_ | with_reducible refine wpAny_seqItems hto htd ?_ | rw [pyReprUnder_leaf (v := .str x tk) z1 (by intro a; nofun)] | with_reducible refine wpAny_pyRepr_str ?_ | wp_step)
  exact k _ _
theorem x_special {A : Around} {E : Value → Shared → Prop} {s : Shared} {last : Value → List Value → Sem Value} {Q : Option Value → Shared → Prop} (T : XNm K C nm) (X : K.In s.heap) (I : InstAt s.heap a ox C od)
    (k : wpAny (model prog w) A (last (.builtin "BaseException.__repr__") [.ref a]) (fun v => Q (some v)) E s) : wpAny (model prog w) A (callSpecialIfBoundBy? last (.ref a) "__repr__") Q E s := by
  have L : Looks (model prog w) s.heap (specialOf (.ref a) "__repr__") (some (.builtin "BaseException.__repr__")) := I.type.andThen (looks_findIn X T.rp)
  simp only [callSpecialIfBoundBy?, bindSpecialIfBound?]
  refine wpAny_holding (wpAny_bind (wpAny_bind (L.here ?_)))
  simp only [PySem.F.excStr_ValueError.repr.bind]
  refine wpAny_bind (wpAny_askSetting (wpAny_ite ?_))
  have z : wpAny (model prog w) A (last (.builtin "BaseException.__repr__") [.ref a] >>= fun v => pure (some v)) Q E s := wpAny_bind (wpAny_mono k (fun _ _ y => wpAny_pure y) fun _ _ y => y)
  split
  · exact wpAny_bind (wpAny_pure (wpAny_pure z))
  · exact wpAny_tryCatch (wpAny_bind (wpAny_pure (wpAny_pure z)))
theorem x_reprK {as : List Addr} {vs : Array Value} (T : XNm K C nm) (X : K.In h₀) (I : InstAt h₀ a ox C od) (hd : ox.data = .fields vs) (h0 : vs[0]? = some (.ref t1)) (ht : h₀.TupAt t1 [.str x tk]) : ReprK prog w as h₀ 1 (.ref a) (excText nm x) := by
  intro base hb A g E s Q hg hcl hu hk0 hQ
  have Xs : K.In s.heap := fun b o z => hk0 _ _ (X b o z)
  have Is : InstAt s.heap a ox C od := by
    refine ⟨hk0 _ _ I.at_, I.cls, I.no, ?_⟩
    have z := I.dict
    revert z
    cases ox.dict <;> cases od <;> first | exact id | exact fun z => hk0 _ _ z
  have ts : s.heap.TupAt t1 [.str x tk] := by
    obtain ⟨o, n, z, r⟩ := ht
    exact ⟨o, n, hk0 _ _ z, r⟩
  have L : Looks (model prog w) s.heap (specialOf (.ref a) "__repr__") (some (.builtin "BaseException.__repr__")) := Is.type.andThen (looks_findIn Xs T.rp)
  have sb : Looks (model prog w) s.heap (isInstance (.ref a) (.type "BaseException")) true := Is.type.andThen (looks_subIn Xs T.sb)
  refine wpAny_pyReprUnder_ref (by omega) ?_
  unfold pyReprObjUnder pyReprObjBy
  refine wpAny_bind (wpAny_cRoomFor (by omega) (wpAny_bind (L.here (wpAny_bind (x_special T Xs Is ?_)))))
  simp only [show reprUnder? (.builtin "BaseException.__repr__") = some (.builtin "BaseException.__repr__.under") from rfl]
  refine wpAny_call (codeAny_call_builtin PySem.F.plain_bexc_repr_under PySem.F.entry_bexc_repr_under ?_)
  rw [PySem.F.check_bexc_repr_under]
  refine wpAny_pure ?_
  show wpAny _ _ (reprTwin "BaseException.__repr__" bexcReprAt _) _ _ _
  rw [reprTwin_eq]
  refine wpAny_bind (@check_slot (model prog w) _ _ s "BaseException.__repr__" "BaseException" "__repr__" (.ref a) [] [] _ (by decide +kernel) (by decide +kernel) sb (PySem.F.args_bexc_repr _) ?_)
  refine x_body T Xs Is hd h0 ts hb fun u tk => ?_
  exact wpAny_bind (wpAny_isInstance (T := "str") (b := true) rfl isSubtype_str_str (wpAny_pure ⟨_, _, rfl, hQ _ _ fun _ _ z => z⟩))
end
/-! ### texts of things, exceptions and dicts among them -/
mutual
inductive Rp (K : Fr) (h : Heap) : Value → Str → Nat → Prop
  | non : Rp K h .none "None" 0
  | bl (b : Bool) : Rp K h (.bool b) (if b then "True" else "False") 0
  | int {i : Int} {tk : Tok} : i.natAbs.log2 < 1920 → Rp K h (.int i tk) (toString i) 0
  | str {x : Str} {tk : Tok} : Rp K h (.str x tk) (reprText x) 0
  | lst {a : Addr} {o : Obj} {vs : Array Value} {n k : Nat} {ts : List Str} : h.get? a = some o → o.cls = .type "list" → o.data = .seq vs n → Rps K h vs.toList ts k → Rp K h (.ref a) (listText ts) (k + 1)
  | tup {a : Addr} {o : Obj} {vs : Array Value} {n k : Nat} {ts : List Str} : h.get? a = some o → o.cls = .type "tuple" → o.data = .seq vs n → Rps K h vs.toList ts k → Rp K h (.ref a) (tupleText ts) (k + 1)
  | dic {a : Addr} {o : Obj} {es : Array DictEntry} {n k : Nat} {ts : List Str} : h.get? a = some o → o.cls = .type "dict" → o.data = .dict es n → (a == sysModules) = false → Rpe K h es.toList ts k → Rp K h (.ref a) (dictText ts) (k + 1)
  | exc {a C dx t1 : Addr} {od : Obj} {nm x : Str} {tk : Tok} : XNm K C nm → PySem.W.InstAt h a (exR C (some dx) t1) C (some od) → h.TupAt t1 [.str x tk] → Rp K h (.ref a) (excText nm x) 1
inductive Rps (K : Fr) (h : Heap) : List Value → List Str → Nat → Prop
  | nil : Rps K h [] [] 0
  | cons {v : Value} {t : Str} {n m : Nat} {vs : List Value} {ts : List Str} : Rp K h v t n → Rps K h vs ts m → Rps K h (v :: vs) (t :: ts) (max n m)
inductive Rpe (K : Fr) (h : Heap) : List DictEntry → List Str → Nat → Prop
  | nil : Rpe K h [] [] 0
  | cons {e : DictEntry} {k v : Str} {n1 n2 m : Nat} {es : List DictEntry} {ps : List Str} : Rp K h e.key k n1 → Rp K h e.val v n2 → Rpe K h es ps m → Rpe K h (e :: es) ((k ++ ": " ++ v) :: ps) (max (max n1 n2) m)
end
section
variable {K : Fr} {h : Heap}
mutual
theorem Rp.det : ∀ {v : Value} {t t' : Str} {n n' : Nat}, Rp K h v t n → Rp K h v t' n' → n = n'
  | _, _, _, _, _, .non, .non => rfl
  | _, _, _, _, _, .bl _, .bl _ => rfl
  | _, _, _, _, _, .int _, .int _ => rfl
  | _, _, _, _, _, .str, .str => rfl
  | _, _, _, _, _, .lst h1 h2 h3 h4, r => by
    cases r with
    | lst g1 g2 g3 g4 => rw [h1] at g1; cases g1; rw [h3] at g3; cases g3; rw [Rps.det h4 g4]
    | tup g1 g2 g3 g4 => rw [h1] at g1; cases g1; rw [h2] at g2; exact absurd g2 (by decide)
    | dic g1 g2 g3 _ g4 => rw [h1] at g1; cases g1; rw [h2] at g2; exact absurd g2 (by decide)
    | exc _ g _ => have := g.at_; rw [h1] at this; cases this; cases h2
  | _, _, _, _, _, .tup h1 h2 h3 h4, r => by
    cases r with
    | tup g1 g2 g3 g4 => rw [h1] at g1; cases g1; rw [h3] at g3; cases g3; rw [Rps.det h4 g4]
    | lst g1 g2 g3 g4 => rw [h1] at g1; cases g1; rw [h2] at g2; exact absurd g2 (by decide)
    | dic g1 g2 g3 _ g4 => rw [h1] at g1; cases g1; rw [h2] at g2; exact absurd g2 (by decide)
    | exc _ g _ => have := g.at_; rw [h1] at this; cases this; cases h2
  | _, _, _, _, _, .dic h1 h2 h3 h0 h4, r => by
    cases r with
    | dic g1 g2 g3 _ g4 => rw [h1] at g1; cases g1; rw [h3] at g3; cases g3; rw [Rpe.det h4 g4]
    | lst g1 g2 g3 g4 => rw [h1] at g1; cases g1; rw [h2] at g2; exact absurd g2 (by decide)
    | tup g1 g2 g3 g4 => rw [h1] at g1; cases g1; rw [h2] at g2; exact absurd g2 (by decide)
    | exc _ g _ => have := g.at_; rw [h1] at this; cases this; cases h2
  | _, _, _, _, _, .exc _ h1 _, r => by
    have h0 := h1.at_
    cases r with
    | exc _ _ _ => rfl
    | lst g1 g2 g3 g4 => rw [h0] at g1; cases g1; cases g2
    | tup g1 g2 g3 g4 => rw [h0] at g1; cases g1; cases g2
    | dic g1 g2 g3 _ g4 => rw [h0] at g1; cases g1; cases g2
theorem Rps.det : ∀ {v : List Value} {t t' : List Str} {n n' : Nat}, Rps K h v t n → Rps K h v t' n' → n = n'
  | _, _, _, _, _, .nil, .nil => rfl
  | _, _, _, _, _, .cons a b, .cons c d => by rw [Rp.det a c, Rps.det b d]
theorem Rpe.det : ∀ {v : List DictEntry} {t t' : List Str} {n n' : Nat}, Rpe K h v t n → Rpe K h v t' n' → n = n'
  | _, _, _, _, _, .nil, .nil => rfl
  | _, _, _, _, _, .cons a1 a2 b, .cons c1 c2 d => by rw [Rp.det a1 c1, Rp.det a2 c2, Rpe.det b d]
end
/-- what is met on the way is no deeper than n -/
def RA (K : Fr) (h : Heap) (n : Nat) (bs : List Addr) : Prop := ∀ b ∈ bs, ∃ t m, m ≤ n ∧ Rp K h (.ref b) t m
theorem ra_nil {n : Nat} : RA K h n [] := fun _ z => nomatch z
theorem RA.up {n n' : Nat} {bs : List Addr} (r : RA K h n bs) (z : n ≤ n') : RA K h n' bs := fun b hb => let ⟨t, m, y, r⟩ := r b hb; ⟨t, m, Nat.le_trans y z, r⟩
theorem RA.app {n : Nat} {bs cs : List Addr} (r : RA K h n bs) (s : RA K h n cs) : RA K h n (bs ++ cs) := fun b hb => (List.mem_append.mp hb).elim (r b) (s b)
theorem RA.cons {n : Nat} {a : Addr} {t : Str} {bs : List Addr} (r : RA K h n bs) (s : Rp K h (.ref a) t (n + 1)) : RA K h (n + 1) (a :: bs) := fun b hb => by
  rcases List.mem_cons.mp hb with rfl | hb
  · exact ⟨t, _, Nat.le_refl _, s⟩
  · exact r.up (Nat.le_succ _) b hb
theorem RA.not {n : Nat} {a : Addr} {t : Str} {bs : List Addr} (r : RA K h n bs) (s : Rp K h (.ref a) t (n + 1)) : a ∉ bs := fun hb => by
  obtain ⟨t', m, z, r⟩ := r a hb
  have := r.det s
  omega
variable {prog : Program} {w : World}
theorem ReprK.up {as as' : List Addr} {d d' : Nat} {x : Value} {t : Str} (r : ReprK prog w as h d x t) (hs : ∀ b ∈ as, b ∈ as') (hd : d ≤ d') : ReprK prog w as' h d' x t := (r.more hs).level_le hd
theorem allk_up {as as' : List Addr} {d d' : Nat} (hs : ∀ b ∈ as, b ∈ as') (hd : d ≤ d') : ∀ {xs : List Value} {ts : List Str}, ReprAllK prog w as h d xs ts → ReprAllK prog w as' h d' xs ts
  | _, _, .nil => .nil
  | _, _, .cons a b => .cons (ReprK.up a hs hd) (allk_up hs hd b)
theorem entk_up {as as' : List Addr} {d d' : Nat} (hs : ∀ b ∈ as, b ∈ as') (hd : d ≤ d') : ∀ {xs : List DictEntry} {ts : List Str}, ReprEntriesK prog w as h d xs ts → ReprEntriesK prog w as' h d' xs ts
  | _, _, .nil => .nil
  | _, _, .cons a a' b => .cons (ReprK.up a hs hd) (ReprK.up a' hs hd) (entk_up hs hd b)
theorem allk_item {as : List Addr} {d : Nat} : ∀ {xs : List Value} {ts : List Str}, ReprAllK prog w as h d xs ts → ∀ (i : Nat) (y : Value), xs[i]? = some y → ∃ t, ts[i]? = some t ∧ ReprK prog w as h d y t
  | _, _, .nil, _, _, e => by simp at e
  | _, _, .cons a b, 0, _, e => by simp at e; subst e; exact ⟨_, rfl, a⟩
  | _, _, .cons a b, i + 1, y, e => by
    obtain ⟨t, e1, r⟩ := allk_item b i y (by simpa using e)
    exact ⟨t, by simpa using e1, r⟩
theorem memL {bs cs : List Addr} : ∀ b ∈ bs, b ∈ bs ++ cs := fun _ z => List.mem_append_left _ z
theorem memR {bs cs : List Addr} : ∀ b ∈ cs, b ∈ bs ++ cs := fun _ z => List.mem_append_right _ z
mutual
theorem Rp.k (X : K.In h) : ∀ {v : Value} {t : Str} {n : Nat}, Rp K h v t n → ∃ bs, RA K h n bs ∧ ReprK prog w bs h n v t
  | _, _, _, .non => ⟨[], ra_nil, ReprK.of_is ReprIs.none _ _ _⟩
  | _, _, _, .bl b => ⟨[], ra_nil, ReprK.of_is (ReprIs.bool b) _ _ _⟩
  | _, _, _, .int (tk := tk) hi => ⟨[], ra_nil, ReprK.of_is (ReprIs.int tk hi) _ _ _⟩
  | _, _, _, .str (x := x) (tk := tk) => ⟨[], ra_nil, fun base hb A g E s Q hg hcl hu hk0 hQ => ReprK.of_is (ReprIs.str x tk (by omega)) [] h 0 base hb A g E s Q hg hcl hu hk0 hQ⟩
  | _, _, _, .lst h1 h2 h3 h4 => by
    rename_i a o vs n k ts
    obtain ⟨bs, r, q⟩ := Rps.k X h4
    have me : Rp K h (.ref a) (listText ts) (k + 1) := .lst h1 h2 h3 h4
    refine ⟨a :: bs, r.cons me, ?_⟩
    obtain ⟨l⟩ := vs
    cases l with
    | nil =>
      have q' : ReprAllK prog w bs h k [] ts := q
      cases q'
      rw [listText_nil]
      exact .listEmpty h1 h2 h3
    | cons x l => exact .list h1 h2 h3 (r.not me) (by simpa using q.length_eq) fun i y e => allk_item q i y (by simpa using e)
  | _, _, _, .tup h1 h2 h3 h4 => by
    rename_i a o vs n k ts
    obtain ⟨bs, r, q⟩ := Rps.k X h4
    have me : Rp K h (.ref a) (tupleText ts) (k + 1) := .tup h1 h2 h3 h4
    exact ⟨a :: bs, r.cons me, .tuple h1 h2 h3 (r.not me) q⟩
  | _, _, _, .dic h1 h2 h3 h0 h4 => by
    rename_i a o vs n k ts
    obtain ⟨bs, r, q⟩ := Rpe.k X h4
    have me : Rp K h (.ref a) (dictText ts) (k + 1) := .dic h1 h2 h3 h0 h4
    exact ⟨a :: bs, r.cons me, .dict h1 h2 h3 h0 (r.not me) q⟩
  | _, _, _, .exc T I ht => ⟨[], ra_nil, x_reprK T X I rfl rfl ht⟩
theorem Rps.k (X : K.In h) : ∀ {v : List Value} {t : List Str} {n : Nat}, Rps K h v t n → ∃ bs, RA K h n bs ∧ ReprAllK prog w bs h n v t
  | _, _, _, .nil => ⟨[], ra_nil, .nil⟩
  | _, _, _, .cons a b => by
    obtain ⟨bs, r, q⟩ := Rp.k X a
    obtain ⟨cs, r', q'⟩ := Rps.k X b
    exact ⟨bs ++ cs, (r.up (Nat.le_max_left ..)).app (r'.up (Nat.le_max_right ..)), .cons (ReprK.up q memL (Nat.le_max_left ..)) (allk_up memR (Nat.le_max_right ..) q')⟩
theorem Rpe.k (X : K.In h) : ∀ {v : List DictEntry} {t : List Str} {n : Nat}, Rpe K h v t n → ∃ bs, RA K h n bs ∧ ReprEntriesK prog w bs h n v t
  | _, _, _, .nil => ⟨[], ra_nil, .nil⟩
  | _, _, _, .cons (n1 := n1) (n2 := n2) (m := m) a a2 b => by
    obtain ⟨bs, r, q⟩ := Rp.k X a
    obtain ⟨bs2, r2, q2⟩ := Rp.k X a2
    obtain ⟨cs, r', q'⟩ := Rpe.k X b
    exact ⟨(bs ++ bs2) ++ cs, ((r.up (by omega)).app (r2.up (by omega))).app (r'.up (by omega)), .cons (ReprK.up q (fun b z => memL b (memL b z)) (by omega)) (ReprK.up q2 (fun b z => memL b (memR b z)) (by omega)) (entk_up memR (by omega) q')⟩
end
end
end U

set_option Elab.async false
set_option linter.all false
set_option maxRecDepth 100000
set_option maxHeartbeats 2000000
namespace U
open PySem L2
/-! ### repr of things, exceptions and dicts among them: the mirror -/
def txs (f : D → Option (Str × Nat)) : List D → Option (List Str × Nat)
  | [] => some ([], 0)
  | d :: ds => match f d, txs f ds with
    | some (t, n), some (ts, m) => some (t :: ts, max n m)
    | _, _ => none
def keyT : Key → Option Str
  | .inl i => if i.natAbs.log2 < 1920 then some (toString i) else none
  | .inr x => some (reprText x)
def txe (f : D → Option (Str × Nat)) : List (Key × D) → Option (List Str × Nat)
  | [] => some ([], 0)
  | (k, d) :: ds => match keyT k, f d, txe f ds with
    | some kt, some (t, n), some (ts, m) => some ((kt ++ ": " ++ t) :: ts, max (max 0 n) m)
    | _, _, _ => none
def inL (x : Option (List Str × Nat)) : Option (Str × Nat) := x.map fun p => (listText p.1, p.2 + 1)
def inT (x : Option (List Str × Nat)) : Option (Str × Nat) := x.map fun p => (tupleText p.1, p.2 + 1)
def inD (x : Option (List Str × Nat)) : Option (Str × Nat) := x.map fun p => (dictText p.1, p.2 + 1)
def txF (ns : List (Str × Str)) (S : ST) : Nat → D → Option (Str × Nat)
  | 0, _ => none
  | _ + 1, .non => some ("None", 0)
  | _ + 1, .bl b => some (if b then "True" else "False", 0)
  | _ + 1, .int i => if i.natAbs.log2 < 1920 then some (toString i, 0) else none
  | _ + 1, .str x => some (reprText x, 0)
  | k + 1, .tup ds => inT (txs (txF ns S k) ds)
  | k + 1, .lst ds => inL (txs (txF ns S k) ds)
  | k + 1, .kls ds => inL (txs (txF ns S k) ds)
  | k + 1, .dic kvs => inD (txe (txF ns S k) kvs)
  | k + 1, .ptr m => match S[m]? with
    | some (.lst ds) => inL (txs (txF ns S k) ds)
    | some (.dic kvs) => inD (txe (txF ns S k) kvs)
    | _ => none
  | _ + 1, .exc c x _ => match ns.lookup c with
    | some nm => some (excText nm x, 1)
    | none => none
  | _ + 1, .cst _ => none
  | _ + 1, .ins _ _ => none
  | _ + 1, .fn _ => none
section
variable {P : Program} {w : World} {K : Fr} {q : Nat → Addr} {S : ST} {H : Hp} {h : Heap} {ns : List (Str × Str)}
theorem txs_rp {f : D → Option (Str × Nat)} : ∀ {vs : List V} {ds : List D} {us : List Value} {ts : List Str} {n : Nat}, (∀ v d u t n, Dt K q S.length H v d → RelV v u → f d = some (t, n) → Rp K h u t n) → Dts K q S.length H vs ds → Vals vs us → txs f ds = some (ts, n) → Rps K h us ts n
  | _, _, _, _, _, _, .nil, .nil, e => by simp only [txs] at e; cases e; exact .nil
  | _, _, _, _, _, hf, .cons r rs, .cons z zs, e => by
    simp only [txs] at e
    split at e
    · rename_i t n ts m e1 e2
      cases e
      exact .cons (hf _ _ _ _ _ r z e1) (txs_rp hf rs zs e2)
    · cases e
theorem key_rp {k : Key} {v : Value} {t : Str} (hk : (mixKind P w).is k v = true) (e : keyT k = some t) : Rp K h v t 0 := by
  rw [mixKind_is] at hk
  rcases keyIs_shape hk with ⟨i, tk, rfl, rfl⟩ | ⟨x, tk, rfl, rfl⟩
  · unfold keyT at e
    dsimp only at e
    split at e
    · rename_i hi
      cases e
      exact .int hi
    · cases e
  · unfold keyT at e
    cases e
    exact .str
theorem txe_rp {f : D → Option (Str × Nat)} : ∀ {kv : List (Key × V)} {kd : List (Key × D)} {us : List (Key × Value)} {es : List DictEntry} {ts : List Str} {n : Nat}, (∀ v d u t n, Dt K q S.length H v d → RelV v u → f d = some (t, n) → Rp K h u t n) → Dkv K q S.length H kv kd → KV kv us → Pairs (mixKind P w) es us → txe f kd = some (ts, n) → Rpe K h es ts n
  | _, _, _, _, _, _, _, .nil, .nil, .nil, e => by simp only [txe] at e; cases e; exact .nil
  | _, _, _, _, _, _, hf, .cons r rs, .cons z zs, .cons y1 y2 ys, e => by
    simp only [txe] at e
    split at e
    · rename_i kt t n ts m e0 e1 e2
      cases e
      obtain ⟨z1, z2⟩ := z
      refine .cons (key_rp (by rw [← z1] at y1; exact y1) e0) (hf _ _ _ _ _ r ?_ e1) (txe_rp hf rs zs ys e2)
      rw [y2]
      exact z2
    · cases e
theorem lst_rp {f : D → Option (Str × Nat)} {a : Addr} {vs : List V} {ds : List D} {t : Str} {n : Nat} (hf : ∀ v d u t n, Dt K q S.length H v d → RelV v u → f d = some (t, n) → Rp K h u t n) (o : ObjOk P w H h a (.lst vs)) (r : Dts K q S.length H vs ds) (e : inL (txs f ds) = some (t, n)) : Rp K h (.ref a) t n := by
  unfold inL at e
  rw [Option.map_eq_some_iff] at e
  obtain ⟨⟨ts, m⟩, e, z⟩ := e
  cases z
  obtain ⟨_, its, k, rv, ho⟩ := o
  exact .lst ho rfl rfl (txs_rp hf r rv e)
theorem dic_rp {f : D → Option (Str × Nat)} {a : Addr} {kv : List (Key × V)} {kd : List (Key × D)} {t : Str} {n : Nat} (hf : ∀ v d u t n, Dt K q S.length H v d → RelV v u → f d = some (t, n) → Rp K h u t n) (o : ObjOk P w H h a (.dK kv)) (r : Dkv K q S.length H kv kd) (e : inD (txe f kd) = some (t, n)) : Rp K h (.ref a) t n := by
  unfold inD at e
  rw [Option.map_eq_some_iff] at e
  obtain ⟨⟨ts, m⟩, e, z⟩ := e
  cases z
  obtain ⟨_, hs, us, rv, o, es, ep, ho, hx, hd, _, hp, _⟩ := o
  exact .dic ho hx.1 hd hs (txe_rp hf r rv hp e)
theorem tupA {x : Str} {its : List Value} (rv : Vals [V.str x] its) : ∃ tk, its = [Value.str x tk] := by
  cases rv with
  | cons a b => cases b; obtain ⟨tk, rfl⟩ := a; exact ⟨tk, rfl⟩
theorem txF_rp (hok : HOk P w H h) (KX : K.In h) (wd : Wd K q S H) (T : ∀ c nm, ns.lookup c = some nm → XNm K (He.ga K c) nm) : ∀ (k : Nat) (v : V) (d : D) (u : Value) (t : Str) (n : Nat), Dt K q S.length H v d → RelV v u → txF ns S k d = some (t, n) → Rp K h u t n
  | 0, _, _, _, _, _, _, _, e => by cases e
  | k + 1, v, d, u, t, n, r, z, e => by
    have ih := txF_rp hok KX wd T k
    cases r with
    | non => cases z; simp only [txF] at e; cases e; exact .non
    | bl b => cases z; simp only [txF] at e; cases e; exact .bl b
    | int i =>
      obtain ⟨tk, rfl⟩ := z
      simp only [txF] at e
      split at e
      · rename_i hi
        cases e
        exact .int hi
      · cases e
    | str x => obtain ⟨tk, rfl⟩ := z; simp only [txF] at e; cases e; exact .str
    | tup s rs =>
      cases z
      simp only [txF] at e
      unfold inT at e
      rw [Option.map_eq_some_iff] at e
      obtain ⟨⟨ts, m⟩, e, z⟩ := e
      cases z
      rcases s with (s | ⟨o, s⟩) | ⟨o, its, n, e1, e2, e3, _, rv⟩
      · obtain ⟨_, its, rv, o, h1, h2, n, h3⟩ := (show ObjOk P w H h _ (.tup _) from hok _ _ s)
        exact .tup h1 h2 h3 (txs_rp ih rs rv e)
      · obtain ⟨_, _, its, rv, o, h1, h2, n, h3⟩ := (show ObjOk P w H h _ (.frz _ (.tup _)) from hok _ _ s)
        exact .tup h1 h2 h3 (txs_rp ih rs rv e)
      · exact .tup (KX _ _ e1) e2 e3 (txs_rp ih rs rv e)
    | lst s rs =>
      cases z
      simp only [txF] at e
      exact lst_rp ih (show ObjOk P w H h _ (.frz _ (.lst _)) from hok _ _ s).2 rs e
    | kls s rs =>
      cases z
      simp only [txF] at e
      rcases s with ⟨o, s⟩ | ⟨o, its, n, e1, e2, e3, e4, _, rv⟩
      · exact lst_rp ih (show ObjOk P w H h _ (.frz _ (.lst _)) from hok _ _ s).2 rs e
      · unfold inL at e
        rw [Option.map_eq_some_iff] at e
        obtain ⟨⟨ts, m⟩, e, z⟩ := e
        cases z
        exact .lst (KX _ _ e1) e2 e4 (txs_rp ih rs rv e)
    | dic s rs =>
      cases z
      simp only [txF] at e
      exact dic_rp ih (show ObjOk P w H h _ (.frz _ (.dK _)) from hok _ _ s).2 rs e
    | @ptr m hm =>
      cases z
      simp only [txF] at e
      split at e
      · rename_i ds es
        obtain ⟨vs, e1, rs⟩ := wd.ob m _ es
        exact lst_rp ih (hok _ _ e1) rs e
      · rename_i ds es
        obtain ⟨vs, e1, rs⟩ := wd.ob m _ es
        exact dic_rp ih (hok _ _ e1) rs e
      · cases e
    | exc s st sd rs =>
      cases z
      simp only [txF] at e
      split at e
      · rename_i nm en
        cases e
        have h1 := (show ObjOk P w H h _ (.frz _ (.ext fun _ => True)) from hok _ _ s).1
        have h2 := (show ObjOk P w H h _ (.frz _ (.xd _)) from hok _ _ sd).1
        rcases st with (st | ⟨o, st⟩) | ⟨o, its, n, e1, e2, e3, _, rv⟩
        · obtain ⟨_, its, rv, o, g1, g2, n, g3⟩ := (show ObjOk P w H h _ (.tup _) from hok _ _ st)
          obtain ⟨tk, rfl⟩ := tupA rv
          exact .exc (T _ _ en) ⟨h1, rfl, rfl, h2⟩ ⟨o, n, g1, g2, g3⟩
        · obtain ⟨_, _, its, rv, o, g1, g2, n, g3⟩ := (show ObjOk P w H h _ (.frz _ (.tup _)) from hok _ _ st)
          obtain ⟨tk, rfl⟩ := tupA rv
          exact .exc (T _ _ en) ⟨h1, rfl, rfl, h2⟩ ⟨o, n, g1, g2, g3⟩
        · obtain ⟨tk, z⟩ := tupA rv
          refine .exc (tk := tk) (T _ _ en) ⟨h1, rfl, rfl, h2⟩ ⟨o, n, KX _ _ e1, e2, ?_⟩
          rw [e3, ← z]
      · cases e
    | cst => simp only [txF] at e; cases e
    | ins _ _ => simp only [txF] at e; cases e
    | fn => simp only [txF] at e; cases e
end
/-! the call -/
def rRepY (P : Program) (w : World) (K : Fr) : List V → Hp → VK → Prop := fun xs H Q => ∃ a t n vs, xs = [.ref a] ∧ Rd H a (.lst vs) ∧ (∀ h, HOk P w H h → K.In h → Rp K h (.ref a) t n) ∧ n ≤ 60 ∧ t.length ≤ sizeLine ∧ Q (.str t) H
section
variable {X : Cx} {cl : Cl} {E : XK}
theorem cr_repY {k : Nat} (hr : RoomG k X.A) : CallR X (.builtin "repr") (rRepY X.prog X.w X.K) := by
  intro pins s σ H xs us Q I r h
  obtain ⟨a, t, n, vs, rfl, hl, hp, hn, hz, q⟩ := h
  obtain ⟨u, rfl, rv⟩ := vals1 r
  cases rv
  have hun := hr.units
  have hc : ∃ o : Obj, s.heap.get? a = some o ∧ o.cls = .type "list" := by
    rcases hl with hl | ⟨o, hl⟩
    · obtain ⟨_, its, m, _, ho⟩ := (show ObjOk X.prog X.w H s.heap a (.lst vs) from I.hok _ _ hl)
      exact ⟨_, ho, rfl⟩
    · obtain ⟨_, _, its, m, _, ho⟩ := (show ObjOk X.prog X.w H s.heap a (.frz o (.lst vs)) from I.hok _ _ hl)
      exact ⟨_, ho, rfl⟩
  obtain ⟨oc, ho, hoc⟩ := hc
  have me := hp _ I.hok I.kIn
  have key : wpAny (model X.prog X.w) X.A.in1 (call (.builtin "list.__repr__") [.ref a]) (fun v s' => ∃ x u, v = .str x u ∧ EP X pins σ Q v s') X.xe s := by
    cases me with
    | @lst _ o vs m k ts h1 h2 h3 h4 =>
      obtain ⟨bs, ra, al⟩ := Rps.k (prog := X.prog) (w := X.w) I.kIn h4
      have hna := ra.not (.lst h1 h2 h3 h4)
      obtain ⟨l⟩ := vs
      cases l with
      | nil =>
        have al' : ReprAllK X.prog X.w bs s.heap k [] ts := al
        cases al'
        rw [listText_nil] at q
        exact call_list_repr_empty ⟨o, h1, h2⟩ h1 h3 ⟨_, _, rfl, .str _, H, I.tok _, ⟨_, rfl⟩, q⟩
      | cons x l =>
        exact call_list_reprK h1 h2 h3 hna (by simpa using al.length_eq) (fun i y e => allk_item al i y (by simpa using e)) hr.gd (fun b _ => Clear.nil b) (show X.A.units + 1 + (k + 1) < cLine by omega) (fun _ _ z => z) (fun h' u tk hk => ⟨_, _, rfl, .str _, H, I.kept hk, ⟨_, rfl⟩, q⟩) hz
    | tup h1 h2 _ _ => rw [ho] at h1; cases h1; rw [hoc] at h2; exact absurd h2 (by decide)
    | dic h1 h2 _ _ _ => rw [ho] at h1; cases h1; rw [hoc] at h2; exact absurd h2 (by decide)
    | exc _ g _ => have := g.at_; rw [ho] at this; cases this; cases hoc
  exact call_repr_slot (by omega) ⟨oc, ho, hoc⟩ PySem.F.slot_list_repr.toG key
end
/-- a list, of the store or not -/
def isL (S : ST) : D → Bool
  | .lst _ => true
  | .ptr n => (stL S n).isSome
  | _ => false
def repY (ns : List (Str × Str)) (xs : List D) (S : ST) : Option (Rs D × ST) := match xs with
  | [x] => match txF ns S 12 x with
    | some (t, n) => if (isL S x && decide (n ≤ 60) && decide (t.length ≤ 100000)) = true then some (.ok (.str t), S) else none
    | none => none
  | _ => none
theorem repYE {P : Program} {w : World} {K : Fr} {cl : Cl} {E : XK} {ns : List (Str × Str)} (T : ∀ c nm, ns.lookup c = some nm → XNm K (He.ga K c) nm) : CaE K cl E (rRepY P w K) (repY ns) := by
  intro xs S z S' h q H vs Q wd hx po
  unfold repY at h
  split at h
  · split at h
    · rename_i d t n e
      split at h
      · rename_i hc
        cases h
        simp only [Bool.and_eq_true, decide_eq_true_eq] at hc
        obtain ⟨v, rfl, r⟩ := dts1 hx
        have fin : ∀ a ws, v = .ref a → Rd H a (.lst ws) → rRepY P w K [v] H (Fz Q) := by
          rintro a ws rfl hl
          exact ⟨a, t, n, ws, rfl, hl, fun h hok KX => txF_rp hok KX wd T 12 _ _ _ _ _ r rfl e, hc.1.2, Nat.le_trans hc.2 (by decide), fz_val wd po (.str _)⟩
        cases r with
        | lst s rs => exact fin _ _ rfl (.inr ⟨_, s⟩)
        | @ptr m hm =>
          obtain ⟨ds, e1⟩ := Option.isSome_iff_exists.mp (show (stL _ m).isSome = true from hc.1.1)
          obtain ⟨ws, e2, _⟩ := wd.ob m _ (stL_some e1)
          exact fin _ _ rfl (.inl e2)
        | _ => exact absurd hc.1.1 Bool.false_ne_true
      · cases h
    · cases h
  · cases h
end U

set_option Elab.async false
set_option linter.all false
set_option maxRecDepth 100000
set_option maxHeartbeats 2000000
namespace U
open PySem L2
/-! ### looks at the written part -/
theorem ba2 {a b : Bool} (h : (a && b) = true) : a = true ∧ b = true := Bool.and_eq_true_iff.mp h
def sixB : List (Option Value) → Bool
  | [_, _, _, _, n, _] => decide (n = some (.builtin "ValueError.__new__"))
  | _ => false
theorem six_ok : ∀ {l : List (Option Value)}, sixB l = true → ∃ k0 k1 k2 k3 k5, l = [k0, k1, k2, k3, some (.builtin "ValueError.__new__"), k5]
  | [k0, k1, k2, k3, n, k5], h => by
    obtain rfl := of_decide_eq_true h
    exact ⟨k0, k1, k2, k3, k5, rfl⟩
  | [], h | [_], h | [_, _], h | [_, _, _], h | [_, _, _, _], h | [_, _, _, _, _], h | _ :: _ :: _ :: _ :: _ :: _ :: _ :: _, h => by cases h
def oexO (C : Addr) : Option Obj → Bool
  | some ⟨cl, _, .cls cd, sl⟩ => decide (cl = .type "type") && ((match cd.mro with
      | .ref c :: bm => decide (c = C) && PySem.HandSPX.refsVE bm
      | _ => false) && (cd.hasDict && (!cd.hasDel && sixB sl.toList)))
  | _ => false
def oexB (K : Fr) (c : Str) : Bool := oexO (He.ga K c) (K.lookup (He.ga K c)) && (He.eqO (PySem.W.findIn K (.ref (He.ga K c)) "__setattr__") (some (some (.builtin "object.__setattr__"))) && (decide (PySem.W.subIn K (.ref (He.ga K c)) (.type "BaseException") = some true) &&
  (decide (PySem.W.typeIn K (.ref (He.ga K c)) = some (.type "type")) && PySem.W.keepIn K (.ref (He.ga K c)))))
theorem oex_ok {K : Fr} {c : Str} (h : oexB K c = true) : OexC K (He.ga K c) := by
  obtain ⟨h1, h⟩ := ba2 h
  obtain ⟨h2, h⟩ := ba2 h
  obtain ⟨h3, h⟩ := ba2 h
  obtain ⟨h4, h5⟩ := ba2 h
  refine ⟨?_, He.eqO_ok h2, of_decide_eq_true h3, of_decide_eq_true h4, h5⟩
  unfold oexO at h1
  split at h1
  · rename_i cl dd cd sl e
    obtain ⟨g1, h1⟩ := ba2 h1
    obtain ⟨g2, h1⟩ := ba2 h1
    obtain ⟨g3, h1⟩ := ba2 h1
    obtain ⟨g4, g5⟩ := ba2 h1
    obtain ⟨nm, bs, mro, ns, qn, hd, sn, sb, ab, col, del⟩ := cd
    dsimp only at g2 g3 g4
    cases mro with
    | nil => cases g2
    | cons v bm =>
      cases v with
      | ref cc =>
        obtain ⟨g6, g7⟩ := ba2 g2
        obtain rfl := of_decide_eq_true g6
        obtain rfl := of_decide_eq_true g1
        obtain ⟨l⟩ := sl
        obtain ⟨k0, k1, k2, k3, k5, z⟩ := six_ok g5
        dsimp only at z
        subst z
        cases del with
        | true => cases g4
        | false =>
          cases g3
          exact ⟨nm, qn, ns, bs, bm, sn, sb, ab, col, dd, k0, k1, k2, k3, k5, e, g7⟩
      | _ => cases g2
  · cases h1
def basB (K : Fr) (c : Str) : Bool := He.eqO (PySem.W.specialIn K (.ref (He.ga K c)) "__getattribute__") (some (some (.builtin "type.__getattribute__"))) && (PySem.W.readsIn K (He.ga K c) (.type "type") && (match PySem.W.findCls K (.ref (He.ga K c)) (.type "type") "__init__" with
  | some (.val v) => decide (v = .builtin "ValueError.__init__")
  | _ => false))
theorem bas_ok {K : Fr} {mg : Str → Option Value} {c : Str} (g : mg c = some (.ref (He.ga K c))) (h : basB K c = true) : BasC K mg c := by
  obtain ⟨h1, h⟩ := ba2 h
  obtain ⟨h2, h3⟩ := ba2 h
  refine ⟨g, He.eqO_ok h1, h2, ?_⟩
  split at h3
  · rename_i v e
    rw [e, of_decide_eq_true h3]
  · cases h3
def excB (K : Fr) (c : Str) : Bool := He.eqO (PySem.W.findIn K (.ref (He.ga K c)) "__getattribute__") (some (some (.builtin "BaseException.__getattribute__"))) && (He.eqO (PySem.W.findIn K (.ref (He.ga K c)) "__getattr__") (some none) &&
  (decide (PySem.W.subIn K (.ref (He.ga K c)) (.type "BaseException") = some true) && (PySem.W.hasDictIn K (He.ga K c) && (He.eqO (PySem.W.findIn K (.ref (He.ga K c)) "__class__") (some (some (.builtin "object.__class__"))) &&
  (He.eqO (PySem.W.specialIn K (.builtin "object.__class__") "__get__") (some (some (.builtin "getset_descriptor.__get__"))) && (decide (PySem.W.takesIn K (.builtin "object.__class__") = some true) && decide (PySem.W.mroIn K (He.ga K c) (.type "object") = some true)))))))
theorem exc_ok {K : Fr} {c : Str} (h : excB K c = true) : ExcC K (He.ga K c) := by
  obtain ⟨h1, h⟩ := ba2 h
  obtain ⟨h2, h⟩ := ba2 h
  obtain ⟨h3, h⟩ := ba2 h
  obtain ⟨h4, h⟩ := ba2 h
  obtain ⟨h5, h⟩ := ba2 h
  obtain ⟨h6, h⟩ := ba2 h
  obtain ⟨h7, h8⟩ := ba2 h
  exact ⟨He.eqO_ok h1, He.eqO_ok h2, of_decide_eq_true h3, h4, He.eqO_ok h5, He.eqO_ok h6, of_decide_eq_true h7, of_decide_eq_true h8⟩
def xcsB (K : Fr) (xs : List Str) : Bool := xs.all fun c => excB K c && (["int", "bool", "str", "tuple", "list", "dict"].all fun t => decide (PySem.W.kitOne K (.ref (He.ga K c)) (.type t) = some false))
theorem xcs_ok {K : Fr} {xs : List Str} (h : xcsB K xs = true) : XCs K xs := ⟨fun c hc => by
  obtain ⟨h1, h2⟩ := ba2 (List.all_eq_true.mp h c hc)
  exact ⟨exc_ok h1, fun t ht => of_decide_eq_true (List.all_eq_true.mp h2 t ht)⟩⟩
def xnB (K : Fr) (c nm : Str) : Bool := (match PySem.W.clsIn K (He.ga K c) with
  | some cd => decide (Str.ofString ((cd.name.toString.cutAt '.').getLastD "") = nm)
  | none => false) && (He.eqO (PySem.W.findIn K (.ref (He.ga K c)) "__repr__") (some (some (.builtin "BaseException.__repr__"))) && decide (PySem.W.subIn K (.ref (He.ga K c)) (.type "BaseException") = some true))
theorem xn_ok {K : Fr} {c nm : Str} (h : xnB K c nm = true) : XNm K (He.ga K c) nm := by
  obtain ⟨h1, h⟩ := ba2 h
  obtain ⟨h2, h3⟩ := ba2 h
  refine ⟨?_, He.eqO_ok h2, of_decide_eq_true h3⟩
  split at h1
  · rename_i cd e
    exact ⟨cd, e, of_decide_eq_true h1⟩
  · cases h1
def xnsB (K : Fr) (ns : List (Str × Str)) : Bool := ns.all fun p => xnB K p.1 p.2
theorem lookup_mem {α β : Type} [BEq α] [LawfulBEq α] {a : α} {b : β} : ∀ {l : List (α × β)}, l.lookup a = some b → (a, b) ∈ l
  | [], h => by cases h
  | (x, y) :: l, h => by
    rw [List.lookup_cons] at h
    split at h
    · rename_i e
      cases h
      rw [eq_of_beq e]
      exact List.mem_cons_self
    · exact List.mem_cons_of_mem _ (lookup_mem h)
theorem xns_ok {K : Fr} {ns : List (Str × Str)} (h : xnsB K ns = true) : ∀ c nm, ns.lookup c = some nm → XNm K (He.ga K c) nm := fun c nm e => xn_ok (List.all_eq_true.mp h (c, nm) (lookup_mem e))
end U

set_option Elab.async false
set_option linter.all false
set_option maxRecDepth 100000
set_option maxHeartbeats 2000000
namespace U
open PySem L2
/-! ### xs == [], whatever xs holds -/
def rEqN : R2 := fun x y H Q => ∃ a b v vs, x = .ref a ∧ y = .ref b ∧ Rd H a (.lst (v :: vs)) ∧ Rd H b (.lst []) ∧ Q (.bl false) H
theorem lst_is {P : Program} {w : World} {H : Hp} {h : Heap} {a : Addr} {vs : List V} (hok : HOk P w H h) (r : Rd H a (.lst vs)) : ∃ its : Array Value, h.IsList a its ∧ its.size = vs.length := by
  have key : ObjOk P w H h a (.lst vs) → ∃ its : Array Value, h.IsList a its ∧ its.size = vs.length := fun o => by
    obtain ⟨_, its, n, rv, ho⟩ := o
    exact ⟨its.toArray, ⟨_, ho, rfl, _, rfl⟩, by rw [rv.length]; rfl⟩
  rcases r with r | ⟨o, r⟩
  · exact key (hok _ _ r)
  · exact key (show ObjOk P w H h a (.frz o (.lst vs)) from hok _ _ r).2
section
variable {X : Cx} {cl : Cl} {E : XK}
theorem op_eqL (hu : X.A.units + 64 < cLine) : OpR X (compareOp .Eq) rEqN := by
  intro pins s σ H x y v u Q I rx ry h
  obtain ⟨a, b, w, ws, rfl, rfl, ra, rb, q⟩ := h
  cases rx
  cases ry
  obtain ⟨i1, l1, n1⟩ := lst_is I.hok ra
  obtain ⟨i2, l2, n2⟩ := lst_is I.hok rb
  refine PySem.SeqAt.eq_list_lengthsAt l1 l2 ?_ (by omega) ⟨.bl false, H, I.kept (t' := s.toks) fun _ _ z => z, rfl, q⟩
  rw [n1, n2]
  rfl
theorem op_eqN (hu : X.A.units + 64 < cLine) : OpR X (compareOp .Eq) (fun x y H Q => rEqU X.K x y H Q ∨ rEqN x y H Q) := OpR.or (op_eqU hu) (op_eqL hu)
def eqN (x y : D) (S : ST) : Option (Rs D × ST) := match x, y with
  | .lst (_ :: _), .lst [] => some (.ok (.bl false), S)
  | x, y => eqH id x y S
theorem eqNE {K : Fr} : CpE K cl E (fun x y H Q => rEqU K x y H Q ∨ rEqN x y H Q) eqN := by
  intro x y S z S' h q H vx vy Q w hx hy po
  unfold eqN at h
  split at h
  · cases h
    cases hx with
    | lst e1 r1 =>
      cases hy with
      | lst e2 r2 =>
        cases r1 with
        | cons _ _ =>
          cases r2
          exact .inr ⟨_, _, _, _, rfl, rfl, .inr ⟨_, e1⟩, .inr ⟨_, e2⟩, cp_val w po (.bl _)⟩
  · exact .inl (eqHE x y S z S' h q H vx vy Q w hx hy po)
end
/-! ### the head, the interpreter's own statics looked at too -/
def asS (g : Addr → Option Obj) (n : Nat) : List Addr := He.asD g n ++ [cStatics]
def obsS (n : Nat) (fa : List He.Fa) (fn : List He.DefD) (ts : List He.Tab) (ex : Fr → Bool) (g : Addr → Option Obj) : He.AlT × Bool := (He.obsT fa fn ts (He.frT g (asS g n)), ex (He.frT g (asS g n)))
def hookS (n : Nat) (fa : List He.Fa) (fn : List He.DefD) (ts : List He.Tab) (ex : Fr → Bool) : PySem.W.Hook where
  α := He.AlT × Bool
  obs := fun s => obsS n fa fn ts ex s.heap.get?
  val := fun w => (He.valT fn ts w, true)
  says := fun w h => ∃ K : Fr, K.In h ∧ He.SaysT fa fn ts w K ∧ ex K = true
  of := fun _ _ e => ⟨_, He.frT_in, congrArg (fun z : He.AlT × Bool => z.1) e, congrArg (fun z : He.AlT × Bool => z.2) e⟩
  keeps := fun _ _ _ ⟨K, hK, c⟩ k => ⟨K, PySem.W.Frag.In.keeps hK k, c⟩
theorem obsS_eq {n : Nat} {fa : List He.Fa} {fn : List He.DefD} {ts : List He.Tab} {ex : Fr → Bool} {g : Addr → Option Obj} {s : Shared} (h : ∀ a, g a = s.heap.get? a) : obsS n fa fn ts ex g = (hookS n fa fn ts ex).obs s := by
  obtain rfl : g = s.heap.get? := funext h
  rfl
end U

set_option Elab.async false
set_option linter.all false
set_option maxRecDepth 100000
set_option maxHeartbeats 4000000
namespace W01
open PySem L2 U
def top (i : Nat) : Stmt := PySem.Challenge.pw_rulesplay_k01_kinds_of_any_thing.main.body.getD i (.Pass ⟨0, 0, 0, 0⟩)
abbrev s__law_take : Stmt := top 14
abbrev s__law_any : Stmt := top 16
abbrev s__law_number : Stmt := top 17
abbrev s__law_spoilt : Stmt := top 18
abbrev s__law_named : Stmt := top 19
abbrev s__law_row : Stmt := top 20
abbrev s__law_is : Stmt := top 23
abbrev s__law_whole : Stmt := top 15
abbrev s_is_whole : Stmt := top 4
abbrev s__law_is_name : Stmt := top 21
abbrev s_is_name : Stmt := top 5
abbrev s__law_is_row : Stmt := top 22
abbrev s_are_lots : Stmt := top 6
abbrev s__law_right : Stmt := top 24
abbrev s__law_bag : Stmt := top 13
abbrev s__law_cell : Stmt := top 12
abbrev s_law : Stmt := top 25
abbrev s_NoState___init__ : Stmt := inClass (top 10) 0
abbrev s_NoList___init__ : Stmt := inClass (top 9) 0
/-! ### the mirrors -/
def b__law_take : SM :=
  (sSeq (sIf (bVal (eOp gtF (eOp ixF (eVar 0) (eC (.int 0))) (eC (.int 0)))) (sSeq (sAsg (eOp modF (eOp ixF (eVar 0) (eC (.int 0))) (eVar 1)) (gVar 2))
    (sSeq (sAsg (eOp fdvF (eOp ixF (eVar 0) (eC (.int 0))) (eVar 1)) (gSet (eVar 0) (eC (.int 0))))
    (sRet (eVar 2)))) sSkip)
    (sSeq (sAsg (eOp addF (eOp ixF (eVar 0) (eC (.int 2))) (eC (.int 1))) (gSet (eVar 0) (eC (.int 2))))
    (sSeq (sAsg (eOp modF (eOp powF (eOp addF (eOp addF (eOp ixF (eVar 0) (eC (.int 1))) (eOp mulF (eC (.int 7919)) (eOp ixF (eVar 0) (eC (.int 2))))) (eC (.int 31))) (eC (.int 5))) (eC (.int 2147483647))) (gVar 3))
    (sSeq (sAsg (eOp modF (eOp powF (eOp addF (eVar 3) (eOp mulF (eC (.int 104729)) (eOp ixF (eVar 0) (eC (.int 2))))) (eC (.int 3))) (eC (.int 2147483587))) (gVar 3))
    (sRet (eOp modF (eOp fdvF (eVar 3) (eC (.int 16))) (eVar 1)))))))
def d__law_take : DM := mkD 4 b__law_take
def b__law_any : SM :=
  (sSeq (sAsg (eFz (oLst (aCons (eC .non) (aCons (eC (.bl true)) (aCons (eC (.bl false)) (aCons (eOp subF (eC (.int 0)) (eC (.int 1))) (aCons (eOp powF (eC (.int 10)) (eC (.int 29))) (aCons (eC (.str "")) (aCons (eC (.str "no")) (aCons (eC (.str "a b")) (aCons (eFz (oLst aNil)) (aCons (eFz (oLst (aCons (eC (.str "a")) aNil))) (aCons (eTup (aCons (eC (.str "a")) aNil)) (aCons (eTup aNil) (aCons eDic0 (aCons (eDic1 (eC (.str "a")) (eC (.int 1))) (aCons (eFz (oLst (aCons (eFz (oLst (aCons (eC (.int 1)) aNil))) aNil))) aNil))))))))))))))))) (gVar 1))
    (sRet (eOp ixF (eVar 1) (eCall (Ar 2 d__law_take) (aCons (eVar 0) (aCons (eC (.int 15)) aNil))))))
def d__law_any : DM := mkD 2 b__law_any
def b__law_number : SM :=
  (sSeq (sAsg (eFz (oLst (aCons (eC (.int 0)) (aCons (eC (.int 1)) (aCons (eC (.int 9)) (aCons (eC (.int 10)) (aCons (eUn negF (eC (.int 1))) (aCons (eUn negF (eC (.int 10))) (aCons (eC (.int 20)) (aCons (eCall (Ar 2 d__law_take) (aCons (eVar 0) (aCons (eOp subF (eOp powF (eC (.int 10)) (eC (.int 30))) (eC (.int 1))) aNil))) (aCons (eOp subF (eC (.int 1)) (eCall (Ar 2 d__law_take) (aCons (eVar 0) (aCons (eOp subF (eOp powF (eC (.int 10)) (eC (.int 30))) (eC (.int 1))) aNil)))) aNil))))))))))) (gVar 1))
    (sRet (eOp ixF (eVar 1) (eCall (Ar 2 d__law_take) (aCons (eVar 0) (aCons (eC (.int 9)) aNil))))))
def d__law_number : DM := mkD 2 b__law_number
def b__law_spoilt : SM :=
  (sSeq (sAsg (eOp ixF (eC (.str "abzAZ09 ~_\n.")) (eCall (Ar 2 d__law_take) (aCons (eVar 0) (aCons (eC (.int 12)) aNil)))) (gVar 2))
    (sSeq (sAsg (eCall (Ar 2 d__law_take) (aCons (eVar 0) (aCons (eOp addF (eCall lenF (aCons (eVar 1) aNil)) (eC (.int 1))) aNil))) (gVar 3))
    (sSeq (sAsg (eCall (Ar 2 d__law_take) (aCons (eVar 0) (aCons (eC (.int 6)) aNil))) (gVar 4))
    (sSeq (sIf (bVal (eOp (eqH id) (eVar 4) (eC (.int 0)))) (sRet (eOp addF (eOp addF (eCut (eVar 1) qNone (qSome (eVar 3))) (eVar 2)) (eCut (eVar 1) (qSome (eVar 3)) qNone))) sSkip)
    (sSeq (sIf (bVal (eOp (eqH id) (eVar 4) (eC (.int 1)))) (sRet (eOp addF (eCut (eVar 1) qNone (qSome (eVar 3))) (eCut (eVar 1) (qSome (eOp addF (eVar 3) (eC (.int 1)))) qNone))) sSkip)
    (sRet (eIf (bVal (eOp (eqH id) (eVar 4) (eC (.int 2)))) (eOp addF (eOp addF (eCut (eVar 1) qNone (qSome (eVar 3))) (eVar 2)) (eCut (eVar 1) (qSome (eOp addF (eVar 3) (eC (.int 1)))) qNone)) (eVar 1))))))))
def d__law_spoilt : DM := mkD 5 b__law_spoilt
def ce__law_named_1 : EM :=
  (eOp ixF (eVar 1) (eCall (Ar 2 d__law_take) (aCons (eVar 0) (aCons (eC (.int 26)) aNil))))
def b__law_named : SM :=
  (sSeq (sAsg (eC (.str "abcdefghijklmnopqrstuvwxyz")) (gVar 1))
    (sRet (eCall (Ar 2 d__law_spoilt) (aCons (eVar 0) (aCons (eM1 joinF (eC (.str "")) (eFz (oLc (iCall rng1F (aCons (eOp addF (eC (.int 1)) (eCall (Ar 2 d__law_take) (aCons (eVar 0) (aCons (eC (.int 9)) aNil)))) aNil)) (gVar 2) bYes ce__law_named_1 (List.map (fun x => x.2) ([("_law_k", 2)] : List (Str × Nat)))))) aNil)))))
def d__law_named : DM := mkD 3 b__law_named
def ce__law_row_1 : EM :=
  (eCall (Ar 2 d__law_take) (aCons (eVar 0) (aCons (eC (.int 10)) aNil)))
def b__law_row : SM :=
  (sSeq (sAsg (ePtr (oLc (iCall rng1F (aCons (eOp ixF (eFz (oLst (aCons (eC (.int 0)) (aCons (eC (.int 1)) (aCons (eC (.int 20)) (aCons (eC (.int 21)) (aCons (eCall (Ar 2 d__law_take) (aCons (eVar 0) (aCons (eC (.int 20)) aNil))) aNil))))))) (eCall (Ar 2 d__law_take) (aCons (eVar 0) (aCons (eC (.int 5)) aNil)))) aNil)) (gVar 2) bYes ce__law_row_1 (List.map (fun x => x.2) ([("_law_k", 2)] : List (Str × Nat))))) (gVar 1))
    (sSeq (sIf (bAnd (bVal (eOp (eqH not) (eVar 1) (eFz (oLst aNil)))) (bVal (eOp (eqH id) (eCall (Ar 2 d__law_take) (aCons (eVar 0) (aCons (eC (.int 2)) aNil))) (eC (.int 0))))) (sAsg (eOp ixF (eFz (oLst (aCons (eC (.int 10)) (aCons (eUn negF (eC (.int 1))) (aCons (eC .non) (aCons (eC (.bl true)) (aCons (eC (.str "1")) (aCons (eFz (oLst (aCons (eC (.int 1)) aNil))) (aCons (eTup (aCons (eC (.int 2)) aNil)) (aCons (eC (.bl false)) (aCons (eOp powF (eC (.int 10)) (eC (.int 29))) aNil))))))))))) (eCall (Ar 2 d__law_take) (aCons (eVar 0) (aCons (eC (.int 9)) aNil)))) (gSet (eVar 1) (eCall (Ar 2 d__law_take) (aCons (eVar 0) (aCons (eCall lenF (aCons (eVar 1) aNil)) aNil))))) sSkip)
    (sRet (eOp ixF (eFz (oLst (aCons (eVar 1) (aCons (eCall tupOfF (aCons (eVar 1) aNil)) aNil)))) (eCall (Ar 2 d__law_take) (aCons (eVar 0) (aCons (eC (.int 2)) aNil)))))))
def d__law_row : DM := mkD 3 b__law_row
def b__law_is : SM :=
  (sRet (eAnd (eUn (isiX ["NoList", "NoState"] ["bool"]) (eVar 0)) (eOp (eqH id) (eVar 0) (eVar 1))))
def d__law_is : DM := mkD 2 b__law_is
def b__law_whole : SM :=
  (sRet (eAnd (eUn (isiX ["NoList", "NoState"] ["int"]) (eVar 0)) (eNot (eUn (isiX ["NoList", "NoState"] ["bool"]) (eVar 0)))))
def d__law_whole : DM := mkD 1 b__law_whole
def b_is_whole : SM :=
  (sRet (eAnd (eUn (isiX ["NoList", "NoState"] ["int"]) (eVar 0)) (eAnd (eNot (eUn (isiX ["NoList", "NoState"] ["bool"]) (eVar 0))) (eChain leF leF (eVar 1) (eVar 0) (eVar 2)))))
def d_is_whole : DM := mkD 3 b_is_whole
def ce__law_is_name_1 : EM :=
  (eVar 2)
def ct__law_is_name_1 : BM :=
  (bVal (eOp (inF (fun b => if true then !b else b)) (eVar 2) (eVar 1)))
def b__law_is_name : SM :=
  (sSeq (sAsg (eC (.str "abcdefghijklmnopqrstuvwxyz")) (gVar 1))
    (sRet (eAnd (eUn (isiX ["NoList", "NoState"] ["str"]) (eVar 0)) (eAnd (eChain ltF ltF (eC (.int 0)) (eCall lenF (aCons (eVar 0) aNil)) (eC (.int 9))) (eOp eqN (eFz (oLc (iVal (eVar 0)) (gVar 2) ct__law_is_name_1 ce__law_is_name_1 (List.map (fun x => x.2) ([("_law_sign", 2)] : List (Str × Nat))))) (eFz (oLst aNil)))))))
def d__law_is_name : DM := mkD 3 b__law_is_name
def ce_is_name_1 : EM :=
  (eOp (inF (fun b => if false then !b else b)) (eVar 1) (eC (.str "abcdefghijklmnopqrstuvwxyz")))
def b_is_name : SM :=
  (sRet (eAnd (eUn (isiX ["NoList", "NoState"] ["str"]) (eVar 0)) (eAnd (eChain leF leF (eC (.int 1)) (eCall lenF (aCons (eVar 0) aNil)) (eC (.int 8))) (eCall (allF fun bs => bs.all id) (aCons (eFz (oLc (iVal (eVar 0)) (gVar 1) bYes ce_is_name_1 (List.map (fun x => x.2) ([("sign", 1)] : List (Str × Nat))))) aNil)))))
def d_is_name : DM := mkD 2 b_is_name
def ce__law_is_row_1 : EM :=
  (eVar 1)
def ct__law_is_row_1 : BM :=
  (bOr (bNot (bVal (eCall (Ar 1 d__law_whole) (aCons (eVar 1) aNil)))) (bNot (bVal (eChain leF leF (eC (.int 0)) (eVar 1) (eC (.int 9))))))
def b__law_is_row : SM :=
  (sSeq (sIf (bOr (bNot (bVal (eUn (isiX ["NoList", "NoState"] ["list", "tuple"]) (eVar 0)))) (bVal (eOp gtF (eCall lenF (aCons (eVar 0) aNil)) (eC (.int 20))))) (sRet (eC (.bl false))) sSkip)
    (sRet (eOp eqN (eFz (oLc (iVal (eVar 0)) (gVar 1) ct__law_is_row_1 ce__law_is_row_1 (List.map (fun x => x.2) ([("_law_one", 1)] : List (Str × Nat))))) (eFz (oLst aNil)))))
def d__law_is_row : DM := mkD 2 b__law_is_row
def ce_are_lots_1 : EM :=
  (eCall (Ar 3 d_is_whole) (aCons (eVar 1) (aCons (eC (.int 0)) (aCons (eC (.int 9)) aNil))))
def b_are_lots : SM :=
  (sSeq (sIf (bOr (bNot (bVal (eUn (isiX ["NoList", "NoState"] ["list", "tuple"]) (eVar 0)))) (bVal (eOp gtF (eCall lenF (aCons (eVar 0) aNil)) (eC (.int 20))))) (sRet (eC (.bl false))) sSkip)
    (sRet (eCall (allF fun bs => bs.all id) (aCons (eFz (oLc (iVal (eVar 0)) (gVar 1) bYes ce_are_lots_1 (List.map (fun x => x.2) ([("lot", 1)] : List (Str × Nat))))) aNil))))
def d_are_lots : DM := mkD 2 b_are_lots
def lp__law_right_1 : SM :=
  (sSeq (sIf (bNot (bVal (eCall (Ar 2 d__law_is) (aCons (eCall (Ar 3 d_is_whole) (aCons (eVar 11) (aCons (eVar 6) (aCons (eVar 7) aNil)))) (aCons (eAnd (eCall (Ar 1 d__law_whole) (aCons (eVar 11) aNil)) (eChain leF leF (eVar 6) (eVar 11) (eVar 7))) aNil))))) (sRet (eC (.bl false))) sSkip)
    (sIf (bOr (bNot (bVal (eCall (Ar 2 d__law_is) (aCons (eCall (Ar 1 d_is_name) (aCons (eVar 11) aNil)) (aCons (eCall (Ar 1 d__law_is_name) (aCons (eVar 11) aNil)) aNil))))) (bNot (bVal (eCall (Ar 2 d__law_is) (aCons (eCall (Ar 1 d_are_lots) (aCons (eVar 11) aNil)) (aCons (eCall (Ar 1 d__law_is_row) (aCons (eVar 11) aNil)) aNil)))))) (sRet (eC (.bl false))) sSkip))
def lp__law_right_2 : SM :=
  (sFor (iVal (eVar 8)) (gVar 11) lp__law_right_1)
def b__law_right : SM :=
  (sSeq (sAsg (eOp ixF (eFz (oLst (aCons (eCall (Ar 1 d__law_any) (aCons (eVar 0) aNil)) (aCons (eCall (mkX "NoList" "no such list" "found") (aCons (eC (.str "a")) aNil)) (aCons (eCall (mkX "NoState" "no state of the rules" "found") (aCons (eC (.int 7)) aNil)) aNil))))) (eCall (Ar 2 d__law_take) (aCons (eVar 0) (aCons (eC (.int 3)) aNil)))) (gVar 1))
    (sSeq (sPar 2 3 (eCall (Ar 1 d__law_number) (aCons (eVar 0) aNil)) (eCall (Ar 1 d__law_number) (aCons (eVar 0) aNil)))
    (sSeq (sPar 4 5 (eCall (Ar 1 d__law_named) (aCons (eVar 0) aNil)) (eSh (eCall (Ar 1 d__law_row) (aCons (eVar 0) aNil))))
    (sSeq (sAsg (eOp subF (eOp addF (eOp ixF (eFz (oLst (aCons (eVar 2) (aCons (eVar 3) aNil)))) (eCall (Ar 2 d__law_take) (aCons (eVar 0) (aCons (eC (.int 2)) aNil)))) (eCall (Ar 2 d__law_take) (aCons (eVar 0) (aCons (eC (.int 3)) aNil)))) (eC (.int 1))) (gVar 6))
    (sSeq (sAsg (eOp subF (eOp addF (eOp ixF (eFz (oLst (aCons (eVar 2) (aCons (eVar 3) aNil)))) (eCall (Ar 2 d__law_take) (aCons (eVar 0) (aCons (eC (.int 2)) aNil)))) (eCall (Ar 2 d__law_take) (aCons (eVar 0) (aCons (eC (.int 3)) aNil)))) (eC (.int 1))) (gVar 7))
    (sSeq (sAsg (eFz (oLst (aCons (eVar 1) (aCons (eVar 2) (aCons (eVar 4) (aCons (eVar 5) (aCons (eFz (oLst (aCons (eVar 1) aNil))) (aCons (eTup (aCons (eC (.int 1)) (aCons (eVar 2) aNil))) (aCons (eFz (oLst aNil)) (aCons (eTup aNil) (aCons (eC (.str "")) (aCons (eC (.bl true)) (aCons (eDic1 (eC (.str "a")) (eC (.int 1))) aNil))))))))))))) (gVar 8))
    (sSeq (sAsg (eCall (repY [("NoList", "NoList"), ("NoState", "NoState")]) (aCons (eVar 8) aNil)) (gVar 9))
    (sSeq (sFor (iCall rng1F (aCons (eC (.int 2)) aNil)) (gVar 10) lp__law_right_2)
    (sRet (eOp (eqH id) (eCall (repY [("NoList", "NoList"), ("NoState", "NoState")]) (aCons (eVar 8) aNil)) (eVar 9)))))))))))
def d__law_right : DM := mkD 12 b__law_right
def b__law_bag : SM :=
  (sRet (ePtr (oLst (aCons (eCall max2F (aCons (eC (.int 0)) (aCons (eOp subF (eVar 0) (eOp powF (eC (.int 10)) (eC (.int 18)))) aNil))) (aCons (eOp modF (eVar 0) (eC (.int 2147483629))) (aCons (eC (.int 0)) aNil))))))
def d__law_bag : DM := mkD 1 b__law_bag
def b__law_cell : SM :=
  (sSeq (sIf (bVal (eOp ltF (eVar 1) (eCall lenF (aCons (eVar 0) aNil)))) (sRet (eOp ixF (eVar 0) (eVar 1))) sSkip)
    (sRet (eOp addF (eOp mulF (eC (.int 7919)) (eVar 1)) (eC (.int 41)))))
def d__law_cell : DM := mkD 2 b__law_cell
def lp_law_1 : SM :=
  (sIf (bNot (bVal (eCall (Ar 1 d__law_right) (aCons (eCall (Ar 1 d__law_bag) (aCons (eCall (Ar 2 d__law_cell) (aCons (eVar 0) (aCons (eVar 1) aNil))) aNil)) aNil)))) (sRet (eC (.bl false))) sSkip)
def b_law : SM :=
  (sSeq (sFor (iCall rng1F (aCons (eCall max2F (aCons (eC (.int 3)) (aCons (eCall min2F (aCons (eC (.int 12)) (aCons (eCall lenF (aCons (eVar 0) aNil)) aNil))) aNil))) aNil)) (gVar 1) lp_law_1)
    (sRet (eC (.bl true))))
def d_law : DM := mkD 2 b_law
/-! ### what the top has left -/
structure Txt (K : Fr) (w : World) (mg : Str → Option Value) : Prop where
  n_len : mg "len" = none
  n_range : mg "range" = none
  n_tuple : mg "tuple" = none
  n_isinstance : mg "isinstance" = none
  n_bool : mg "bool" = none
  n_int : mg "int" = none
  n_str : mg "str" = none
  n_all : mg "all" = none
  n_list : mg "list" = none
  n_repr : mg "repr" = none
  n_max : mg "max" = none
  n_min : mg "min" = none
  c_LETTERS : ∃ t, mg "LETTERS" = some (.str "abcdefghijklmnopqrstuvwxyz" t)
  c_MOST_LOTS : ∃ t, mg "MOST_LOTS" = some (.int 20 t)
  c_MOST_LOT : ∃ t, mg "MOST_LOT" = some (.int 9 t)
  gx_NoState : mg "NoState" = some (.ref (He.ga K "NoState"))
  ox_NoState : OexC K (He.ga K "NoState")
  nf_NoState : PySem.W.findIn K (.ref (He.ga K "NoState")) "found" = some none
  gx_NoList : mg "NoList" = some (.ref (He.ga K "NoList"))
  ox_NoList : OexC K (He.ga K "NoList")
  nf_NoList : PySem.W.findIn K (.ref (He.ga K "NoList")) "found" = some none
  bs_PlayError : BasC K mg "PlayError"
  xcs : XCs K ["NoList", "NoState"]
  xnm : ∀ c nm, ([("NoList", "NoList"), ("NoState", "NoState")] : List (Str × Str)).lookup c = some nm → XNm K (He.ga K c) nm
section
variable {P : Program} {w : World} {K : Fr} {mg : Str → Option Value} {base : Heap} {cl : Cl}
theorem sc_NoState___init__ : FnScope ["self", "found"] ["self", "found"] (defScope s_NoState___init__) := ⟨rfl, rfl, rfl, by decide +kernel, rfl, by decide +kernel, by decide +kernel⟩
theorem ok_NoState___init__ (T : Txt K w mg) {f : Addr} {fd : FuncData} (F : FunD K "__init__" "NoState.__init__" (defArgs s_NoState___init__) (defBody s_NoState___init__) (defScope s_NoState___init__) [] [] f fd) (hm : Meth K (He.ga K "NoState") "__init__" f) : Okx P w K mg base "NoState" 1 "no state of the rules" "found" :=
  okx_mk T.ox_NoState T.nf_NoState T.gx_NoState hm.at_ (beq_iff_eq.mp hm.fn) F sc_NoState___init__ (fun _ _ _ _ _ _ us hl => match us, hl with | [_, _], _ => rfl) fun cdv A outer s H E => pss_cons (ps_expr (pe_xinit T.bs_PlayError (by rfl) (pv 0))) (pss_one (ps_xset (pv 0) (pv 1)))
theorem sc_NoList___init__ : FnScope ["self", "found"] ["self", "found"] (defScope s_NoList___init__) := ⟨rfl, rfl, rfl, by decide +kernel, rfl, by decide +kernel, by decide +kernel⟩
theorem ok_NoList___init__ (T : Txt K w mg) {f : Addr} {fd : FuncData} (F : FunD K "__init__" "NoList.__init__" (defArgs s_NoList___init__) (defBody s_NoList___init__) (defScope s_NoList___init__) [] [] f fd) (hm : Meth K (He.ga K "NoList") "__init__" f) : Okx P w K mg base "NoList" 1 "no such list" "found" :=
  okx_mk T.ox_NoList T.nf_NoList T.gx_NoList hm.at_ (beq_iff_eq.mp hm.fn) F sc_NoList___init__ (fun _ _ _ _ _ _ us hl => match us, hl with | [_, _], _ => rfl) fun cdv A outer s H E => pss_cons (ps_expr (pe_xinit T.bs_PlayError (by rfl) (pv 0))) (pss_one (ps_xset (pv 0) (pv 1)))
theorem sc__law_take : FnScope ["_law_bag_here", "_law_many", "_law_digit", "_law_number_here"] ["_law_bag_here", "_law_many"] (defScope s__law_take) := ⟨rfl, rfl, rfl, by decide +kernel, rfl, by decide +kernel, by decide +kernel⟩
theorem ok__law_take (T : Txt K w mg) {f : Addr} {fd : FuncData} (F : FunD K "_law_take" "_law_take" (defArgs s__law_take) (defBody s__law_take) (defScope s__law_take) [] [] f fd) (hf : mg "_law_take" = some (.ref f)) : OkA P w K mg base cl "_law_take" 1 ["_law_bag_here", "_law_many"] d__law_take f fd := by
  refine okf_mk (k := 0) F hf sc__law_take (fun _ _ _ _ _ _ us hl => match us, hl with | [_, _], _ => rfl) fun cdv A outer s H E hr => ?_
  have hx : Passes (L2.CX P w) (cxOf (L2.CX P w) P w K mg base ["_law_bag_here", "_law_many", "_law_digit", "_law_number_here"] "_law_take" (defScope s__law_take) f cdv A outer s H E) E := passes_call (takes_of rfl rfl rfl rfl) fun _ _ _ _ z => z
  have hp : PassesOwn (model P w) (cxOf (L2.CX P w) P w K mg base ["_law_bag_here", "_law_many", "_law_digit", "_law_number_here"] "_law_take" (defScope s__law_take) f cdv A outer s H E).A (cxOf (L2.CX P w) P w K mg base ["_law_bag_here", "_law_many", "_law_digit", "_law_number_here"] "_law_take" (defScope s__law_take) f cdv A outer s H E).env (cxOf (L2.CX P w) P w K mg base ["_law_bag_here", "_law_many", "_law_digit", "_law_number_here"] "_law_take" (defScope s__law_take) f cdv A outer s H E).xe := passes_of rfl
  exact (ss_cons (st_if (et_cmp op_gt (by rfl) cmpE (ee_ix (ee_var 0) ee_int) ee_int) (ss_cons (st_set 2 sc__law_take.nd (ee_op op_mod modE (ee_ix (ee_var 0) ee_int) (ee_var 1)))
    (ss_cons (st_asg (ee_op op_fdivW fdvE (ee_ix (ee_var 0) ee_int) (ee_var 1)) (eg_sub (cl := cl) (E := E) (ee_var 0) ee_int))
    (ss_one (st_ret (ee_var 2))))) ss_nil)
    (ss_cons (st_asg (ee_op op_addU addE (ee_ix (ee_var 0) ee_int) ee_int) (eg_sub (cl := cl) (E := E) (ee_var 0) ee_int))
    (ss_cons (st_set 3 sc__law_take.nd (ee_op op_mod modE (ee_op op_pow powE (ee_op op_addU addE (ee_op op_addU addE (ee_ix (ee_var 0) ee_int) (ee_op op_mulU mulE ee_int (ee_ix (ee_var 0) ee_int))) ee_int) ee_int) ee_int))
    (ss_cons (st_set 3 sc__law_take.nd (ee_op op_mod modE (ee_op op_pow powE (ee_op op_addU addE (ee_var 3) (ee_op op_mulU mulE ee_int (ee_ix (ee_var 0) ee_int))) ee_int) ee_int))
    (ss_one (st_ret (ee_op op_mod modE (ee_op op_fdivW fdvE (ee_var 3) ee_int) (ee_var 1))))))))
theorem sc__law_any : FnScope ["_law_bag_here", "_law_some"] ["_law_bag_here"] (defScope s__law_any) := ⟨rfl, rfl, rfl, by decide +kernel, rfl, by decide +kernel, by decide +kernel⟩
theorem ok__law_any (T : Txt K w mg) {f : Addr} {fd : FuncData} (F : FunD K "_law_any" "_law_any" (defArgs s__law_any) (defBody s__law_any) (defScope s__law_any) [] [] f fd) (hf : mg "_law_any" = some (.ref f)) (h__law_take : Okf P w K mg base cl "_law_take" 1 ["_law_bag_here", "_law_many"] d__law_take) : OkA P w K mg base cl "_law_any" 2 ["_law_bag_here"] d__law_any f fd := by
  refine okf_mk (k := 1) F hf sc__law_any (fun _ _ _ _ _ _ us hl => match us, hl with | [_], _ => rfl) fun cdv A outer s H E hr => ?_
  have hx : Passes (L2.CX P w) (cxOf (L2.CX P w) P w K mg base ["_law_bag_here", "_law_some"] "_law_any" (defScope s__law_any) f cdv A outer s H E) E := passes_call (takes_of rfl rfl rfl rfl) fun _ _ _ _ z => z
  have hp : PassesOwn (model P w) (cxOf (L2.CX P w) P w K mg base ["_law_bag_here", "_law_some"] "_law_any" (defScope s__law_any) f cdv A outer s H E).A (cxOf (L2.CX P w) P w K mg base ["_law_bag_here", "_law_some"] "_law_any" (defScope s__law_any) f cdv A outer s H E).env (cxOf (L2.CX P w) P w K mg base ["_law_bag_here", "_law_some"] "_law_any" (defScope s__law_any) f cdv A outer s H E).xe := passes_of rfl
  exact (ss_cons (st_set 1 sc__law_any.nd (ee_fz (eo_lst (ea_cons ee_non (ea_cons ee_bl (ea_cons ee_bl (ea_cons (ee_op op_subC subE ee_int ee_int) (ea_cons (ee_op op_pow powE ee_int ee_int) (ea_cons ee_str (ea_cons ee_str (ea_cons ee_str (ea_cons (ee_fz (eo_lst ea_nil)) (ea_cons (ee_fz (eo_lst (ea_cons ee_str ea_nil))) (ea_cons (ee_tup (ea_cons ee_str ea_nil)) (ea_cons (ee_tup ea_nil) (ea_cons ee_dic0 (ea_cons (ee_dic1 ee_str ee_int) (ea_cons (ee_fz (eo_lst (ea_cons (ee_fz (eo_lst (ea_cons ee_int ea_nil))) ea_nil))) ea_nil))))))))))))))))))
    (ss_one (st_ret (ee_ix (ee_var 1) (ee_call h__law_take (hr.mono (by decide)) hx (ea_cons (ee_var 0) (ea_cons ee_int ea_nil)))))))
theorem sc__law_number : FnScope ["_law_bag_here", "_law_some"] ["_law_bag_here"] (defScope s__law_number) := ⟨rfl, rfl, rfl, by decide +kernel, rfl, by decide +kernel, by decide +kernel⟩
theorem ok__law_number (T : Txt K w mg) {f : Addr} {fd : FuncData} (F : FunD K "_law_number" "_law_number" (defArgs s__law_number) (defBody s__law_number) (defScope s__law_number) [] [] f fd) (hf : mg "_law_number" = some (.ref f)) (h__law_take : Okf P w K mg base cl "_law_take" 1 ["_law_bag_here", "_law_many"] d__law_take) : OkA P w K mg base cl "_law_number" 2 ["_law_bag_here"] d__law_number f fd := by
  refine okf_mk (k := 1) F hf sc__law_number (fun _ _ _ _ _ _ us hl => match us, hl with | [_], _ => rfl) fun cdv A outer s H E hr => ?_
  have hx : Passes (L2.CX P w) (cxOf (L2.CX P w) P w K mg base ["_law_bag_here", "_law_some"] "_law_number" (defScope s__law_number) f cdv A outer s H E) E := passes_call (takes_of rfl rfl rfl rfl) fun _ _ _ _ z => z
  have hp : PassesOwn (model P w) (cxOf (L2.CX P w) P w K mg base ["_law_bag_here", "_law_some"] "_law_number" (defScope s__law_number) f cdv A outer s H E).A (cxOf (L2.CX P w) P w K mg base ["_law_bag_here", "_law_some"] "_law_number" (defScope s__law_number) f cdv A outer s H E).env (cxOf (L2.CX P w) P w K mg base ["_law_bag_here", "_law_some"] "_law_number" (defScope s__law_number) f cdv A outer s H E).xe := passes_of rfl
  exact (ss_cons (st_set 1 sc__law_number.nd (ee_fz (eo_lst (ea_cons ee_int (ea_cons ee_int (ea_cons ee_int (ea_cons ee_int (ea_cons (ee_un un_neg negE ee_int) (ea_cons (ee_un un_neg negE ee_int) (ea_cons ee_int (ea_cons (ee_call h__law_take (hr.mono (by decide)) hx (ea_cons (ee_var 0) (ea_cons (ee_op op_subC subE (ee_op op_pow powE ee_int ee_int) ee_int) ea_nil))) (ea_cons (ee_op op_subC subE ee_int (ee_call h__law_take (hr.mono (by decide)) hx (ea_cons (ee_var 0) (ea_cons (ee_op op_subC subE (ee_op op_pow powE ee_int ee_int) ee_int) ea_nil)))) ea_nil))))))))))))
    (ss_one (st_ret (ee_ix (ee_var 1) (ee_call h__law_take (hr.mono (by decide)) hx (ea_cons (ee_var 0) (ea_cons ee_int ea_nil)))))))
theorem sc__law_spoilt : FnScope ["_law_bag_here", "_law_name", "_law_sign", "_law_at", "_law_pick"] ["_law_bag_here", "_law_name"] (defScope s__law_spoilt) := ⟨rfl, rfl, rfl, by decide +kernel, rfl, by decide +kernel, by decide +kernel⟩
theorem ok__law_spoilt (T : Txt K w mg) {f : Addr} {fd : FuncData} (F : FunD K "_law_spoilt" "_law_spoilt" (defArgs s__law_spoilt) (defBody s__law_spoilt) (defScope s__law_spoilt) [] [] f fd) (hf : mg "_law_spoilt" = some (.ref f)) (h__law_take : Okf P w K mg base cl "_law_take" 1 ["_law_bag_here", "_law_many"] d__law_take) : OkA P w K mg base cl "_law_spoilt" 2 ["_law_bag_here", "_law_name"] d__law_spoilt f fd := by
  refine okf_mk (k := 1) F hf sc__law_spoilt (fun _ _ _ _ _ _ us hl => match us, hl with | [_, _], _ => rfl) fun cdv A outer s H E hr => ?_
  have hx : Passes (L2.CX P w) (cxOf (L2.CX P w) P w K mg base ["_law_bag_here", "_law_name", "_law_sign", "_law_at", "_law_pick"] "_law_spoilt" (defScope s__law_spoilt) f cdv A outer s H E) E := passes_call (takes_of rfl rfl rfl rfl) fun _ _ _ _ z => z
  have hp : PassesOwn (model P w) (cxOf (L2.CX P w) P w K mg base ["_law_bag_here", "_law_name", "_law_sign", "_law_at", "_law_pick"] "_law_spoilt" (defScope s__law_spoilt) f cdv A outer s H E).A (cxOf (L2.CX P w) P w K mg base ["_law_bag_here", "_law_name", "_law_sign", "_law_at", "_law_pick"] "_law_spoilt" (defScope s__law_spoilt) f cdv A outer s H E).env (cxOf (L2.CX P w) P w K mg base ["_law_bag_here", "_law_name", "_law_sign", "_law_at", "_law_pick"] "_law_spoilt" (defScope s__law_spoilt) f cdv A outer s H E).xe := passes_of rfl
  exact (ss_cons (st_set 2 sc__law_spoilt.nd (ee_ix ee_str (ee_call h__law_take (hr.mono (by decide)) hx (ea_cons (ee_var 0) (ea_cons ee_int ea_nil)))))
    (ss_cons (st_set 3 sc__law_spoilt.nd (ee_call h__law_take (hr.mono (by decide)) hx (ea_cons (ee_var 0) (ea_cons (ee_op op_addU addE (ee_blt call_lenU lenE T.n_len b_len (ea_cons (ee_var 1) ea_nil)) ee_int) ea_nil))))
    (ss_cons (st_set 4 sc__law_spoilt.nd (ee_call h__law_take (hr.mono (by decide)) hx (ea_cons (ee_var 0) (ea_cons ee_int ea_nil))))
    (ss_cons (st_if (et_cmp (op_eqU (by exact hr.units)) (by rfl) eqHE (ee_var 4) ee_int) (ss_one (st_ret (ee_op op_addU addE (ee_op op_addU addE (ee_cut (ee_var 1) eq_none (eq_some (ee_var 3))) (ee_var 2)) (ee_cut (ee_var 1) (eq_some (ee_var 3)) eq_none)))) ss_nil)
    (ss_cons (st_if (et_cmp (op_eqU (by exact hr.units)) (by rfl) eqHE (ee_var 4) ee_int) (ss_one (st_ret (ee_op op_addU addE (ee_cut (ee_var 1) eq_none (eq_some (ee_var 3))) (ee_cut (ee_var 1) (eq_some (ee_op op_addU addE (ee_var 3) ee_int)) eq_none)))) ss_nil)
    (ss_one (st_ret (ee_if (et_cmp (op_eqU (by exact hr.units)) (by rfl) eqHE (ee_var 4) ee_int) (ee_op op_addU addE (ee_op op_addU addE (ee_cut (ee_var 1) eq_none (eq_some (ee_var 3))) (ee_var 2)) (ee_cut (ee_var 1) (eq_some (ee_op op_addU addE (ee_var 3) ee_int)) eq_none)) (ee_var 1)))))))))
theorem sc__law_named : FnScope ["_law_bag_here", "_law_small", "_law_k"] ["_law_bag_here"] (defScope s__law_named) := ⟨rfl, rfl, rfl, by decide +kernel, rfl, by decide +kernel, by decide +kernel⟩
theorem ok__law_named (T : Txt K w mg) {f : Addr} {fd : FuncData} (F : FunD K "_law_named" "_law_named" (defArgs s__law_named) (defBody s__law_named) (defScope s__law_named) [] [] f fd) (hf : mg "_law_named" = some (.ref f)) (h__law_spoilt : Okf P w K mg base cl "_law_spoilt" 2 ["_law_bag_here", "_law_name"] d__law_spoilt) (h__law_take : Okf P w K mg base cl "_law_take" 1 ["_law_bag_here", "_law_many"] d__law_take) : OkA P w K mg base cl "_law_named" 3 ["_law_bag_here"] d__law_named f fd := by
  refine okf_mk (k := 2) F hf sc__law_named (fun _ _ _ _ _ _ us hl => match us, hl with | [_], _ => rfl) fun cdv A outer s H E hr => ?_
  have hx : Passes (L2.CX P w) (cxOf (L2.CX P w) P w K mg base ["_law_bag_here", "_law_small", "_law_k"] "_law_named" (defScope s__law_named) f cdv A outer s H E) E := passes_call (takes_of rfl rfl rfl rfl) fun _ _ _ _ z => z
  have hp : PassesOwn (model P w) (cxOf (L2.CX P w) P w K mg base ["_law_bag_here", "_law_small", "_law_k"] "_law_named" (defScope s__law_named) f cdv A outer s H E).A (cxOf (L2.CX P w) P w K mg base ["_law_bag_here", "_law_small", "_law_k"] "_law_named" (defScope s__law_named) f cdv A outer s H E).env (cxOf (L2.CX P w) P w K mg base ["_law_bag_here", "_law_small", "_law_k"] "_law_named" (defScope s__law_named) f cdv A outer s H E).xe := passes_of rfl
  exact (ss_cons (st_set 1 sc__law_named.nd ee_str)
    (ss_one (st_ret (ee_call h__law_spoilt (hr.mono (by decide)) hx (ea_cons (ee_var 0) (ea_cons (ee_join ee_str (ee_fz (eo_lc (own := [("_law_k", 2)]) (ix := [2]) (by decide) rfl sc__law_named.nd (ei_rng1 (ea_cons (ee_op op_addU addE ee_int (ee_call h__law_take (hr.mono (by decide)) hx (ea_cons (ee_var 0) (ea_cons ee_int ea_nil)))) ea_nil) (by rfl) T.n_range) (blkOk_by (N := ["_law_bag_here", "_law_small", "_law_k"]) (sc := defScope s__law_named) (by decide +kernel)) (fun _ _ _ _ _ => by exact (eg_var 2 sc__law_named.nd)) (fun _ _ _ _ _ => by exact ets_nil) (fun _ _ _ _ _ => by exact (ee_ix (ee_var 1) (ee_call h__law_take (hr.mono (by decide)) passL (ea_cons (ee_var 0) (ea_cons ee_int ea_nil)))))))) ea_nil))))))
theorem sc__law_row : FnScope ["_law_bag_here", "_law_found", "_law_k"] ["_law_bag_here"] (defScope s__law_row) := ⟨rfl, rfl, rfl, by decide +kernel, rfl, by decide +kernel, by decide +kernel⟩
theorem ok__law_row (T : Txt K w mg) {f : Addr} {fd : FuncData} (F : FunD K "_law_row" "_law_row" (defArgs s__law_row) (defBody s__law_row) (defScope s__law_row) [] [] f fd) (hf : mg "_law_row" = some (.ref f)) (h__law_take : Okf P w K mg base cl "_law_take" 1 ["_law_bag_here", "_law_many"] d__law_take) : OkA P w K mg base cl "_law_row" 2 ["_law_bag_here"] d__law_row f fd := by
  refine okf_mk (k := 1) F hf sc__law_row (fun _ _ _ _ _ _ us hl => match us, hl with | [_], _ => rfl) fun cdv A outer s H E hr => ?_
  have hx : Passes (L2.CX P w) (cxOf (L2.CX P w) P w K mg base ["_law_bag_here", "_law_found", "_law_k"] "_law_row" (defScope s__law_row) f cdv A outer s H E) E := passes_call (takes_of rfl rfl rfl rfl) fun _ _ _ _ z => z
  have hp : PassesOwn (model P w) (cxOf (L2.CX P w) P w K mg base ["_law_bag_here", "_law_found", "_law_k"] "_law_row" (defScope s__law_row) f cdv A outer s H E).A (cxOf (L2.CX P w) P w K mg base ["_law_bag_here", "_law_found", "_law_k"] "_law_row" (defScope s__law_row) f cdv A outer s H E).env (cxOf (L2.CX P w) P w K mg base ["_law_bag_here", "_law_found", "_law_k"] "_law_row" (defScope s__law_row) f cdv A outer s H E).xe := passes_of rfl
  exact (ss_cons (st_setLcP 1 (own := [("_law_k", 2)]) (ix := [2]) (by decide) rfl sc__law_row.nd (ei_rng1 (ea_cons (ee_ix (ee_fz (eo_lst (ea_cons ee_int (ea_cons ee_int (ea_cons ee_int (ea_cons ee_int (ea_cons (ee_call h__law_take (hr.mono (by decide)) hx (ea_cons (ee_var 0) (ea_cons ee_int ea_nil))) ea_nil))))))) (ee_call h__law_take (hr.mono (by decide)) hx (ea_cons (ee_var 0) (ea_cons ee_int ea_nil)))) ea_nil) (by rfl) T.n_range) (blkOk_by (N := ["_law_bag_here", "_law_found", "_law_k"]) (sc := defScope s__law_row) (by decide +kernel)) (fun _ _ _ _ _ => by exact (eg_var 2 sc__law_row.nd)) (fun _ _ _ _ _ => by exact ets_nil) (fun _ _ _ _ _ => by exact (ee_call h__law_take (hr.mono (by decide)) passL (ea_cons (ee_var 0) (ea_cons ee_int ea_nil)))) (sw_true rfl rfl rfl (by decide +kernel)))
    (ss_cons (st_if (et_w (ew_and (et_cmp (op_neU (by exact hr.units)) (by rfl) neHE (ee_var 1) (ee_fz (eo_lst ea_nil))) (ew_and1 (et_cmp (op_eqU (by exact hr.units)) (by rfl) eqHE (ee_call h__law_take (hr.mono (by decide)) hx (ea_cons (ee_var 0) (ea_cons ee_int ea_nil))) ee_int)))) (ss_one (st_asg (ee_ix (ee_fz (eo_lst (ea_cons ee_int (ea_cons (ee_un un_neg negE ee_int) (ea_cons ee_non (ea_cons ee_bl (ea_cons ee_str (ea_cons (ee_fz (eo_lst (ea_cons ee_int ea_nil))) (ea_cons (ee_tup (ea_cons ee_int ea_nil)) (ea_cons ee_bl (ea_cons (ee_op op_pow powE ee_int ee_int) ea_nil))))))))))) (ee_call h__law_take (hr.mono (by decide)) hx (ea_cons (ee_var 0) (ea_cons ee_int ea_nil)))) (eg_sub (cl := cl) (E := E) (ee_var 1) (ee_call h__law_take (hr.mono (by decide)) hx (ea_cons (ee_var 0) (ea_cons (ee_blt call_lenU lenE T.n_len b_len (ea_cons (ee_var 1) ea_nil)) ea_nil)))))) ss_nil)
    (ss_one (st_ret (ee_ix (ee_fz (eo_lst (ea_cons (ee_var 1) (ea_cons (ee_ty call_tuple_of tupOfE T.n_tuple b_tuple (ea_cons (ee_var 1) ea_nil)) ea_nil)))) (ee_call h__law_take (hr.mono (by decide)) hx (ea_cons (ee_var 0) (ea_cons ee_int ea_nil))))))))
theorem sc__law_is : FnScope ["_law_found", "_law_due"] ["_law_found", "_law_due"] (defScope s__law_is) := ⟨rfl, rfl, rfl, by decide +kernel, rfl, by decide +kernel, by decide +kernel⟩
theorem ok__law_is (T : Txt K w mg) {f : Addr} {fd : FuncData} (F : FunD K "_law_is" "_law_is" (defArgs s__law_is) (defBody s__law_is) (defScope s__law_is) [] [] f fd) (hf : mg "_law_is" = some (.ref f)) : OkA P w K mg base cl "_law_is" 1 ["_law_found", "_law_due"] d__law_is f fd := by
  refine okf_mk (k := 0) F hf sc__law_is (fun _ _ _ _ _ _ us hl => match us, hl with | [_, _], _ => rfl) fun cdv A outer s H E hr => ?_
  have hx : Passes (L2.CX P w) (cxOf (L2.CX P w) P w K mg base ["_law_found", "_law_due"] "_law_is" (defScope s__law_is) f cdv A outer s H E) E := passes_call (takes_of rfl rfl rfl rfl) fun _ _ _ _ z => z
  have hp : PassesOwn (model P w) (cxOf (L2.CX P w) P w K mg base ["_law_found", "_law_due"] "_law_is" (defScope s__law_is) f cdv A outer s H E).A (cxOf (L2.CX P w) P w K mg base ["_law_found", "_law_due"] "_law_is" (defScope s__law_is) f cdv A outer s H E).env (cxOf (L2.CX P w) P w K mg base ["_law_found", "_law_due"] "_law_is" (defScope s__law_is) f cdv A outer s H E).xe := passes_of rfl
  exact (ss_one (st_ret (ee_and (ee_isx T.xcs (ee_var 0) (by rfl) T.n_isinstance b_isi (by rfl) T.n_bool b_bool (by rfl) (by decide) (by decide)) (ee_one (ee_cmp (op_eqU (by exact hr.units)) (by rfl) eqHE (ee_var 0) (ee_var 1))))))
theorem sc__law_whole : FnScope ["_law_thing"] ["_law_thing"] (defScope s__law_whole) := ⟨rfl, rfl, rfl, by decide +kernel, rfl, by decide +kernel, by decide +kernel⟩
theorem ok__law_whole (T : Txt K w mg) {f : Addr} {fd : FuncData} (F : FunD K "_law_whole" "_law_whole" (defArgs s__law_whole) (defBody s__law_whole) (defScope s__law_whole) [] [] f fd) (hf : mg "_law_whole" = some (.ref f)) : OkA P w K mg base cl "_law_whole" 1 ["_law_thing"] d__law_whole f fd := by
  refine okf_mk (k := 0) F hf sc__law_whole (fun _ _ _ _ _ _ us hl => match us, hl with | [_], _ => rfl) fun cdv A outer s H E hr => ?_
  have hx : Passes (L2.CX P w) (cxOf (L2.CX P w) P w K mg base ["_law_thing"] "_law_whole" (defScope s__law_whole) f cdv A outer s H E) E := passes_call (takes_of rfl rfl rfl rfl) fun _ _ _ _ z => z
  have hp : PassesOwn (model P w) (cxOf (L2.CX P w) P w K mg base ["_law_thing"] "_law_whole" (defScope s__law_whole) f cdv A outer s H E).A (cxOf (L2.CX P w) P w K mg base ["_law_thing"] "_law_whole" (defScope s__law_whole) f cdv A outer s H E).env (cxOf (L2.CX P w) P w K mg base ["_law_thing"] "_law_whole" (defScope s__law_whole) f cdv A outer s H E).xe := passes_of rfl
  exact (ss_one (st_ret (ee_and (ee_isx T.xcs (ee_var 0) (by rfl) T.n_isinstance b_isi (by rfl) T.n_int b_int (by rfl) (by decide) (by decide)) (ee_one (ee_not (ee_isx T.xcs (ee_var 0) (by rfl) T.n_isinstance b_isi (by rfl) T.n_bool b_bool (by rfl) (by decide) (by decide)))))))
theorem sc_is_whole : FnScope ["thing", "low", "high"] ["thing", "low", "high"] (defScope s_is_whole) := ⟨rfl, rfl, rfl, by decide +kernel, rfl, by decide +kernel, by decide +kernel⟩
theorem ok_is_whole (T : Txt K w mg) {f : Addr} {fd : FuncData} (F : FunD K "is_whole" "is_whole" (defArgs s_is_whole) (defBody s_is_whole) (defScope s_is_whole) [] [] f fd) (hf : mg "is_whole" = some (.ref f)) : OkA P w K mg base cl "is_whole" 1 ["thing", "low", "high"] d_is_whole f fd := by
  refine okf_mk (k := 0) F hf sc_is_whole (fun _ _ _ _ _ _ us hl => match us, hl with | [_, _, _], _ => rfl) fun cdv A outer s H E hr => ?_
  have hx : Passes (L2.CX P w) (cxOf (L2.CX P w) P w K mg base ["thing", "low", "high"] "is_whole" (defScope s_is_whole) f cdv A outer s H E) E := passes_call (takes_of rfl rfl rfl rfl) fun _ _ _ _ z => z
  have hp : PassesOwn (model P w) (cxOf (L2.CX P w) P w K mg base ["thing", "low", "high"] "is_whole" (defScope s_is_whole) f cdv A outer s H E).A (cxOf (L2.CX P w) P w K mg base ["thing", "low", "high"] "is_whole" (defScope s_is_whole) f cdv A outer s H E).env (cxOf (L2.CX P w) P w K mg base ["thing", "low", "high"] "is_whole" (defScope s_is_whole) f cdv A outer s H E).xe := passes_of rfl
  exact (ss_one (st_ret (ee_and (ee_isx T.xcs (ee_var 0) (by rfl) T.n_isinstance b_isi (by rfl) T.n_int b_int (by rfl) (by decide) (by decide)) (ee_and (ee_not (ee_isx T.xcs (ee_var 0) (by rfl) T.n_isinstance b_isi (by rfl) T.n_bool b_bool (by rfl) (by decide) (by decide))) (ee_one (ee_chain op_le op_le cmpE cmpE (ee_var 1) (ee_var 0) (ee_var 2)))))))
theorem sc__law_is_name : FnScope ["_law_thing", "_law_small", "_law_sign"] ["_law_thing"] (defScope s__law_is_name) := ⟨rfl, rfl, rfl, by decide +kernel, rfl, by decide +kernel, by decide +kernel⟩
theorem ok__law_is_name (T : Txt K w mg) {f : Addr} {fd : FuncData} (F : FunD K "_law_is_name" "_law_is_name" (defArgs s__law_is_name) (defBody s__law_is_name) (defScope s__law_is_name) [] [] f fd) (hf : mg "_law_is_name" = some (.ref f)) : OkA P w K mg base cl "_law_is_name" 1 ["_law_thing"] d__law_is_name f fd := by
  refine okf_mk (k := 0) F hf sc__law_is_name (fun _ _ _ _ _ _ us hl => match us, hl with | [_], _ => rfl) fun cdv A outer s H E hr => ?_
  have hx : Passes (L2.CX P w) (cxOf (L2.CX P w) P w K mg base ["_law_thing", "_law_small", "_law_sign"] "_law_is_name" (defScope s__law_is_name) f cdv A outer s H E) E := passes_call (takes_of rfl rfl rfl rfl) fun _ _ _ _ z => z
  have hp : PassesOwn (model P w) (cxOf (L2.CX P w) P w K mg base ["_law_thing", "_law_small", "_law_sign"] "_law_is_name" (defScope s__law_is_name) f cdv A outer s H E).A (cxOf (L2.CX P w) P w K mg base ["_law_thing", "_law_small", "_law_sign"] "_law_is_name" (defScope s__law_is_name) f cdv A outer s H E).env (cxOf (L2.CX P w) P w K mg base ["_law_thing", "_law_small", "_law_sign"] "_law_is_name" (defScope s__law_is_name) f cdv A outer s H E).xe := passes_of rfl
  exact (ss_cons (st_set 1 sc__law_is_name.nd ee_str)
    (ss_one (st_ret (ee_and (ee_isx T.xcs (ee_var 0) (by rfl) T.n_isinstance b_isi (by rfl) T.n_str b_str (by rfl) (by decide) (by decide)) (ee_and (ee_chain op_lt op_lt cmpE cmpE ee_int (ee_blt call_lenU lenE T.n_len b_len (ea_cons (ee_var 0) ea_nil)) ee_int) (ee_one (ee_cmp (op_eqN (by exact hr.units)) (by rfl) eqNE (ee_fz (eo_lc (own := [("_law_sign", 2)]) (ix := [2]) (by decide) rfl sc__law_is_name.nd (ei_val (ee_var 0)) (blkOk_by (N := ["_law_thing", "_law_small", "_law_sign"]) (sc := defScope s__law_is_name) (by decide +kernel)) (fun _ _ _ _ _ => by exact (eg_var 2 sc__law_is_name.nd)) (fun _ _ _ _ _ => by exact (ets_one (et_cmp op_notInU (by rfl) (inE (neg := true)) (ee_var 2) (ee_var 1)))) (fun _ _ _ _ _ => by exact (ee_var 2)))) (ee_fz (eo_lst ea_nil)))))))))
theorem sc_is_name : FnScope ["thing", "sign"] ["thing"] (defScope s_is_name) := ⟨rfl, rfl, rfl, by decide +kernel, rfl, by decide +kernel, by decide +kernel⟩
theorem ok_is_name (T : Txt K w mg) {f : Addr} {fd : FuncData} (F : FunD K "is_name" "is_name" (defArgs s_is_name) (defBody s_is_name) (defScope s_is_name) [] [] f fd) (hf : mg "is_name" = some (.ref f)) : OkA P w K mg base cl "is_name" 1 ["thing"] d_is_name f fd := by
  refine okf_mk (k := 0) F hf sc_is_name (fun _ _ _ _ _ _ us hl => match us, hl with | [_], _ => rfl) fun cdv A outer s H E hr => ?_
  have hx : Passes (L2.CX P w) (cxOf (L2.CX P w) P w K mg base ["thing", "sign"] "is_name" (defScope s_is_name) f cdv A outer s H E) E := passes_call (takes_of rfl rfl rfl rfl) fun _ _ _ _ z => z
  have hp : PassesOwn (model P w) (cxOf (L2.CX P w) P w K mg base ["thing", "sign"] "is_name" (defScope s_is_name) f cdv A outer s H E).A (cxOf (L2.CX P w) P w K mg base ["thing", "sign"] "is_name" (defScope s_is_name) f cdv A outer s H E).env (cxOf (L2.CX P w) P w K mg base ["thing", "sign"] "is_name" (defScope s_is_name) f cdv A outer s H E).xe := passes_of rfl
  exact (ss_one (st_ret (ee_and (ee_isx T.xcs (ee_var 0) (by rfl) T.n_isinstance b_isi (by rfl) T.n_str b_str (by rfl) (by decide) (by decide)) (ee_and (ee_chain op_le op_le cmpE cmpE ee_int (ee_blt call_lenU lenE T.n_len b_len (ea_cons (ee_var 0) ea_nil)) ee_int) (ee_one (ee_blt (cr_all rfl) allE T.n_all b_all (ea_cons (ee_fz (eo_lc (own := [("sign", 1)]) (ix := [1]) (by decide) rfl sc_is_name.nd (ei_val (ee_var 0)) (blkOk_by (N := ["thing", "sign"]) (sc := defScope s_is_name) (by decide +kernel)) (fun _ _ _ _ _ => by exact (eg_var 1 sc_is_name.nd)) (fun _ _ _ _ _ => by exact ets_nil) (fun _ _ _ _ _ => by exact (ee_cmp op_inU (by rfl) (inE (neg := false)) (ee_var 1) (ee_gstr T.c_LETTERS))))) ea_nil)))))))
theorem sc__law_is_row : FnScope ["_law_thing", "_law_one"] ["_law_thing"] (defScope s__law_is_row) := ⟨rfl, rfl, rfl, by decide +kernel, rfl, by decide +kernel, by decide +kernel⟩
theorem ok__law_is_row (T : Txt K w mg) {f : Addr} {fd : FuncData} (F : FunD K "_law_is_row" "_law_is_row" (defArgs s__law_is_row) (defBody s__law_is_row) (defScope s__law_is_row) [] [] f fd) (hf : mg "_law_is_row" = some (.ref f)) (h__law_whole : Okf P w K mg base cl "_law_whole" 1 ["_law_thing"] d__law_whole) : OkA P w K mg base cl "_law_is_row" 2 ["_law_thing"] d__law_is_row f fd := by
  refine okf_mk (k := 1) F hf sc__law_is_row (fun _ _ _ _ _ _ us hl => match us, hl with | [_], _ => rfl) fun cdv A outer s H E hr => ?_
  have hx : Passes (L2.CX P w) (cxOf (L2.CX P w) P w K mg base ["_law_thing", "_law_one"] "_law_is_row" (defScope s__law_is_row) f cdv A outer s H E) E := passes_call (takes_of rfl rfl rfl rfl) fun _ _ _ _ z => z
  have hp : PassesOwn (model P w) (cxOf (L2.CX P w) P w K mg base ["_law_thing", "_law_one"] "_law_is_row" (defScope s__law_is_row) f cdv A outer s H E).A (cxOf (L2.CX P w) P w K mg base ["_law_thing", "_law_one"] "_law_is_row" (defScope s__law_is_row) f cdv A outer s H E).env (cxOf (L2.CX P w) P w K mg base ["_law_thing", "_law_one"] "_law_is_row" (defScope s__law_is_row) f cdv A outer s H E).xe := passes_of rfl
  exact (ss_cons (st_if (et_w (ew_or (et_not (et_val (ee_isx2 T.xcs (ee_var 0) (by rfl) T.n_isinstance b_isi (by rfl) T.n_list b_list (by rfl) (by decide) (by decide) (by rfl) T.n_tuple b_tuple (by rfl) (by decide) (by decide)))) (ew_or1 (et_cmp op_gt (by rfl) cmpE (ee_blt call_lenU lenE T.n_len b_len (ea_cons (ee_var 0) ea_nil)) ee_int)))) (ss_one (st_ret ee_bl)) ss_nil)
    (ss_one (st_ret (ee_cmp (op_eqN (by exact hr.units)) (by rfl) eqNE (ee_fz (eo_lc (own := [("_law_one", 1)]) (ix := [1]) (by decide) rfl sc__law_is_row.nd (ei_val (ee_var 0)) (blkOk_by (N := ["_law_thing", "_law_one"]) (sc := defScope s__law_is_row) (by decide +kernel)) (fun _ _ _ _ _ => by exact (eg_var 1 sc__law_is_row.nd)) (fun _ _ _ _ _ => by exact (ets_one (et_w (ew_or (et_not (et_val (ee_call h__law_whole (hr.mono (by decide)) passL (ea_cons (ee_var 1) ea_nil)))) (ew_or1 (et_not (et_chain op_le op_le cmpE cmpE ee_int (ee_var 1) ee_int))))))) (fun _ _ _ _ _ => by exact (ee_var 1)))) (ee_fz (eo_lst ea_nil))))))
theorem sc_are_lots : FnScope ["thing", "lot"] ["thing"] (defScope s_are_lots) := ⟨rfl, rfl, rfl, by decide +kernel, rfl, by decide +kernel, by decide +kernel⟩
theorem ok_are_lots (T : Txt K w mg) {f : Addr} {fd : FuncData} (F : FunD K "are_lots" "are_lots" (defArgs s_are_lots) (defBody s_are_lots) (defScope s_are_lots) [] [] f fd) (hf : mg "are_lots" = some (.ref f)) (h_is_whole : Okf P w K mg base cl "is_whole" 1 ["thing", "low", "high"] d_is_whole) : OkA P w K mg base cl "are_lots" 2 ["thing"] d_are_lots f fd := by
  refine okf_mk (k := 1) F hf sc_are_lots (fun _ _ _ _ _ _ us hl => match us, hl with | [_], _ => rfl) fun cdv A outer s H E hr => ?_
  have hx : Passes (L2.CX P w) (cxOf (L2.CX P w) P w K mg base ["thing", "lot"] "are_lots" (defScope s_are_lots) f cdv A outer s H E) E := passes_call (takes_of rfl rfl rfl rfl) fun _ _ _ _ z => z
  have hp : PassesOwn (model P w) (cxOf (L2.CX P w) P w K mg base ["thing", "lot"] "are_lots" (defScope s_are_lots) f cdv A outer s H E).A (cxOf (L2.CX P w) P w K mg base ["thing", "lot"] "are_lots" (defScope s_are_lots) f cdv A outer s H E).env (cxOf (L2.CX P w) P w K mg base ["thing", "lot"] "are_lots" (defScope s_are_lots) f cdv A outer s H E).xe := passes_of rfl
  exact (ss_cons (st_if (et_w (ew_or (et_not (et_val (ee_isx2 T.xcs (ee_var 0) (by rfl) T.n_isinstance b_isi (by rfl) T.n_list b_list (by rfl) (by decide) (by decide) (by rfl) T.n_tuple b_tuple (by rfl) (by decide) (by decide)))) (ew_or1 (et_cmp op_gt (by rfl) cmpE (ee_blt call_lenU lenE T.n_len b_len (ea_cons (ee_var 0) ea_nil)) (ee_gint T.c_MOST_LOTS))))) (ss_one (st_ret ee_bl)) ss_nil)
    (ss_one (st_ret (ee_blt (cr_all rfl) allE T.n_all b_all (ea_cons (ee_fz (eo_lc (own := [("lot", 1)]) (ix := [1]) (by decide) rfl sc_are_lots.nd (ei_val (ee_var 0)) (blkOk_by (N := ["thing", "lot"]) (sc := defScope s_are_lots) (by decide +kernel)) (fun _ _ _ _ _ => by exact (eg_var 1 sc_are_lots.nd)) (fun _ _ _ _ _ => by exact ets_nil) (fun _ _ _ _ _ => by exact (ee_call h_is_whole (hr.mono (by decide)) passL (ea_cons (ee_var 1) (ea_cons ee_int (ea_cons (ee_gint T.c_MOST_LOT) ea_nil))))))) ea_nil)))))
theorem sc__law_right : FnScope ["_law_bag_here", "_law_odd", "_law_number_here", "_law_other", "_law_text", "_law_row_here", "_law_low", "_law_high", "_law_some", "_law_kept", "_law_turn", "_law_thing"] ["_law_bag_here"] (defScope s__law_right) := ⟨rfl, rfl, rfl, by decide +kernel, rfl, by decide +kernel, by decide +kernel⟩
theorem ok__law_right (T : Txt K w mg) {f : Addr} {fd : FuncData} (F : FunD K "_law_right" "_law_right" (defArgs s__law_right) (defBody s__law_right) (defScope s__law_right) [] [] f fd) (hf : mg "_law_right" = some (.ref f)) (h__law_any : Okf P w K mg base cl "_law_any" 2 ["_law_bag_here"] d__law_any) (h__law_take : Okf P w K mg base cl "_law_take" 1 ["_law_bag_here", "_law_many"] d__law_take) (h__law_number : Okf P w K mg base cl "_law_number" 2 ["_law_bag_here"] d__law_number) (h__law_named : Okf P w K mg base cl "_law_named" 3 ["_law_bag_here"] d__law_named) (h__law_row : Okf P w K mg base cl "_law_row" 2 ["_law_bag_here"] d__law_row) (h__law_is : Okf P w K mg base cl "_law_is" 1 ["_law_found", "_law_due"] d__law_is) (h__law_whole : Okf P w K mg base cl "_law_whole" 1 ["_law_thing"] d__law_whole) (h_is_whole : Okf P w K mg base cl "is_whole" 1 ["thing", "low", "high"] d_is_whole) (h__law_is_name : Okf P w K mg base cl "_law_is_name" 1 ["_law_thing"] d__law_is_name) (h_is_name : Okf P w K mg base cl "is_name" 1 ["thing"] d_is_name) (h__law_is_row : Okf P w K mg base cl "_law_is_row" 2 ["_law_thing"] d__law_is_row) (h_are_lots : Okf P w K mg base cl "are_lots" 2 ["thing"] d_are_lots) (x_NoState : Okx P w K mg base "NoState" 1 "no state of the rules" "found") (x_NoList : Okx P w K mg base "NoList" 1 "no such list" "found") : OkA P w K mg base cl "_law_right" 4 ["_law_bag_here"] d__law_right f fd := by
  refine okf_mk (k := 3) F hf sc__law_right (fun _ _ _ _ _ _ us hl => match us, hl with | [_], _ => rfl) fun cdv A outer s H E hr => ?_
  have hx : Passes (L2.CX P w) (cxOf (L2.CX P w) P w K mg base ["_law_bag_here", "_law_odd", "_law_number_here", "_law_other", "_law_text", "_law_row_here", "_law_low", "_law_high", "_law_some", "_law_kept", "_law_turn", "_law_thing"] "_law_right" (defScope s__law_right) f cdv A outer s H E) E := passes_call (takes_of rfl rfl rfl rfl) fun _ _ _ _ z => z
  have hp : PassesOwn (model P w) (cxOf (L2.CX P w) P w K mg base ["_law_bag_here", "_law_odd", "_law_number_here", "_law_other", "_law_text", "_law_row_here", "_law_low", "_law_high", "_law_some", "_law_kept", "_law_turn", "_law_thing"] "_law_right" (defScope s__law_right) f cdv A outer s H E).A (cxOf (L2.CX P w) P w K mg base ["_law_bag_here", "_law_odd", "_law_number_here", "_law_other", "_law_text", "_law_row_here", "_law_low", "_law_high", "_law_some", "_law_kept", "_law_turn", "_law_thing"] "_law_right" (defScope s__law_right) f cdv A outer s H E).env (cxOf (L2.CX P w) P w K mg base ["_law_bag_here", "_law_odd", "_law_number_here", "_law_other", "_law_text", "_law_row_here", "_law_low", "_law_high", "_law_some", "_law_kept", "_law_turn", "_law_thing"] "_law_right" (defScope s__law_right) f cdv A outer s H E).xe := passes_of rfl
  exact (ss_cons (st_set 1 sc__law_right.nd (ee_ix (ee_fz (eo_lst (ea_cons (ee_call h__law_any (hr.mono (by decide)) hx (ea_cons (ee_var 0) ea_nil)) (ea_cons (ee_mkx x_NoList (hr.mono (by decide)) hx (ea_cons ee_str ea_nil)) (ea_cons (ee_mkx x_NoState (hr.mono (by decide)) hx (ea_cons ee_int ea_nil)) ea_nil))))) (ee_call h__law_take (hr.mono (by decide)) hx (ea_cons (ee_var 0) (ea_cons ee_int ea_nil)))))
    (ss_cons (st_par 2 3 rfl sc__law_right.nd (ee_call h__law_number (hr.mono (by decide)) hx (ea_cons (ee_var 0) ea_nil)) (ee_call h__law_number (hr.mono (by decide)) hx (ea_cons (ee_var 0) ea_nil)))
    (ss_cons (st_par 4 5 rfl sc__law_right.nd (ee_call h__law_named (hr.mono (by decide)) hx (ea_cons (ee_var 0) ea_nil)) (ee_sh (ee_call h__law_row (hr.mono (by decide)) hx (ea_cons (ee_var 0) ea_nil))))
    (ss_cons (st_set 6 sc__law_right.nd (ee_op op_subC subE (ee_op op_addU addE (ee_ix (ee_fz (eo_lst (ea_cons (ee_var 2) (ea_cons (ee_var 3) ea_nil)))) (ee_call h__law_take (hr.mono (by decide)) hx (ea_cons (ee_var 0) (ea_cons ee_int ea_nil)))) (ee_call h__law_take (hr.mono (by decide)) hx (ea_cons (ee_var 0) (ea_cons ee_int ea_nil)))) ee_int))
    (ss_cons (st_set 7 sc__law_right.nd (ee_op op_subC subE (ee_op op_addU addE (ee_ix (ee_fz (eo_lst (ea_cons (ee_var 2) (ea_cons (ee_var 3) ea_nil)))) (ee_call h__law_take (hr.mono (by decide)) hx (ea_cons (ee_var 0) (ea_cons ee_int ea_nil)))) (ee_call h__law_take (hr.mono (by decide)) hx (ea_cons (ee_var 0) (ea_cons ee_int ea_nil)))) ee_int))
    (ss_cons (st_set 8 sc__law_right.nd (ee_fz (eo_lst (ea_cons (ee_var 1) (ea_cons (ee_var 2) (ea_cons (ee_var 4) (ea_cons (ee_var 5) (ea_cons (ee_fz (eo_lst (ea_cons (ee_var 1) ea_nil))) (ea_cons (ee_tup (ea_cons ee_int (ea_cons (ee_var 2) ea_nil))) (ea_cons (ee_fz (eo_lst ea_nil)) (ea_cons (ee_tup ea_nil) (ea_cons ee_str (ea_cons ee_bl (ea_cons (ee_dic1 ee_str ee_int) ea_nil))))))))))))))
    (ss_cons (st_set 9 sc__law_right.nd (ee_blt (cr_repY hr) (repYE T.xnm) T.n_repr b_repr (ea_cons (ee_var 8) ea_nil)))
    (ss_cons (st_for hp rfl (ei_rng1 (ea_cons ee_int ea_nil) (by rfl) T.n_range) (eg_var 10 sc__law_right.nd) (ss_one (st_for hp rfl (ei_val (ee_var 8)) (eg_var 11 sc__law_right.nd) (ss_cons (st_if (et_not (et_val (ee_call h__law_is (hr.mono (by decide)) hx (ea_cons (ee_call h_is_whole (hr.mono (by decide)) hx (ea_cons (ee_var 11) (ea_cons (ee_var 6) (ea_cons (ee_var 7) ea_nil)))) (ea_cons (ee_and (ee_call h__law_whole (hr.mono (by decide)) hx (ea_cons (ee_var 11) ea_nil)) (ee_one (ee_chain op_le op_le cmpE cmpE (ee_var 6) (ee_var 11) (ee_var 7)))) ea_nil))))) (ss_one (st_ret ee_bl)) ss_nil)
    (ss_one (st_if (et_w (ew_or (et_not (et_val (ee_call h__law_is (hr.mono (by decide)) hx (ea_cons (ee_call h_is_name (hr.mono (by decide)) hx (ea_cons (ee_var 11) ea_nil)) (ea_cons (ee_call h__law_is_name (hr.mono (by decide)) hx (ea_cons (ee_var 11) ea_nil)) ea_nil))))) (ew_or1 (et_not (et_val (ee_call h__law_is (hr.mono (by decide)) hx (ea_cons (ee_call h_are_lots (hr.mono (by decide)) hx (ea_cons (ee_var 11) ea_nil)) (ea_cons (ee_call h__law_is_row (hr.mono (by decide)) hx (ea_cons (ee_var 11) ea_nil)) ea_nil)))))))) (ss_one (st_ret ee_bl)) ss_nil))))))
    (ss_one (st_ret (ee_cmp (op_eqU (by exact hr.units)) (by rfl) eqHE (ee_blt (cr_repY hr) (repYE T.xnm) T.n_repr b_repr (ea_cons (ee_var 8) ea_nil)) (ee_var 9))))))))))))
theorem sc__law_bag : FnScope ["_law_cell_here"] ["_law_cell_here"] (defScope s__law_bag) := ⟨rfl, rfl, rfl, by decide +kernel, rfl, by decide +kernel, by decide +kernel⟩
theorem ok__law_bag (T : Txt K w mg) {f : Addr} {fd : FuncData} (F : FunD K "_law_bag" "_law_bag" (defArgs s__law_bag) (defBody s__law_bag) (defScope s__law_bag) [] [] f fd) (hf : mg "_law_bag" = some (.ref f)) : OkA P w K mg base cl "_law_bag" 1 ["_law_cell_here"] d__law_bag f fd := by
  refine okf_mk (k := 0) F hf sc__law_bag (fun _ _ _ _ _ _ us hl => match us, hl with | [_], _ => rfl) fun cdv A outer s H E hr => ?_
  have hx : Passes (L2.CX P w) (cxOf (L2.CX P w) P w K mg base ["_law_cell_here"] "_law_bag" (defScope s__law_bag) f cdv A outer s H E) E := passes_call (takes_of rfl rfl rfl rfl) fun _ _ _ _ z => z
  have hp : PassesOwn (model P w) (cxOf (L2.CX P w) P w K mg base ["_law_cell_here"] "_law_bag" (defScope s__law_bag) f cdv A outer s H E).A (cxOf (L2.CX P w) P w K mg base ["_law_cell_here"] "_law_bag" (defScope s__law_bag) f cdv A outer s H E).env (cxOf (L2.CX P w) P w K mg base ["_law_cell_here"] "_law_bag" (defScope s__law_bag) f cdv A outer s H E).xe := passes_of rfl
  exact (ss_one (st_ret (ee_ptr (eo_lst (ea_cons (ee_blt (call_max2 rfl) max2E T.n_max b_max (ea_cons ee_int (ea_cons (ee_op op_subC subE (ee_var 0) (ee_op op_pow powE ee_int ee_int)) ea_nil))) (ea_cons (ee_op op_mod modE (ee_var 0) ee_int) (ea_cons ee_int ea_nil)))))))
theorem sc__law_cell : FnScope ["_law_script", "_law_k"] ["_law_script", "_law_k"] (defScope s__law_cell) := ⟨rfl, rfl, rfl, by decide +kernel, rfl, by decide +kernel, by decide +kernel⟩
theorem ok__law_cell (T : Txt K w mg) {f : Addr} {fd : FuncData} (F : FunD K "_law_cell" "_law_cell" (defArgs s__law_cell) (defBody s__law_cell) (defScope s__law_cell) [] [] f fd) (hf : mg "_law_cell" = some (.ref f)) : OkA P w K mg base cl "_law_cell" 1 ["_law_script", "_law_k"] d__law_cell f fd := by
  refine okf_mk (k := 0) F hf sc__law_cell (fun _ _ _ _ _ _ us hl => match us, hl with | [_, _], _ => rfl) fun cdv A outer s H E hr => ?_
  have hx : Passes (L2.CX P w) (cxOf (L2.CX P w) P w K mg base ["_law_script", "_law_k"] "_law_cell" (defScope s__law_cell) f cdv A outer s H E) E := passes_call (takes_of rfl rfl rfl rfl) fun _ _ _ _ z => z
  have hp : PassesOwn (model P w) (cxOf (L2.CX P w) P w K mg base ["_law_script", "_law_k"] "_law_cell" (defScope s__law_cell) f cdv A outer s H E).A (cxOf (L2.CX P w) P w K mg base ["_law_script", "_law_k"] "_law_cell" (defScope s__law_cell) f cdv A outer s H E).env (cxOf (L2.CX P w) P w K mg base ["_law_script", "_law_k"] "_law_cell" (defScope s__law_cell) f cdv A outer s H E).xe := passes_of rfl
  exact (ss_cons (st_if (et_cmp op_lt (by rfl) cmpE (ee_var 1) (ee_blt call_lenU lenE T.n_len b_len (ea_cons (ee_var 0) ea_nil))) (ss_one (st_ret (ee_ix (ee_var 0) (ee_var 1)))) ss_nil)
    (ss_one (st_ret (ee_op op_addU addE (ee_op op_mulU mulE ee_int (ee_var 1)) ee_int))))
theorem sc_law : FnScope ["_law_script", "_law_k"] ["_law_script"] (defScope s_law) := ⟨rfl, rfl, rfl, by decide +kernel, rfl, by decide +kernel, by decide +kernel⟩
theorem ok_law (T : Txt K w mg) {f : Addr} {fd : FuncData} (F : FunD K "law" "law" (defArgs s_law) (defBody s_law) (defScope s_law) [] [] f fd) (hf : mg "law" = some (.ref f)) (h__law_right : Okf P w K mg base cl "_law_right" 4 ["_law_bag_here"] d__law_right) (h__law_bag : Okf P w K mg base cl "_law_bag" 1 ["_law_cell_here"] d__law_bag) (h__law_cell : Okf P w K mg base cl "_law_cell" 1 ["_law_script", "_law_k"] d__law_cell) : OkA P w K mg base cl "law" 5 ["_law_script"] d_law f fd := by
  refine okf_mk (k := 4) F hf sc_law (fun _ _ _ _ _ _ us hl => match us, hl with | [_], _ => rfl) fun cdv A outer s H E hr => ?_
  have hx : Passes (L2.CX P w) (cxOf (L2.CX P w) P w K mg base ["_law_script", "_law_k"] "law" (defScope s_law) f cdv A outer s H E) E := passes_call (takes_of rfl rfl rfl rfl) fun _ _ _ _ z => z
  have hp : PassesOwn (model P w) (cxOf (L2.CX P w) P w K mg base ["_law_script", "_law_k"] "law" (defScope s_law) f cdv A outer s H E).A (cxOf (L2.CX P w) P w K mg base ["_law_script", "_law_k"] "law" (defScope s_law) f cdv A outer s H E).env (cxOf (L2.CX P w) P w K mg base ["_law_script", "_law_k"] "law" (defScope s_law) f cdv A outer s H E).xe := passes_of rfl
  exact (ss_cons (st_for hp rfl (ei_rng1 (ea_cons (ee_blt (call_max2 rfl) max2E T.n_max b_max (ea_cons ee_int (ea_cons (ee_blt (call_min2 rfl) min2E T.n_min b_min (ea_cons ee_int (ea_cons (ee_blt call_lenU lenE T.n_len b_len (ea_cons (ee_var 0) ea_nil)) ea_nil))) ea_nil))) ea_nil) (by rfl) T.n_range) (eg_var 1 sc_law.nd) (ss_one (st_if (et_not (et_val (ee_call h__law_right (hr.mono (by decide)) hx (ea_cons (ee_call h__law_bag (hr.mono (by decide)) hx (ea_cons (ee_call h__law_cell (hr.mono (by decide)) hx (ea_cons (ee_var 0) (ea_cons (ee_var 1) ea_nil))) ea_nil)) ea_nil)))) (ss_one (st_ret ee_bl)) ss_nil)))
    (ss_one (st_ret ee_bl)))
end
end W01

set_option Elab.async false
set_option linter.all false
set_option maxRecDepth 100000
set_option maxHeartbeats 4000000
namespace W01
open PySem L2 U TL
/-- a bag of draws stands at n, at most c were mixed -/
def Bag (n : Nat) (c : Nat) (S : ST) : Prop := ∃ (a b : Int) (k : Nat), stL S n = some [.int a, .int b, .int k] ∧ 0 ≤ a ∧ 0 ≤ b ∧ b < 2147483629 ∧ k ≤ c
theorem take_fr {n c : Nat} {S : ST} {m : Int} (B : Bag n c S) (hc : c < 1000) (hm : 0 < m) (hm2 : m.natAbs.log2 < 9000) : ∃ r S', d__law_take [.ptr n, .int m] S = some (.ok (.int r), S') ∧ 0 ≤ r ∧ r < m ∧ Bag n (c + 1) S' ∧ ∀ i, i ≠ n → stL S' i = stL S i := by
  obtain ⟨a, b, k, hs, ha, hb, hb2, hk⟩ := B
  have hn := stL_lt hs
  have a0 : atI [D.int a, D.int b, D.int k] 0 = some (.int a) := rfl
  have a1 : ∀ x : D, atI [D.int a, D.int b, x] 1 = some (.int b) := fun _ => rfl
  have a2 : ∀ x : D, atI [D.int a, D.int b, x] 2 = some x := fun _ => rfl
  have x0 : ixN 3 0 = some 0 := rfl
  have x2 : ixN 3 2 = some 2 := rfl
  by_cases h : 0 < a
  · refine ⟨a % m, S.set n (.lst [.int (a / m), .int b, .int k]), ?_, Int.emod_nonneg _ (by omega), Int.emod_lt_of_pos _ hm, ⟨a / m, b, k, stL_set hn, Int.ediv_nonneg ha (by omega), hb, hb2, by omega⟩, fun i hi => stL_set_ne (Ne.symm hi)⟩
    simp (config := { decide := true }) only [bd_1, bd_2, bs_1, bs_2, sq_1, sq_2, sq_3, sq_4, sq_5, vr_1, ga_1, lcE_1, sSeq_e, sAsg_e, cAsg_1, sRet_e, cRt_1, sDrop_e, cDr_1, sIf_e, cIf_t, cIf_f, sSkip_e, sBrk_e, sCnt_e, sPar_e, cPar_1, cPar2_1, sFor_e, cFor_1, gVar_e, eVar_e, eC_e, eOp_e, cOp_1, eUn_e, aNil_e, aCons_e, cA_1, cA2_1, eCall_e, oCall_e, iCall_e, iVal_e, toB_1, bVal_e, bAnd_e, cAnd_1, bOr_e, cOr_1, bNot_e, cNot_1, eAnd_e, cEAnd_1, cEAnd2_1, eOr_e, cEOr_1, cEOr2_1, eNot_e, cENot_1, cENot2_1, eIf_e, cEIf_1, eChain_e, cCh_1, cCh1_1, cCh2_1, cCh3_1, eTup_e, cTup_1, oLst_e, cLst_1, eFz_e, cFz_1, ePtr_e, cPtr_1, oLc_e, cLc_1, eSh_e, itF_1, itF_2, itF_3, addF_1, addF_2, addF_3, intF_1, subF_1, modF_1, fdvF_1, powF_1, mulF_1, mulF_2, negF_1, ltF_1, leF_1, gtF_1, geF_1, atE_1, ixF_1, ixF_2, ixF_3, pxE_1, ixF_4, plE_1, lenF_4, eMt_e, cMt_1, eCut_e, cCut_1, cCut2_1, qNone_e, qSome_e, toI_1, cutF_1, cutF_2, cutF_3, cutF_4, eCallK_e, cK_1, cK2_1, eDic0_e, oCat_e, cCat_1, cCat2_1, cCat3_1, lsT_1, lsT_2, rcv_p, apE_1, appF_1, stL_app, set_app, stL_0, stL_k, stL_c, stL_s, set_0, set_k, shE_1, shF_1, lenF_1, lenF_2, lenF_3, absF_1, intOfF_1, intOfF_2, rng1F_1, rng2F_1, Ar_e, mkD_e, fin_1, fin_2, fin_3, few_e, tupOfF_1, tupOfF_2, tupOfF_3, lstOfF_1, lstOfF_2, lstOfF_3, isF_1, gStar_1, cIf_1, Option.isSome_some, List.length_map, List.length_append, List.append_assoc, Nat.add_assoc, slots, wpD, List.map_cons, List.map_nil, List.cons_append, List.nil_append, List.length_cons, List.length_nil, List.replicate, List.set_cons_succ, List.set_cons_zero, List.getElem?_cons_zero, List.getElem?_cons_succ, if_true, if_false, ite_true, ite_false, reduceIte, Nat.reduceAdd, Nat.reduceSub, Nat.reduceLeDiff, Nat.zero_add, Nat.sub_zero, Nat.sub_self, Bool.not_true, Bool.not_false, Bool.false_eq_true, decide_true, decide_false, Bool.true_and, Bool.and_true, Bool.or_true, Bool.true_or, Bool.false_and, Bool.and_false, Bool.or_false, Bool.false_or, decide_eq_true_eq, id_eq, Int.reduceLT, Int.reduceLE, Int.reduceNeg, Int.reduceAdd, Int.reduceSub, Int.reduceMul, Int.reduceMod, Int.reduceDiv, Int.reducePow, Int.reduceToNat, and_self, true_and, and_true, gStar_1, eqF_int, isiF_tup, isiF_lst, isiF_int, isiF_str, isiF_bl, at_0, gSet_e, seO_1, seI_1, lenF_5, addF_4, sxE_1, ixF_5, itF_4, max2F_e, min2F_e, eM1_c, cM1_1, oM1_c, cN1_1, intAnyF_b, intAnyF_s, strOfF_1, eqF_str, eqH_int, eqH_str, dvmF_1, gTwo_1, eIf_e, d__law_take, b__law_take, hs, a0, h, hm, hm2, seE_1, x0]
  · have e1 : ((k : Int) + 1) = ((k + 1 : Nat) : Int) := by omega
    have p1 : (b + 7919 * ((k + 1 : Nat) : Int) + 31).natAbs < 18446744073709551616 := by omega
    generalize hu : (b + 7919 * ((k + 1 : Nat) : Int) + 31) ^ 5 % 2147483647 = u
    have u1 : 0 ≤ u := by rw [← hu]; exact Int.emod_nonneg _ (by decide)
    have u2 : u < 2147483647 := by rw [← hu]; exact Int.emod_lt_of_pos _ (by decide)
    have p2 : (u + 104729 * ((k + 1 : Nat) : Int)).natAbs < 18446744073709551616 := by omega
    have q1 : -18446744073709551616 < ((k + 1 : Nat) : Int) := by omega
    have q2 : ((k + 1 : Nat) : Int) < 18446744073709551616 := by omega
    refine ⟨(u + 104729 * ((k + 1 : Nat) : Int)) ^ 3 % 2147483587 / 16 % m, S.set n (.lst [.int a, .int b, .int ((k + 1 : Nat) : Int)]), ?_, Int.emod_nonneg _ (by omega), Int.emod_lt_of_pos _ hm, ⟨a, b, k + 1, stL_set hn, ha, hb, hb2, by omega⟩, fun i hi => stL_set_ne (Ne.symm hi)⟩
    simp (config := { decide := true }) only [bd_1, bd_2, bs_1, bs_2, sq_1, sq_2, sq_3, sq_4, sq_5, vr_1, ga_1, lcE_1, sSeq_e, sAsg_e, cAsg_1, sRet_e, cRt_1, sDrop_e, cDr_1, sIf_e, cIf_t, cIf_f, sSkip_e, sBrk_e, sCnt_e, sPar_e, cPar_1, cPar2_1, sFor_e, cFor_1, gVar_e, eVar_e, eC_e, eOp_e, cOp_1, eUn_e, aNil_e, aCons_e, cA_1, cA2_1, eCall_e, oCall_e, iCall_e, iVal_e, toB_1, bVal_e, bAnd_e, cAnd_1, bOr_e, cOr_1, bNot_e, cNot_1, eAnd_e, cEAnd_1, cEAnd2_1, eOr_e, cEOr_1, cEOr2_1, eNot_e, cENot_1, cENot2_1, eIf_e, cEIf_1, eChain_e, cCh_1, cCh1_1, cCh2_1, cCh3_1, eTup_e, cTup_1, oLst_e, cLst_1, eFz_e, cFz_1, ePtr_e, cPtr_1, oLc_e, cLc_1, eSh_e, itF_1, itF_2, itF_3, addF_1, addF_2, addF_3, intF_1, subF_1, modF_1, fdvF_1, powF_1, mulF_1, mulF_2, negF_1, ltF_1, leF_1, gtF_1, geF_1, atE_1, ixF_1, ixF_2, ixF_3, pxE_1, ixF_4, plE_1, lenF_4, eMt_e, cMt_1, eCut_e, cCut_1, cCut2_1, qNone_e, qSome_e, toI_1, cutF_1, cutF_2, cutF_3, cutF_4, eCallK_e, cK_1, cK2_1, eDic0_e, oCat_e, cCat_1, cCat2_1, cCat3_1, lsT_1, lsT_2, rcv_p, apE_1, appF_1, stL_app, set_app, stL_0, stL_k, stL_c, stL_s, set_0, set_k, shE_1, shF_1, lenF_1, lenF_2, lenF_3, absF_1, intOfF_1, intOfF_2, rng1F_1, rng2F_1, Ar_e, mkD_e, fin_1, fin_2, fin_3, few_e, tupOfF_1, tupOfF_2, tupOfF_3, lstOfF_1, lstOfF_2, lstOfF_3, isF_1, gStar_1, cIf_1, Option.isSome_some, List.length_map, List.length_append, List.append_assoc, Nat.add_assoc, slots, wpD, List.map_cons, List.map_nil, List.cons_append, List.nil_append, List.length_cons, List.length_nil, List.replicate, List.set_cons_succ, List.set_cons_zero, List.getElem?_cons_zero, List.getElem?_cons_succ, if_true, if_false, ite_true, ite_false, reduceIte, Nat.reduceAdd, Nat.reduceSub, Nat.reduceLeDiff, Nat.zero_add, Nat.sub_zero, Nat.sub_self, Bool.not_true, Bool.not_false, Bool.false_eq_true, decide_true, decide_false, Bool.true_and, Bool.and_true, Bool.or_true, Bool.true_or, Bool.false_and, Bool.and_false, Bool.or_false, Bool.false_or, decide_eq_true_eq, id_eq, Int.reduceLT, Int.reduceLE, Int.reduceNeg, Int.reduceAdd, Int.reduceSub, Int.reduceMul, Int.reduceMod, Int.reduceDiv, Int.reducePow, Int.reduceToNat, and_self, true_and, and_true, gStar_1, eqF_int, isiF_tup, isiF_lst, isiF_int, isiF_str, isiF_bl, at_0, gSet_e, seO_1, seI_1, lenF_5, addF_4, sxE_1, ixF_5, itF_4, max2F_e, min2F_e, eM1_c, cM1_1, oM1_c, cN1_1, intAnyF_b, intAnyF_s, strOfF_1, eqF_str, eqH_int, eqH_str, dvmF_1, gTwo_1, eIf_e, d__law_take, b__law_take, hs, a0, a1, a2, h, hm, hm2, seE_1, x0, x2, e1, stL_set hn, p1, p2, hu, q1, q2]
theorem take_ok {n c : Nat} {S : ST} {m : Int} (B : Bag n c S) (hc : c < 1000) (hm : 0 < m) (hm2 : m.natAbs.log2 < 9000) : ∃ r S', d__law_take [.ptr n, .int m] S = some (.ok (.int r), S') ∧ 0 ≤ r ∧ r < m ∧ Bag n (c + 1) S' := by
  obtain ⟨r, S', e, h1, h2, B, _⟩ := take_fr B hc hm hm2
  exact ⟨r, S', e, h1, h2, B⟩
/-- a text of at most k signs, each of them a sign -/
def Tx (k : Nat) (t : Str) : Prop := t.length ≤ k ∧ ∀ c ∈ tl t, c < 1114112
theorem len_app (a b : Str) : (a ++ b).length = a.length + b.length := by
  rw [len_tl, len_tl a, len_tl b, tl_append, List.length_append]
theorem Tx.app {j k : Nat} {a b : Str} (ha : Tx j a) (hb : Tx k b) : Tx (j + k) (a ++ b) := by
  refine ⟨by rw [len_app]; have := ha.1; have := hb.1; omega, fun c hc => ?_⟩
  rw [tl_append] at hc
  rcases List.mem_append.mp hc with h | h
  · exact ha.2 c h
  · exact hb.2 c h
theorem tl_cut (z : Str) (lo hi : Option Int) : tl (cutS z lo hi) = ((tl z).drop (HT.sIx z.length 0 lo)).take (HT.sIx z.length z.length hi - HT.sIx z.length 0 lo) := by simp [cutS]
theorem Tx.cut {k : Nat} {z : Str} (h : Tx k z) (lo hi : Option Int) : Tx k (cutS z lo hi) := by
  refine ⟨?_, fun c hc => ?_⟩
  · rw [len_tl, tl_cut]
    have := h.1
    rw [len_tl] at this
    simp only [List.length_take, List.length_drop]
    omega
  · rw [tl_cut] at hc
    exact h.2 c (List.mem_of_mem_drop (List.mem_of_mem_take hc))
theorem Tx.mono {j k : Nat} {t : Str} (h : Tx j t) (hk : j ≤ k) : Tx k t := ⟨Nat.le_trans h.1 hk, h.2⟩
theorem Tx.one {c : Nat} (h : c < 1114112) : Tx 1 ⟨#[c]⟩ := ⟨Nat.le_refl 1, fun d hd => by
  have : d = c := by simpa using hd
  omega⟩
theorem spoilt_ok {n c k : Nat} {S : ST} {t : Str} (B : Bag n c S) (hc : c < 900) (ht : Tx k t) (hk : k ≤ 1000) : ∃ t' S', d__law_spoilt [.ptr n, .str t] S = some (.ok (.str t'), S') ∧ Tx (k + 1 + k) t' ∧ Bag n (c + 3) S' := by
  obtain ⟨r1, S1, e1, l1, h1, B1⟩ := take_ok (m := 12) B (by omega) (by decide) (by decide)
  have hlen := ht.1
  obtain ⟨r2, S2, e2, l2, h2, B2⟩ := take_ok (m := (t.length : Int) + 1) B1 (by omega) (by omega) (by
    have : ((t.length : Int) + 1).natAbs ≠ 0 := by omega
    exact Nat.lt_trans ((Nat.log2_lt this).mpr (by have : (2 : Nat) ^ 20 = 1048576 := by decide
                                                   omega : ((t.length : Int) + 1).natAbs < 2 ^ 20)) (by decide))
  obtain ⟨r3, S3, e3, l3, h3, B3⟩ := take_ok (m := 6) B2 (by omega) (by decide) (by decide)
  obtain ⟨g, gm, ge⟩ := at_mem (xs := tl "abzAZ09 ~_\n.") l1 (by
    have : (tl "abzAZ09 ~_\n.").length = 12 := by decide +kernel
    rw [this]
    exact h1)
  have gs : g < 1114112 := (by decide +kernel : ∀ g ∈ tl "abzAZ09 ~_\n.", g < 1114112) g gm
  have f1 : t.length ≤ 100000 := by omega
  have f0 : (Str.ofString "abzAZ09 ~_\n.").length ≤ 100000 := by decide +kernel
  have cl : ∀ lo hi, (cutS t lo hi).length ≤ k := fun lo hi => (ht.cut lo hi).1
  have q1 : ∀ lo hi lo' hi', (cutS t lo hi).length + (cutS t lo' hi').length ≤ 100000 := fun lo hi lo' hi' => by
    have := cl lo hi; have := cl lo' hi'; omega
  have q2 : ∀ lo hi, (cutS t lo hi).length + (⟨#[g]⟩ : Str).length ≤ 100000 := fun lo hi => by
    have := cl lo hi
    have : (⟨#[g]⟩ : Str).length = 1 := rfl
    omega
  have q3 : ∀ lo hi lo' hi', (cutS t lo hi ++ (⟨#[g]⟩ : Str)).length + (cutS t lo' hi').length ≤ 100000 := fun lo hi lo' hi' => by
    have := cl lo hi; have := cl lo' hi'
    have : (⟨#[g]⟩ : Str).length = 1 := rfl
    rw [len_app]
    omega
  by_cases c0 : (r3 == 0) = true
  · refine ⟨cutS t none (some r2) ++ ⟨#[g]⟩ ++ cutS t (some r2) none, S3, ?_, Tx.app (Tx.app (ht.cut none (some r2)) (Tx.one gs)) (ht.cut (some r2) none), B3⟩
    simp (config := { decide := true }) only [bd_1, bd_2, bs_1, bs_2, sq_1, sq_2, sq_3, sq_4, sq_5, vr_1, ga_1, lcE_1, sSeq_e, sAsg_e, cAsg_1, sRet_e, cRt_1, sDrop_e, cDr_1, sIf_e, cIf_t, cIf_f, sSkip_e, sBrk_e, sCnt_e, sPar_e, cPar_1, cPar2_1, sFor_e, cFor_1, gVar_e, eVar_e, eC_e, eOp_e, cOp_1, eUn_e, aNil_e, aCons_e, cA_1, cA2_1, eCall_e, oCall_e, iCall_e, iVal_e, toB_1, bVal_e, bAnd_e, cAnd_1, bOr_e, cOr_1, bNot_e, cNot_1, eAnd_e, cEAnd_1, cEAnd2_1, eOr_e, cEOr_1, cEOr2_1, eNot_e, cENot_1, cENot2_1, eIf_e, cEIf_1, eChain_e, cCh_1, cCh1_1, cCh2_1, cCh3_1, eTup_e, cTup_1, oLst_e, cLst_1, eFz_e, cFz_1, ePtr_e, cPtr_1, oLc_e, cLc_1, eSh_e, itF_1, itF_2, itF_3, addF_1, addF_2, addF_3, intF_1, subF_1, modF_1, fdvF_1, powF_1, mulF_1, mulF_2, negF_1, ltF_1, leF_1, gtF_1, geF_1, atE_1, ixF_1, ixF_2, ixF_3, pxE_1, ixF_4, plE_1, lenF_4, eMt_e, cMt_1, eCut_e, cCut_1, cCut2_1, qNone_e, qSome_e, toI_1, cutF_1, cutF_2, cutF_3, cutF_4, eCallK_e, cK_1, cK2_1, eDic0_e, oCat_e, cCat_1, cCat2_1, cCat3_1, lsT_1, lsT_2, rcv_p, apE_1, appF_1, stL_app, set_app, stL_0, stL_k, stL_c, stL_s, set_0, set_k, shE_1, shF_1, lenF_1, lenF_2, lenF_3, absF_1, intOfF_1, intOfF_2, rng1F_1, rng2F_1, Ar_e, mkD_e, fin_1, fin_2, fin_3, few_e, tupOfF_1, tupOfF_2, tupOfF_3, lstOfF_1, lstOfF_2, lstOfF_3, isF_1, gStar_1, cIf_1, Option.isSome_some, List.length_map, List.length_append, List.append_assoc, Nat.add_assoc, slots, wpD, List.map_cons, List.map_nil, List.cons_append, List.nil_append, List.length_cons, List.length_nil, List.replicate, List.set_cons_succ, List.set_cons_zero, List.getElem?_cons_zero, List.getElem?_cons_succ, if_true, if_false, ite_true, ite_false, reduceIte, Nat.reduceAdd, Nat.reduceSub, Nat.reduceLeDiff, Nat.zero_add, Nat.sub_zero, Nat.sub_self, Bool.not_true, Bool.not_false, Bool.false_eq_true, decide_true, decide_false, Bool.true_and, Bool.and_true, Bool.or_true, Bool.true_or, Bool.false_and, Bool.and_false, Bool.or_false, Bool.false_or, decide_eq_true_eq, id_eq, Int.reduceLT, Int.reduceLE, Int.reduceNeg, Int.reduceAdd, Int.reduceSub, Int.reduceMul, Int.reduceMod, Int.reduceDiv, Int.reducePow, Int.reduceToNat, and_self, true_and, and_true, gStar_1, eqF_int, isiF_tup, isiF_lst, isiF_int, isiF_str, isiF_bl, at_0, gSet_e, seO_1, seI_1, lenF_5, addF_4, sxE_1, ixF_5, itF_4, max2F_e, min2F_e, eM1_c, cM1_1, oM1_c, cN1_1, intAnyF_b, intAnyF_s, strOfF_1, eqF_str, eqH_int, eqH_str, dvmF_1, gTwo_1, eIf_e, d__law_spoilt, b__law_spoilt, e1, e2, e3, f0, f1, ge, eqH_int, c0, q1, q2, q3]
  · by_cases c1 : (r3 == 1) = true
    · refine ⟨cutS t none (some r2) ++ cutS t (some (r2 + 1)) none, S3, ?_, ((ht.cut _ _).app (ht.cut _ _)).mono (by omega), B3⟩
      simp (config := { decide := true }) only [bd_1, bd_2, bs_1, bs_2, sq_1, sq_2, sq_3, sq_4, sq_5, vr_1, ga_1, lcE_1, sSeq_e, sAsg_e, cAsg_1, sRet_e, cRt_1, sDrop_e, cDr_1, sIf_e, cIf_t, cIf_f, sSkip_e, sBrk_e, sCnt_e, sPar_e, cPar_1, cPar2_1, sFor_e, cFor_1, gVar_e, eVar_e, eC_e, eOp_e, cOp_1, eUn_e, aNil_e, aCons_e, cA_1, cA2_1, eCall_e, oCall_e, iCall_e, iVal_e, toB_1, bVal_e, bAnd_e, cAnd_1, bOr_e, cOr_1, bNot_e, cNot_1, eAnd_e, cEAnd_1, cEAnd2_1, eOr_e, cEOr_1, cEOr2_1, eNot_e, cENot_1, cENot2_1, eIf_e, cEIf_1, eChain_e, cCh_1, cCh1_1, cCh2_1, cCh3_1, eTup_e, cTup_1, oLst_e, cLst_1, eFz_e, cFz_1, ePtr_e, cPtr_1, oLc_e, cLc_1, eSh_e, itF_1, itF_2, itF_3, addF_1, addF_2, addF_3, intF_1, subF_1, modF_1, fdvF_1, powF_1, mulF_1, mulF_2, negF_1, ltF_1, leF_1, gtF_1, geF_1, atE_1, ixF_1, ixF_2, ixF_3, pxE_1, ixF_4, plE_1, lenF_4, eMt_e, cMt_1, eCut_e, cCut_1, cCut2_1, qNone_e, qSome_e, toI_1, cutF_1, cutF_2, cutF_3, cutF_4, eCallK_e, cK_1, cK2_1, eDic0_e, oCat_e, cCat_1, cCat2_1, cCat3_1, lsT_1, lsT_2, rcv_p, apE_1, appF_1, stL_app, set_app, stL_0, stL_k, stL_c, stL_s, set_0, set_k, shE_1, shF_1, lenF_1, lenF_2, lenF_3, absF_1, intOfF_1, intOfF_2, rng1F_1, rng2F_1, Ar_e, mkD_e, fin_1, fin_2, fin_3, few_e, tupOfF_1, tupOfF_2, tupOfF_3, lstOfF_1, lstOfF_2, lstOfF_3, isF_1, gStar_1, cIf_1, Option.isSome_some, List.length_map, List.length_append, List.append_assoc, Nat.add_assoc, slots, wpD, List.map_cons, List.map_nil, List.cons_append, List.nil_append, List.length_cons, List.length_nil, List.replicate, List.set_cons_succ, List.set_cons_zero, List.getElem?_cons_zero, List.getElem?_cons_succ, if_true, if_false, ite_true, ite_false, reduceIte, Nat.reduceAdd, Nat.reduceSub, Nat.reduceLeDiff, Nat.zero_add, Nat.sub_zero, Nat.sub_self, Bool.not_true, Bool.not_false, Bool.false_eq_true, decide_true, decide_false, Bool.true_and, Bool.and_true, Bool.or_true, Bool.true_or, Bool.false_and, Bool.and_false, Bool.or_false, Bool.false_or, decide_eq_true_eq, id_eq, Int.reduceLT, Int.reduceLE, Int.reduceNeg, Int.reduceAdd, Int.reduceSub, Int.reduceMul, Int.reduceMod, Int.reduceDiv, Int.reducePow, Int.reduceToNat, and_self, true_and, and_true, gStar_1, eqF_int, isiF_tup, isiF_lst, isiF_int, isiF_str, isiF_bl, at_0, gSet_e, seO_1, seI_1, lenF_5, addF_4, sxE_1, ixF_5, itF_4, max2F_e, min2F_e, eM1_c, cM1_1, oM1_c, cN1_1, intAnyF_b, intAnyF_s, strOfF_1, eqF_str, eqH_int, eqH_str, dvmF_1, gTwo_1, eIf_e, d__law_spoilt, b__law_spoilt, e1, e2, e3, f0, f1, ge, eqH_int, c0, c1, q1, q2, q3]
    · by_cases c2 : (r3 == 2) = true
      · refine ⟨cutS t none (some r2) ++ ⟨#[g]⟩ ++ cutS t (some (r2 + 1)) none, S3, ?_, Tx.app (Tx.app (ht.cut none (some r2)) (Tx.one gs)) (ht.cut (some (r2 + 1)) none), B3⟩
        simp (config := { decide := true }) only [bd_1, bd_2, bs_1, bs_2, sq_1, sq_2, sq_3, sq_4, sq_5, vr_1, ga_1, lcE_1, sSeq_e, sAsg_e, cAsg_1, sRet_e, cRt_1, sDrop_e, cDr_1, sIf_e, cIf_t, cIf_f, sSkip_e, sBrk_e, sCnt_e, sPar_e, cPar_1, cPar2_1, sFor_e, cFor_1, gVar_e, eVar_e, eC_e, eOp_e, cOp_1, eUn_e, aNil_e, aCons_e, cA_1, cA2_1, eCall_e, oCall_e, iCall_e, iVal_e, toB_1, bVal_e, bAnd_e, cAnd_1, bOr_e, cOr_1, bNot_e, cNot_1, eAnd_e, cEAnd_1, cEAnd2_1, eOr_e, cEOr_1, cEOr2_1, eNot_e, cENot_1, cENot2_1, eIf_e, cEIf_1, eChain_e, cCh_1, cCh1_1, cCh2_1, cCh3_1, eTup_e, cTup_1, oLst_e, cLst_1, eFz_e, cFz_1, ePtr_e, cPtr_1, oLc_e, cLc_1, eSh_e, itF_1, itF_2, itF_3, addF_1, addF_2, addF_3, intF_1, subF_1, modF_1, fdvF_1, powF_1, mulF_1, mulF_2, negF_1, ltF_1, leF_1, gtF_1, geF_1, atE_1, ixF_1, ixF_2, ixF_3, pxE_1, ixF_4, plE_1, lenF_4, eMt_e, cMt_1, eCut_e, cCut_1, cCut2_1, qNone_e, qSome_e, toI_1, cutF_1, cutF_2, cutF_3, cutF_4, eCallK_e, cK_1, cK2_1, eDic0_e, oCat_e, cCat_1, cCat2_1, cCat3_1, lsT_1, lsT_2, rcv_p, apE_1, appF_1, stL_app, set_app, stL_0, stL_k, stL_c, stL_s, set_0, set_k, shE_1, shF_1, lenF_1, lenF_2, lenF_3, absF_1, intOfF_1, intOfF_2, rng1F_1, rng2F_1, Ar_e, mkD_e, fin_1, fin_2, fin_3, few_e, tupOfF_1, tupOfF_2, tupOfF_3, lstOfF_1, lstOfF_2, lstOfF_3, isF_1, gStar_1, cIf_1, Option.isSome_some, List.length_map, List.length_append, List.append_assoc, Nat.add_assoc, slots, wpD, List.map_cons, List.map_nil, List.cons_append, List.nil_append, List.length_cons, List.length_nil, List.replicate, List.set_cons_succ, List.set_cons_zero, List.getElem?_cons_zero, List.getElem?_cons_succ, if_true, if_false, ite_true, ite_false, reduceIte, Nat.reduceAdd, Nat.reduceSub, Nat.reduceLeDiff, Nat.zero_add, Nat.sub_zero, Nat.sub_self, Bool.not_true, Bool.not_false, Bool.false_eq_true, decide_true, decide_false, Bool.true_and, Bool.and_true, Bool.or_true, Bool.true_or, Bool.false_and, Bool.and_false, Bool.or_false, Bool.false_or, decide_eq_true_eq, id_eq, Int.reduceLT, Int.reduceLE, Int.reduceNeg, Int.reduceAdd, Int.reduceSub, Int.reduceMul, Int.reduceMod, Int.reduceDiv, Int.reducePow, Int.reduceToNat, and_self, true_and, and_true, gStar_1, eqF_int, isiF_tup, isiF_lst, isiF_int, isiF_str, isiF_bl, at_0, gSet_e, seO_1, seI_1, lenF_5, addF_4, sxE_1, ixF_5, itF_4, max2F_e, min2F_e, eM1_c, cM1_1, oM1_c, cN1_1, intAnyF_b, intAnyF_s, strOfF_1, eqF_str, eqH_int, eqH_str, dvmF_1, gTwo_1, eIf_e, d__law_spoilt, b__law_spoilt, e1, e2, e3, f0, f1, ge, eqH_int, c0, c1, c2, q1, q2, q3]
      · refine ⟨t, S3, ?_, ht.mono (by omega), B3⟩
        simp (config := { decide := true }) only [bd_1, bd_2, bs_1, bs_2, sq_1, sq_2, sq_3, sq_4, sq_5, vr_1, ga_1, lcE_1, sSeq_e, sAsg_e, cAsg_1, sRet_e, cRt_1, sDrop_e, cDr_1, sIf_e, cIf_t, cIf_f, sSkip_e, sBrk_e, sCnt_e, sPar_e, cPar_1, cPar2_1, sFor_e, cFor_1, gVar_e, eVar_e, eC_e, eOp_e, cOp_1, eUn_e, aNil_e, aCons_e, cA_1, cA2_1, eCall_e, oCall_e, iCall_e, iVal_e, toB_1, bVal_e, bAnd_e, cAnd_1, bOr_e, cOr_1, bNot_e, cNot_1, eAnd_e, cEAnd_1, cEAnd2_1, eOr_e, cEOr_1, cEOr2_1, eNot_e, cENot_1, cENot2_1, eIf_e, cEIf_1, eChain_e, cCh_1, cCh1_1, cCh2_1, cCh3_1, eTup_e, cTup_1, oLst_e, cLst_1, eFz_e, cFz_1, ePtr_e, cPtr_1, oLc_e, cLc_1, eSh_e, itF_1, itF_2, itF_3, addF_1, addF_2, addF_3, intF_1, subF_1, modF_1, fdvF_1, powF_1, mulF_1, mulF_2, negF_1, ltF_1, leF_1, gtF_1, geF_1, atE_1, ixF_1, ixF_2, ixF_3, pxE_1, ixF_4, plE_1, lenF_4, eMt_e, cMt_1, eCut_e, cCut_1, cCut2_1, qNone_e, qSome_e, toI_1, cutF_1, cutF_2, cutF_3, cutF_4, eCallK_e, cK_1, cK2_1, eDic0_e, oCat_e, cCat_1, cCat2_1, cCat3_1, lsT_1, lsT_2, rcv_p, apE_1, appF_1, stL_app, set_app, stL_0, stL_k, stL_c, stL_s, set_0, set_k, shE_1, shF_1, lenF_1, lenF_2, lenF_3, absF_1, intOfF_1, intOfF_2, rng1F_1, rng2F_1, Ar_e, mkD_e, fin_1, fin_2, fin_3, few_e, tupOfF_1, tupOfF_2, tupOfF_3, lstOfF_1, lstOfF_2, lstOfF_3, isF_1, gStar_1, cIf_1, Option.isSome_some, List.length_map, List.length_append, List.append_assoc, Nat.add_assoc, slots, wpD, List.map_cons, List.map_nil, List.cons_append, List.nil_append, List.length_cons, List.length_nil, List.replicate, List.set_cons_succ, List.set_cons_zero, List.getElem?_cons_zero, List.getElem?_cons_succ, if_true, if_false, ite_true, ite_false, reduceIte, Nat.reduceAdd, Nat.reduceSub, Nat.reduceLeDiff, Nat.zero_add, Nat.sub_zero, Nat.sub_self, Bool.not_true, Bool.not_false, Bool.false_eq_true, decide_true, decide_false, Bool.true_and, Bool.and_true, Bool.or_true, Bool.true_or, Bool.false_and, Bool.and_false, Bool.or_false, Bool.false_or, decide_eq_true_eq, id_eq, Int.reduceLT, Int.reduceLE, Int.reduceNeg, Int.reduceAdd, Int.reduceSub, Int.reduceMul, Int.reduceMod, Int.reduceDiv, Int.reducePow, Int.reduceToNat, and_self, true_and, and_true, gStar_1, eqF_int, isiF_tup, isiF_lst, isiF_int, isiF_str, isiF_bl, at_0, gSet_e, seO_1, seI_1, lenF_5, addF_4, sxE_1, ixF_5, itF_4, max2F_e, min2F_e, eM1_c, cM1_1, oM1_c, cN1_1, intAnyF_b, intAnyF_s, strOfF_1, eqF_str, eqH_int, eqH_str, dvmF_1, gTwo_1, eIf_e, d__law_spoilt, b__law_spoilt, e1, e2, e3, f0, f1, ge, eqH_int, c0, c1, c2, q1, q2, q3]
theorem joinL_len : ∀ (s : List Nat) (ps : List (List Nat)) (k : Nat), (∀ p ∈ ps, p.length ≤ k) → (joinL s ps).length ≤ ps.length * (k + s.length)
  | s, [], k, _ => Nat.zero_le _
  | s, [p], k, h => by
    have := h p (List.mem_singleton.mpr rfl)
    simp only [joinL, List.length_singleton]
    omega
  | s, p :: q :: r, k, h => by
    have ih := joinL_len s (q :: r) k fun x hx => h x (List.mem_cons_of_mem _ hx)
    have := h p (List.mem_cons_self ..)
    simp only [joinL, List.length_append, List.length_cons] at ih ⊢
    rw [Nat.succ_mul]
    omega
theorem joinL_mem : ∀ (s : List Nat) (ps : List (List Nat)) (c : Nat), c ∈ joinL s ps → c ∈ s ∨ ∃ p ∈ ps, c ∈ p
  | s, [], c, h => by simp [joinL] at h
  | s, [p], c, h => .inr ⟨p, List.mem_singleton.mpr rfl, h⟩
  | s, p :: q :: r, c, h => by
    simp only [joinL] at h
    rcases List.mem_append.mp h with h | h
    · exact .inr ⟨p, List.mem_cons_self .., h⟩
    · rcases List.mem_append.mp h with h | h
      · exact .inl h
      · rcases joinL_mem s (q :: r) c h with z | ⟨x, hx, hc⟩
        · exact .inl z
        · exact .inr ⟨x, List.mem_cons_of_mem _ hx, hc⟩
theorem join_tx {y : Str} {ws : List Str} {k : Nat} (hy : Tx 1 y) (hw : ∀ w ∈ ws, Tx k w) : Tx (ws.length * (k + 1)) (Txt.join y ws) := by
  rw [join_eq]
  refine ⟨?_, fun c hc => ?_⟩
  · rw [len_tl, tl_join]
    refine Nat.le_trans (joinL_len (tl y) (ws.map tl) k fun p hp => ?_) ?_
    · obtain ⟨w, h, rfl⟩ := List.mem_map.mp hp
      rw [← len_tl]
      exact (hw w h).1
    · rw [List.length_map]
      refine Nat.mul_le_mul_left _ ?_
      have := hy.1
      rw [len_tl] at this
      omega
  · rw [tl_join] at hc
    rcases joinL_mem _ _ _ hc with h | ⟨p, hp, h⟩
    · exact hy.2 c h
    · obtain ⟨w, hw2, rfl⟩ := List.mem_map.mp hp
      exact (hw w hw2).2 c h
theorem strDs_map : ∀ zs : List Str, strDs (zs.map D.str) = some zs
  | [] => rfl
  | z :: zs => by simp only [List.map_cons, strDs, strDs_map zs]
theorem join_ok {y : Str} {ws : List Str} {k : Nat} {S : ST} (hy : Tx 1 y) (hw : ∀ w ∈ ws, Tx k w) (hl : ws.length ≤ 100) (hk : k ≤ 100) : joinF (.str y) (.lst (ws.map D.str)) S = some (.ok (.str (Txt.join y ws)), S) := by
  have e : sqS S (.lst (ws.map D.str)) = some (ws.map D.str) := rfl
  have b : ∀ zs : List Str, (∀ w ∈ zs, Tx k w) → (zs.map (·.length)).sum ≤ zs.length * k := by
    intro zs
    induction zs with
    | nil => intro _; simp
    | cons z zs ih =>
      intro h
      have h1 := (h z (List.mem_cons_self ..)).1
      have h2 := ih fun w hw => h w (List.mem_cons_of_mem _ hw)
      simp only [List.map_cons, List.sum_cons, List.length_cons, Nat.succ_mul]
      omega
  have b1 := b ws hw
  have b2 : ws.length * k ≤ 100 * 100 := Nat.mul_le_mul hl hk
  have b3 : ws.length * y.length ≤ 100 * 1 := Nat.mul_le_mul hl hy.1
  unfold joinF
  simp only [e, strDs_map]
  rw [if_pos (decide_eq_true (by omega))]
theorem strs_of : ∀ {k : Nat} (xs : List D), (∀ x ∈ xs, ∃ w, x = .str w ∧ Tx k w) → ∃ ws : List Str, xs = ws.map D.str ∧ ∀ w ∈ ws, Tx k w
  | _, [], _ => ⟨[], rfl, by simp⟩
  | k, x :: xs, h => by
    obtain ⟨w, rfl, hw⟩ := h x (List.mem_cons_self ..)
    obtain ⟨ws, rfl, hws⟩ := strs_of xs fun y hy => h y (List.mem_cons_of_mem _ hy)
    refine ⟨w :: ws, rfl, fun z hz => ?_⟩
    rcases List.mem_cons.mp hz with rfl | hz
    · exact hw
    · exact hws z hz

/-! kinds of things -/
abbrev XS : List Str := ["NoList", "NoState"]
def Et : D → Bool
  | .non => true | .bl _ => true | .int _ => true | .str _ => true | .tup _ => true | .lst _ => true | .dic _ => true
  | .exc c _ _ => decide (c ∈ XS)
  | _ => false
def isI : D → Bool
  | .int _ => true
  | _ => false
def inB (lo hi : Int) : D → Bool
  | .int i => decide (lo ≤ i) && decide (i ≤ hi)
  | _ => false
theorem isx_exc {cs : List String} {c t : Str} {fs : List (Str × D)} {S : ST} (h : decide (c ∈ XS) = true) : isiX ["NoList", "NoState"] cs (.exc c t fs) S = some (.ok (.bl false), S) := if_pos (of_decide_eq_true h)
theorem isx_non {cs : List String} {S : ST} : isiX ["NoList", "NoState"] cs .non S = some (.ok (.bl (cs.any (isaB "NoneType"))), S) := rfl
theorem isx_bl {cs : List String} {S : ST} {b : Bool} : isiX ["NoList", "NoState"] cs (.bl b) S = some (.ok (.bl (cs.any (isaB "bool"))), S) := rfl
theorem isx_int {cs : List String} {S : ST} {b : Int} : isiX ["NoList", "NoState"] cs (.int b) S = some (.ok (.bl (cs.any (isaB "int"))), S) := rfl
theorem isx_str {cs : List String} {S : ST} {b : Str} : isiX ["NoList", "NoState"] cs (.str b) S = some (.ok (.bl (cs.any (isaB "str"))), S) := rfl
theorem isx_tup {cs : List String} {S : ST} {b : List D} : isiX ["NoList", "NoState"] cs (.tup b) S = some (.ok (.bl (cs.any (isaB "tuple"))), S) := rfl
theorem isx_lst {cs : List String} {S : ST} {b : List D} : isiX ["NoList", "NoState"] cs (.lst b) S = some (.ok (.bl (cs.any (isaB "list"))), S) := rfl
theorem isx_dic {cs : List String} {S : ST} {b : List (Key × D)} : isiX ["NoList", "NoState"] cs (.dic b) S = some (.ok (.bl (cs.any (isaB "dict"))), S) := rfl
theorem whole_ok {d : D} (h : Et d = true) (S : ST) : d__law_whole [d] S = some (.ok (.bl (isI d)), S) := by
  cases d with
  | non => simp (config := { decide := true }) only [bd_1, bd_2, bs_1, bs_2, sq_1, sq_2, sq_3, sq_4, sq_5, vr_1, ga_1, lcE_1, sSeq_e, sAsg_e, cAsg_1, sRet_e, cRt_1, sDrop_e, cDr_1, sIf_e, cIf_t, cIf_f, sSkip_e, sBrk_e, sCnt_e, sPar_e, cPar_1, cPar2_1, sFor_e, cFor_1, gVar_e, eVar_e, eC_e, eOp_e, cOp_1, eUn_e, aNil_e, aCons_e, cA_1, cA2_1, eCall_e, oCall_e, iCall_e, iVal_e, toB_1, bVal_e, bAnd_e, cAnd_1, bOr_e, cOr_1, bNot_e, cNot_1, eAnd_e, cEAnd_1, cEAnd2_1, eOr_e, cEOr_1, cEOr2_1, eNot_e, cENot_1, cENot2_1, eIf_e, cEIf_1, eChain_e, cCh_1, cCh1_1, cCh2_1, cCh3_1, eTup_e, cTup_1, oLst_e, cLst_1, eFz_e, cFz_1, ePtr_e, cPtr_1, oLc_e, cLc_1, eSh_e, itF_1, itF_2, itF_3, addF_1, addF_2, addF_3, intF_1, subF_1, modF_1, fdvF_1, powF_1, mulF_1, mulF_2, negF_1, ltF_1, leF_1, gtF_1, geF_1, atE_1, ixF_1, ixF_2, ixF_3, pxE_1, ixF_4, plE_1, lenF_4, eMt_e, cMt_1, eCut_e, cCut_1, cCut2_1, qNone_e, qSome_e, toI_1, cutF_1, cutF_2, cutF_3, cutF_4, eCallK_e, cK_1, cK2_1, eDic0_e, oCat_e, cCat_1, cCat2_1, cCat3_1, lsT_1, lsT_2, rcv_p, apE_1, appF_1, stL_app, set_app, stL_0, stL_k, stL_c, stL_s, set_0, set_k, shE_1, shF_1, lenF_1, lenF_2, lenF_3, absF_1, intOfF_1, intOfF_2, rng1F_1, rng2F_1, Ar_e, mkD_e, fin_1, fin_2, fin_3, few_e, tupOfF_1, tupOfF_2, tupOfF_3, lstOfF_1, lstOfF_2, lstOfF_3, isF_1, gStar_1, cIf_1, Option.isSome_some, List.length_map, List.length_append, List.append_assoc, Nat.add_assoc, slots, wpD, List.map_cons, List.map_nil, List.cons_append, List.nil_append, List.length_cons, List.length_nil, List.replicate, List.set_cons_succ, List.set_cons_zero, List.getElem?_cons_zero, List.getElem?_cons_succ, if_true, if_false, ite_true, ite_false, reduceIte, Nat.reduceAdd, Nat.reduceSub, Nat.reduceLeDiff, Nat.zero_add, Nat.sub_zero, Nat.sub_self, Bool.not_true, Bool.not_false, Bool.false_eq_true, decide_true, decide_false, Bool.true_and, Bool.and_true, Bool.or_true, Bool.true_or, Bool.false_and, Bool.and_false, Bool.or_false, Bool.false_or, decide_eq_true_eq, id_eq, Int.reduceLT, Int.reduceLE, Int.reduceNeg, Int.reduceAdd, Int.reduceSub, Int.reduceMul, Int.reduceMod, Int.reduceDiv, Int.reducePow, Int.reduceToNat, and_self, true_and, and_true, gStar_1, eqF_int, isiF_tup, isiF_lst, isiF_int, isiF_str, isiF_bl, at_0, gSet_e, seO_1, seI_1, lenF_5, addF_4, sxE_1, ixF_5, itF_4, max2F_e, min2F_e, eM1_c, cM1_1, oM1_c, cN1_1, intAnyF_b, intAnyF_s, strOfF_1, eqF_str, eqH_int, eqH_str, dvmF_1, gTwo_1, eIf_e, d__law_whole, b__law_whole, isx_non, isI, isaB]; try rfl
  | bl b => simp (config := { decide := true }) only [bd_1, bd_2, bs_1, bs_2, sq_1, sq_2, sq_3, sq_4, sq_5, vr_1, ga_1, lcE_1, sSeq_e, sAsg_e, cAsg_1, sRet_e, cRt_1, sDrop_e, cDr_1, sIf_e, cIf_t, cIf_f, sSkip_e, sBrk_e, sCnt_e, sPar_e, cPar_1, cPar2_1, sFor_e, cFor_1, gVar_e, eVar_e, eC_e, eOp_e, cOp_1, eUn_e, aNil_e, aCons_e, cA_1, cA2_1, eCall_e, oCall_e, iCall_e, iVal_e, toB_1, bVal_e, bAnd_e, cAnd_1, bOr_e, cOr_1, bNot_e, cNot_1, eAnd_e, cEAnd_1, cEAnd2_1, eOr_e, cEOr_1, cEOr2_1, eNot_e, cENot_1, cENot2_1, eIf_e, cEIf_1, eChain_e, cCh_1, cCh1_1, cCh2_1, cCh3_1, eTup_e, cTup_1, oLst_e, cLst_1, eFz_e, cFz_1, ePtr_e, cPtr_1, oLc_e, cLc_1, eSh_e, itF_1, itF_2, itF_3, addF_1, addF_2, addF_3, intF_1, subF_1, modF_1, fdvF_1, powF_1, mulF_1, mulF_2, negF_1, ltF_1, leF_1, gtF_1, geF_1, atE_1, ixF_1, ixF_2, ixF_3, pxE_1, ixF_4, plE_1, lenF_4, eMt_e, cMt_1, eCut_e, cCut_1, cCut2_1, qNone_e, qSome_e, toI_1, cutF_1, cutF_2, cutF_3, cutF_4, eCallK_e, cK_1, cK2_1, eDic0_e, oCat_e, cCat_1, cCat2_1, cCat3_1, lsT_1, lsT_2, rcv_p, apE_1, appF_1, stL_app, set_app, stL_0, stL_k, stL_c, stL_s, set_0, set_k, shE_1, shF_1, lenF_1, lenF_2, lenF_3, absF_1, intOfF_1, intOfF_2, rng1F_1, rng2F_1, Ar_e, mkD_e, fin_1, fin_2, fin_3, few_e, tupOfF_1, tupOfF_2, tupOfF_3, lstOfF_1, lstOfF_2, lstOfF_3, isF_1, gStar_1, cIf_1, Option.isSome_some, List.length_map, List.length_append, List.append_assoc, Nat.add_assoc, slots, wpD, List.map_cons, List.map_nil, List.cons_append, List.nil_append, List.length_cons, List.length_nil, List.replicate, List.set_cons_succ, List.set_cons_zero, List.getElem?_cons_zero, List.getElem?_cons_succ, if_true, if_false, ite_true, ite_false, reduceIte, Nat.reduceAdd, Nat.reduceSub, Nat.reduceLeDiff, Nat.zero_add, Nat.sub_zero, Nat.sub_self, Bool.not_true, Bool.not_false, Bool.false_eq_true, decide_true, decide_false, Bool.true_and, Bool.and_true, Bool.or_true, Bool.true_or, Bool.false_and, Bool.and_false, Bool.or_false, Bool.false_or, decide_eq_true_eq, id_eq, Int.reduceLT, Int.reduceLE, Int.reduceNeg, Int.reduceAdd, Int.reduceSub, Int.reduceMul, Int.reduceMod, Int.reduceDiv, Int.reducePow, Int.reduceToNat, and_self, true_and, and_true, gStar_1, eqF_int, isiF_tup, isiF_lst, isiF_int, isiF_str, isiF_bl, at_0, gSet_e, seO_1, seI_1, lenF_5, addF_4, sxE_1, ixF_5, itF_4, max2F_e, min2F_e, eM1_c, cM1_1, oM1_c, cN1_1, intAnyF_b, intAnyF_s, strOfF_1, eqF_str, eqH_int, eqH_str, dvmF_1, gTwo_1, eIf_e, d__law_whole, b__law_whole, isx_bl, isI, isaB]; try rfl
  | int b => simp (config := { decide := true }) only [bd_1, bd_2, bs_1, bs_2, sq_1, sq_2, sq_3, sq_4, sq_5, vr_1, ga_1, lcE_1, sSeq_e, sAsg_e, cAsg_1, sRet_e, cRt_1, sDrop_e, cDr_1, sIf_e, cIf_t, cIf_f, sSkip_e, sBrk_e, sCnt_e, sPar_e, cPar_1, cPar2_1, sFor_e, cFor_1, gVar_e, eVar_e, eC_e, eOp_e, cOp_1, eUn_e, aNil_e, aCons_e, cA_1, cA2_1, eCall_e, oCall_e, iCall_e, iVal_e, toB_1, bVal_e, bAnd_e, cAnd_1, bOr_e, cOr_1, bNot_e, cNot_1, eAnd_e, cEAnd_1, cEAnd2_1, eOr_e, cEOr_1, cEOr2_1, eNot_e, cENot_1, cENot2_1, eIf_e, cEIf_1, eChain_e, cCh_1, cCh1_1, cCh2_1, cCh3_1, eTup_e, cTup_1, oLst_e, cLst_1, eFz_e, cFz_1, ePtr_e, cPtr_1, oLc_e, cLc_1, eSh_e, itF_1, itF_2, itF_3, addF_1, addF_2, addF_3, intF_1, subF_1, modF_1, fdvF_1, powF_1, mulF_1, mulF_2, negF_1, ltF_1, leF_1, gtF_1, geF_1, atE_1, ixF_1, ixF_2, ixF_3, pxE_1, ixF_4, plE_1, lenF_4, eMt_e, cMt_1, eCut_e, cCut_1, cCut2_1, qNone_e, qSome_e, toI_1, cutF_1, cutF_2, cutF_3, cutF_4, eCallK_e, cK_1, cK2_1, eDic0_e, oCat_e, cCat_1, cCat2_1, cCat3_1, lsT_1, lsT_2, rcv_p, apE_1, appF_1, stL_app, set_app, stL_0, stL_k, stL_c, stL_s, set_0, set_k, shE_1, shF_1, lenF_1, lenF_2, lenF_3, absF_1, intOfF_1, intOfF_2, rng1F_1, rng2F_1, Ar_e, mkD_e, fin_1, fin_2, fin_3, few_e, tupOfF_1, tupOfF_2, tupOfF_3, lstOfF_1, lstOfF_2, lstOfF_3, isF_1, gStar_1, cIf_1, Option.isSome_some, List.length_map, List.length_append, List.append_assoc, Nat.add_assoc, slots, wpD, List.map_cons, List.map_nil, List.cons_append, List.nil_append, List.length_cons, List.length_nil, List.replicate, List.set_cons_succ, List.set_cons_zero, List.getElem?_cons_zero, List.getElem?_cons_succ, if_true, if_false, ite_true, ite_false, reduceIte, Nat.reduceAdd, Nat.reduceSub, Nat.reduceLeDiff, Nat.zero_add, Nat.sub_zero, Nat.sub_self, Bool.not_true, Bool.not_false, Bool.false_eq_true, decide_true, decide_false, Bool.true_and, Bool.and_true, Bool.or_true, Bool.true_or, Bool.false_and, Bool.and_false, Bool.or_false, Bool.false_or, decide_eq_true_eq, id_eq, Int.reduceLT, Int.reduceLE, Int.reduceNeg, Int.reduceAdd, Int.reduceSub, Int.reduceMul, Int.reduceMod, Int.reduceDiv, Int.reducePow, Int.reduceToNat, and_self, true_and, and_true, gStar_1, eqF_int, isiF_tup, isiF_lst, isiF_int, isiF_str, isiF_bl, at_0, gSet_e, seO_1, seI_1, lenF_5, addF_4, sxE_1, ixF_5, itF_4, max2F_e, min2F_e, eM1_c, cM1_1, oM1_c, cN1_1, intAnyF_b, intAnyF_s, strOfF_1, eqF_str, eqH_int, eqH_str, dvmF_1, gTwo_1, eIf_e, d__law_whole, b__law_whole, isx_int, isI, isaB]; try rfl
  | str b => simp (config := { decide := true }) only [bd_1, bd_2, bs_1, bs_2, sq_1, sq_2, sq_3, sq_4, sq_5, vr_1, ga_1, lcE_1, sSeq_e, sAsg_e, cAsg_1, sRet_e, cRt_1, sDrop_e, cDr_1, sIf_e, cIf_t, cIf_f, sSkip_e, sBrk_e, sCnt_e, sPar_e, cPar_1, cPar2_1, sFor_e, cFor_1, gVar_e, eVar_e, eC_e, eOp_e, cOp_1, eUn_e, aNil_e, aCons_e, cA_1, cA2_1, eCall_e, oCall_e, iCall_e, iVal_e, toB_1, bVal_e, bAnd_e, cAnd_1, bOr_e, cOr_1, bNot_e, cNot_1, eAnd_e, cEAnd_1, cEAnd2_1, eOr_e, cEOr_1, cEOr2_1, eNot_e, cENot_1, cENot2_1, eIf_e, cEIf_1, eChain_e, cCh_1, cCh1_1, cCh2_1, cCh3_1, eTup_e, cTup_1, oLst_e, cLst_1, eFz_e, cFz_1, ePtr_e, cPtr_1, oLc_e, cLc_1, eSh_e, itF_1, itF_2, itF_3, addF_1, addF_2, addF_3, intF_1, subF_1, modF_1, fdvF_1, powF_1, mulF_1, mulF_2, negF_1, ltF_1, leF_1, gtF_1, geF_1, atE_1, ixF_1, ixF_2, ixF_3, pxE_1, ixF_4, plE_1, lenF_4, eMt_e, cMt_1, eCut_e, cCut_1, cCut2_1, qNone_e, qSome_e, toI_1, cutF_1, cutF_2, cutF_3, cutF_4, eCallK_e, cK_1, cK2_1, eDic0_e, oCat_e, cCat_1, cCat2_1, cCat3_1, lsT_1, lsT_2, rcv_p, apE_1, appF_1, stL_app, set_app, stL_0, stL_k, stL_c, stL_s, set_0, set_k, shE_1, shF_1, lenF_1, lenF_2, lenF_3, absF_1, intOfF_1, intOfF_2, rng1F_1, rng2F_1, Ar_e, mkD_e, fin_1, fin_2, fin_3, few_e, tupOfF_1, tupOfF_2, tupOfF_3, lstOfF_1, lstOfF_2, lstOfF_3, isF_1, gStar_1, cIf_1, Option.isSome_some, List.length_map, List.length_append, List.append_assoc, Nat.add_assoc, slots, wpD, List.map_cons, List.map_nil, List.cons_append, List.nil_append, List.length_cons, List.length_nil, List.replicate, List.set_cons_succ, List.set_cons_zero, List.getElem?_cons_zero, List.getElem?_cons_succ, if_true, if_false, ite_true, ite_false, reduceIte, Nat.reduceAdd, Nat.reduceSub, Nat.reduceLeDiff, Nat.zero_add, Nat.sub_zero, Nat.sub_self, Bool.not_true, Bool.not_false, Bool.false_eq_true, decide_true, decide_false, Bool.true_and, Bool.and_true, Bool.or_true, Bool.true_or, Bool.false_and, Bool.and_false, Bool.or_false, Bool.false_or, decide_eq_true_eq, id_eq, Int.reduceLT, Int.reduceLE, Int.reduceNeg, Int.reduceAdd, Int.reduceSub, Int.reduceMul, Int.reduceMod, Int.reduceDiv, Int.reducePow, Int.reduceToNat, and_self, true_and, and_true, gStar_1, eqF_int, isiF_tup, isiF_lst, isiF_int, isiF_str, isiF_bl, at_0, gSet_e, seO_1, seI_1, lenF_5, addF_4, sxE_1, ixF_5, itF_4, max2F_e, min2F_e, eM1_c, cM1_1, oM1_c, cN1_1, intAnyF_b, intAnyF_s, strOfF_1, eqF_str, eqH_int, eqH_str, dvmF_1, gTwo_1, eIf_e, d__law_whole, b__law_whole, isx_str, isI, isaB]; try rfl
  | tup b => simp (config := { decide := true }) only [bd_1, bd_2, bs_1, bs_2, sq_1, sq_2, sq_3, sq_4, sq_5, vr_1, ga_1, lcE_1, sSeq_e, sAsg_e, cAsg_1, sRet_e, cRt_1, sDrop_e, cDr_1, sIf_e, cIf_t, cIf_f, sSkip_e, sBrk_e, sCnt_e, sPar_e, cPar_1, cPar2_1, sFor_e, cFor_1, gVar_e, eVar_e, eC_e, eOp_e, cOp_1, eUn_e, aNil_e, aCons_e, cA_1, cA2_1, eCall_e, oCall_e, iCall_e, iVal_e, toB_1, bVal_e, bAnd_e, cAnd_1, bOr_e, cOr_1, bNot_e, cNot_1, eAnd_e, cEAnd_1, cEAnd2_1, eOr_e, cEOr_1, cEOr2_1, eNot_e, cENot_1, cENot2_1, eIf_e, cEIf_1, eChain_e, cCh_1, cCh1_1, cCh2_1, cCh3_1, eTup_e, cTup_1, oLst_e, cLst_1, eFz_e, cFz_1, ePtr_e, cPtr_1, oLc_e, cLc_1, eSh_e, itF_1, itF_2, itF_3, addF_1, addF_2, addF_3, intF_1, subF_1, modF_1, fdvF_1, powF_1, mulF_1, mulF_2, negF_1, ltF_1, leF_1, gtF_1, geF_1, atE_1, ixF_1, ixF_2, ixF_3, pxE_1, ixF_4, plE_1, lenF_4, eMt_e, cMt_1, eCut_e, cCut_1, cCut2_1, qNone_e, qSome_e, toI_1, cutF_1, cutF_2, cutF_3, cutF_4, eCallK_e, cK_1, cK2_1, eDic0_e, oCat_e, cCat_1, cCat2_1, cCat3_1, lsT_1, lsT_2, rcv_p, apE_1, appF_1, stL_app, set_app, stL_0, stL_k, stL_c, stL_s, set_0, set_k, shE_1, shF_1, lenF_1, lenF_2, lenF_3, absF_1, intOfF_1, intOfF_2, rng1F_1, rng2F_1, Ar_e, mkD_e, fin_1, fin_2, fin_3, few_e, tupOfF_1, tupOfF_2, tupOfF_3, lstOfF_1, lstOfF_2, lstOfF_3, isF_1, gStar_1, cIf_1, Option.isSome_some, List.length_map, List.length_append, List.append_assoc, Nat.add_assoc, slots, wpD, List.map_cons, List.map_nil, List.cons_append, List.nil_append, List.length_cons, List.length_nil, List.replicate, List.set_cons_succ, List.set_cons_zero, List.getElem?_cons_zero, List.getElem?_cons_succ, if_true, if_false, ite_true, ite_false, reduceIte, Nat.reduceAdd, Nat.reduceSub, Nat.reduceLeDiff, Nat.zero_add, Nat.sub_zero, Nat.sub_self, Bool.not_true, Bool.not_false, Bool.false_eq_true, decide_true, decide_false, Bool.true_and, Bool.and_true, Bool.or_true, Bool.true_or, Bool.false_and, Bool.and_false, Bool.or_false, Bool.false_or, decide_eq_true_eq, id_eq, Int.reduceLT, Int.reduceLE, Int.reduceNeg, Int.reduceAdd, Int.reduceSub, Int.reduceMul, Int.reduceMod, Int.reduceDiv, Int.reducePow, Int.reduceToNat, and_self, true_and, and_true, gStar_1, eqF_int, isiF_tup, isiF_lst, isiF_int, isiF_str, isiF_bl, at_0, gSet_e, seO_1, seI_1, lenF_5, addF_4, sxE_1, ixF_5, itF_4, max2F_e, min2F_e, eM1_c, cM1_1, oM1_c, cN1_1, intAnyF_b, intAnyF_s, strOfF_1, eqF_str, eqH_int, eqH_str, dvmF_1, gTwo_1, eIf_e, d__law_whole, b__law_whole, isx_tup, isI, isaB]; try rfl
  | lst b => simp (config := { decide := true }) only [bd_1, bd_2, bs_1, bs_2, sq_1, sq_2, sq_3, sq_4, sq_5, vr_1, ga_1, lcE_1, sSeq_e, sAsg_e, cAsg_1, sRet_e, cRt_1, sDrop_e, cDr_1, sIf_e, cIf_t, cIf_f, sSkip_e, sBrk_e, sCnt_e, sPar_e, cPar_1, cPar2_1, sFor_e, cFor_1, gVar_e, eVar_e, eC_e, eOp_e, cOp_1, eUn_e, aNil_e, aCons_e, cA_1, cA2_1, eCall_e, oCall_e, iCall_e, iVal_e, toB_1, bVal_e, bAnd_e, cAnd_1, bOr_e, cOr_1, bNot_e, cNot_1, eAnd_e, cEAnd_1, cEAnd2_1, eOr_e, cEOr_1, cEOr2_1, eNot_e, cENot_1, cENot2_1, eIf_e, cEIf_1, eChain_e, cCh_1, cCh1_1, cCh2_1, cCh3_1, eTup_e, cTup_1, oLst_e, cLst_1, eFz_e, cFz_1, ePtr_e, cPtr_1, oLc_e, cLc_1, eSh_e, itF_1, itF_2, itF_3, addF_1, addF_2, addF_3, intF_1, subF_1, modF_1, fdvF_1, powF_1, mulF_1, mulF_2, negF_1, ltF_1, leF_1, gtF_1, geF_1, atE_1, ixF_1, ixF_2, ixF_3, pxE_1, ixF_4, plE_1, lenF_4, eMt_e, cMt_1, eCut_e, cCut_1, cCut2_1, qNone_e, qSome_e, toI_1, cutF_1, cutF_2, cutF_3, cutF_4, eCallK_e, cK_1, cK2_1, eDic0_e, oCat_e, cCat_1, cCat2_1, cCat3_1, lsT_1, lsT_2, rcv_p, apE_1, appF_1, stL_app, set_app, stL_0, stL_k, stL_c, stL_s, set_0, set_k, shE_1, shF_1, lenF_1, lenF_2, lenF_3, absF_1, intOfF_1, intOfF_2, rng1F_1, rng2F_1, Ar_e, mkD_e, fin_1, fin_2, fin_3, few_e, tupOfF_1, tupOfF_2, tupOfF_3, lstOfF_1, lstOfF_2, lstOfF_3, isF_1, gStar_1, cIf_1, Option.isSome_some, List.length_map, List.length_append, List.append_assoc, Nat.add_assoc, slots, wpD, List.map_cons, List.map_nil, List.cons_append, List.nil_append, List.length_cons, List.length_nil, List.replicate, List.set_cons_succ, List.set_cons_zero, List.getElem?_cons_zero, List.getElem?_cons_succ, if_true, if_false, ite_true, ite_false, reduceIte, Nat.reduceAdd, Nat.reduceSub, Nat.reduceLeDiff, Nat.zero_add, Nat.sub_zero, Nat.sub_self, Bool.not_true, Bool.not_false, Bool.false_eq_true, decide_true, decide_false, Bool.true_and, Bool.and_true, Bool.or_true, Bool.true_or, Bool.false_and, Bool.and_false, Bool.or_false, Bool.false_or, decide_eq_true_eq, id_eq, Int.reduceLT, Int.reduceLE, Int.reduceNeg, Int.reduceAdd, Int.reduceSub, Int.reduceMul, Int.reduceMod, Int.reduceDiv, Int.reducePow, Int.reduceToNat, and_self, true_and, and_true, gStar_1, eqF_int, isiF_tup, isiF_lst, isiF_int, isiF_str, isiF_bl, at_0, gSet_e, seO_1, seI_1, lenF_5, addF_4, sxE_1, ixF_5, itF_4, max2F_e, min2F_e, eM1_c, cM1_1, oM1_c, cN1_1, intAnyF_b, intAnyF_s, strOfF_1, eqF_str, eqH_int, eqH_str, dvmF_1, gTwo_1, eIf_e, d__law_whole, b__law_whole, isx_lst, isI, isaB]; try rfl
  | dic b => simp (config := { decide := true }) only [bd_1, bd_2, bs_1, bs_2, sq_1, sq_2, sq_3, sq_4, sq_5, vr_1, ga_1, lcE_1, sSeq_e, sAsg_e, cAsg_1, sRet_e, cRt_1, sDrop_e, cDr_1, sIf_e, cIf_t, cIf_f, sSkip_e, sBrk_e, sCnt_e, sPar_e, cPar_1, cPar2_1, sFor_e, cFor_1, gVar_e, eVar_e, eC_e, eOp_e, cOp_1, eUn_e, aNil_e, aCons_e, cA_1, cA2_1, eCall_e, oCall_e, iCall_e, iVal_e, toB_1, bVal_e, bAnd_e, cAnd_1, bOr_e, cOr_1, bNot_e, cNot_1, eAnd_e, cEAnd_1, cEAnd2_1, eOr_e, cEOr_1, cEOr2_1, eNot_e, cENot_1, cENot2_1, eIf_e, cEIf_1, eChain_e, cCh_1, cCh1_1, cCh2_1, cCh3_1, eTup_e, cTup_1, oLst_e, cLst_1, eFz_e, cFz_1, ePtr_e, cPtr_1, oLc_e, cLc_1, eSh_e, itF_1, itF_2, itF_3, addF_1, addF_2, addF_3, intF_1, subF_1, modF_1, fdvF_1, powF_1, mulF_1, mulF_2, negF_1, ltF_1, leF_1, gtF_1, geF_1, atE_1, ixF_1, ixF_2, ixF_3, pxE_1, ixF_4, plE_1, lenF_4, eMt_e, cMt_1, eCut_e, cCut_1, cCut2_1, qNone_e, qSome_e, toI_1, cutF_1, cutF_2, cutF_3, cutF_4, eCallK_e, cK_1, cK2_1, eDic0_e, oCat_e, cCat_1, cCat2_1, cCat3_1, lsT_1, lsT_2, rcv_p, apE_1, appF_1, stL_app, set_app, stL_0, stL_k, stL_c, stL_s, set_0, set_k, shE_1, shF_1, lenF_1, lenF_2, lenF_3, absF_1, intOfF_1, intOfF_2, rng1F_1, rng2F_1, Ar_e, mkD_e, fin_1, fin_2, fin_3, few_e, tupOfF_1, tupOfF_2, tupOfF_3, lstOfF_1, lstOfF_2, lstOfF_3, isF_1, gStar_1, cIf_1, Option.isSome_some, List.length_map, List.length_append, List.append_assoc, Nat.add_assoc, slots, wpD, List.map_cons, List.map_nil, List.cons_append, List.nil_append, List.length_cons, List.length_nil, List.replicate, List.set_cons_succ, List.set_cons_zero, List.getElem?_cons_zero, List.getElem?_cons_succ, if_true, if_false, ite_true, ite_false, reduceIte, Nat.reduceAdd, Nat.reduceSub, Nat.reduceLeDiff, Nat.zero_add, Nat.sub_zero, Nat.sub_self, Bool.not_true, Bool.not_false, Bool.false_eq_true, decide_true, decide_false, Bool.true_and, Bool.and_true, Bool.or_true, Bool.true_or, Bool.false_and, Bool.and_false, Bool.or_false, Bool.false_or, decide_eq_true_eq, id_eq, Int.reduceLT, Int.reduceLE, Int.reduceNeg, Int.reduceAdd, Int.reduceSub, Int.reduceMul, Int.reduceMod, Int.reduceDiv, Int.reducePow, Int.reduceToNat, and_self, true_and, and_true, gStar_1, eqF_int, isiF_tup, isiF_lst, isiF_int, isiF_str, isiF_bl, at_0, gSet_e, seO_1, seI_1, lenF_5, addF_4, sxE_1, ixF_5, itF_4, max2F_e, min2F_e, eM1_c, cM1_1, oM1_c, cN1_1, intAnyF_b, intAnyF_s, strOfF_1, eqF_str, eqH_int, eqH_str, dvmF_1, gTwo_1, eIf_e, d__law_whole, b__law_whole, isx_dic, isI, isaB]; try rfl
  | exc c t fs => simp (config := { decide := true }) only [bd_1, bd_2, bs_1, bs_2, sq_1, sq_2, sq_3, sq_4, sq_5, vr_1, ga_1, lcE_1, sSeq_e, sAsg_e, cAsg_1, sRet_e, cRt_1, sDrop_e, cDr_1, sIf_e, cIf_t, cIf_f, sSkip_e, sBrk_e, sCnt_e, sPar_e, cPar_1, cPar2_1, sFor_e, cFor_1, gVar_e, eVar_e, eC_e, eOp_e, cOp_1, eUn_e, aNil_e, aCons_e, cA_1, cA2_1, eCall_e, oCall_e, iCall_e, iVal_e, toB_1, bVal_e, bAnd_e, cAnd_1, bOr_e, cOr_1, bNot_e, cNot_1, eAnd_e, cEAnd_1, cEAnd2_1, eOr_e, cEOr_1, cEOr2_1, eNot_e, cENot_1, cENot2_1, eIf_e, cEIf_1, eChain_e, cCh_1, cCh1_1, cCh2_1, cCh3_1, eTup_e, cTup_1, oLst_e, cLst_1, eFz_e, cFz_1, ePtr_e, cPtr_1, oLc_e, cLc_1, eSh_e, itF_1, itF_2, itF_3, addF_1, addF_2, addF_3, intF_1, subF_1, modF_1, fdvF_1, powF_1, mulF_1, mulF_2, negF_1, ltF_1, leF_1, gtF_1, geF_1, atE_1, ixF_1, ixF_2, ixF_3, pxE_1, ixF_4, plE_1, lenF_4, eMt_e, cMt_1, eCut_e, cCut_1, cCut2_1, qNone_e, qSome_e, toI_1, cutF_1, cutF_2, cutF_3, cutF_4, eCallK_e, cK_1, cK2_1, eDic0_e, oCat_e, cCat_1, cCat2_1, cCat3_1, lsT_1, lsT_2, rcv_p, apE_1, appF_1, stL_app, set_app, stL_0, stL_k, stL_c, stL_s, set_0, set_k, shE_1, shF_1, lenF_1, lenF_2, lenF_3, absF_1, intOfF_1, intOfF_2, rng1F_1, rng2F_1, Ar_e, mkD_e, fin_1, fin_2, fin_3, few_e, tupOfF_1, tupOfF_2, tupOfF_3, lstOfF_1, lstOfF_2, lstOfF_3, isF_1, gStar_1, cIf_1, Option.isSome_some, List.length_map, List.length_append, List.append_assoc, Nat.add_assoc, slots, wpD, List.map_cons, List.map_nil, List.cons_append, List.nil_append, List.length_cons, List.length_nil, List.replicate, List.set_cons_succ, List.set_cons_zero, List.getElem?_cons_zero, List.getElem?_cons_succ, if_true, if_false, ite_true, ite_false, reduceIte, Nat.reduceAdd, Nat.reduceSub, Nat.reduceLeDiff, Nat.zero_add, Nat.sub_zero, Nat.sub_self, Bool.not_true, Bool.not_false, Bool.false_eq_true, decide_true, decide_false, Bool.true_and, Bool.and_true, Bool.or_true, Bool.true_or, Bool.false_and, Bool.and_false, Bool.or_false, Bool.false_or, decide_eq_true_eq, id_eq, Int.reduceLT, Int.reduceLE, Int.reduceNeg, Int.reduceAdd, Int.reduceSub, Int.reduceMul, Int.reduceMod, Int.reduceDiv, Int.reducePow, Int.reduceToNat, and_self, true_and, and_true, gStar_1, eqF_int, isiF_tup, isiF_lst, isiF_int, isiF_str, isiF_bl, at_0, gSet_e, seO_1, seI_1, lenF_5, addF_4, sxE_1, ixF_5, itF_4, max2F_e, min2F_e, eM1_c, cM1_1, oM1_c, cN1_1, intAnyF_b, intAnyF_s, strOfF_1, eqF_str, eqH_int, eqH_str, dvmF_1, gTwo_1, eIf_e, d__law_whole, b__law_whole, isx_exc h, isI]; try rfl
  | _ => cases h
theorem isw_ok {d : D} (h : Et d = true) (lo hi : Int) (S : ST) : d_is_whole [d, .int lo, .int hi] S = some (.ok (.bl (inB lo hi d)), S) := by
  cases d with
  | non => simp (config := { decide := true }) only [bd_1, bd_2, bs_1, bs_2, sq_1, sq_2, sq_3, sq_4, sq_5, vr_1, ga_1, lcE_1, sSeq_e, sAsg_e, cAsg_1, sRet_e, cRt_1, sDrop_e, cDr_1, sIf_e, cIf_t, cIf_f, sSkip_e, sBrk_e, sCnt_e, sPar_e, cPar_1, cPar2_1, sFor_e, cFor_1, gVar_e, eVar_e, eC_e, eOp_e, cOp_1, eUn_e, aNil_e, aCons_e, cA_1, cA2_1, eCall_e, oCall_e, iCall_e, iVal_e, toB_1, bVal_e, bAnd_e, cAnd_1, bOr_e, cOr_1, bNot_e, cNot_1, eAnd_e, cEAnd_1, cEAnd2_1, eOr_e, cEOr_1, cEOr2_1, eNot_e, cENot_1, cENot2_1, eIf_e, cEIf_1, eChain_e, cCh_1, cCh1_1, cCh2_1, cCh3_1, eTup_e, cTup_1, oLst_e, cLst_1, eFz_e, cFz_1, ePtr_e, cPtr_1, oLc_e, cLc_1, eSh_e, itF_1, itF_2, itF_3, addF_1, addF_2, addF_3, intF_1, subF_1, modF_1, fdvF_1, powF_1, mulF_1, mulF_2, negF_1, ltF_1, leF_1, gtF_1, geF_1, atE_1, ixF_1, ixF_2, ixF_3, pxE_1, ixF_4, plE_1, lenF_4, eMt_e, cMt_1, eCut_e, cCut_1, cCut2_1, qNone_e, qSome_e, toI_1, cutF_1, cutF_2, cutF_3, cutF_4, eCallK_e, cK_1, cK2_1, eDic0_e, oCat_e, cCat_1, cCat2_1, cCat3_1, lsT_1, lsT_2, rcv_p, apE_1, appF_1, stL_app, set_app, stL_0, stL_k, stL_c, stL_s, set_0, set_k, shE_1, shF_1, lenF_1, lenF_2, lenF_3, absF_1, intOfF_1, intOfF_2, rng1F_1, rng2F_1, Ar_e, mkD_e, fin_1, fin_2, fin_3, few_e, tupOfF_1, tupOfF_2, tupOfF_3, lstOfF_1, lstOfF_2, lstOfF_3, isF_1, gStar_1, cIf_1, Option.isSome_some, List.length_map, List.length_append, List.append_assoc, Nat.add_assoc, slots, wpD, List.map_cons, List.map_nil, List.cons_append, List.nil_append, List.length_cons, List.length_nil, List.replicate, List.set_cons_succ, List.set_cons_zero, List.getElem?_cons_zero, List.getElem?_cons_succ, if_true, if_false, ite_true, ite_false, reduceIte, Nat.reduceAdd, Nat.reduceSub, Nat.reduceLeDiff, Nat.zero_add, Nat.sub_zero, Nat.sub_self, Bool.not_true, Bool.not_false, Bool.false_eq_true, decide_true, decide_false, Bool.true_and, Bool.and_true, Bool.or_true, Bool.true_or, Bool.false_and, Bool.and_false, Bool.or_false, Bool.false_or, decide_eq_true_eq, id_eq, Int.reduceLT, Int.reduceLE, Int.reduceNeg, Int.reduceAdd, Int.reduceSub, Int.reduceMul, Int.reduceMod, Int.reduceDiv, Int.reducePow, Int.reduceToNat, and_self, true_and, and_true, gStar_1, eqF_int, isiF_tup, isiF_lst, isiF_int, isiF_str, isiF_bl, at_0, gSet_e, seO_1, seI_1, lenF_5, addF_4, sxE_1, ixF_5, itF_4, max2F_e, min2F_e, eM1_c, cM1_1, oM1_c, cN1_1, intAnyF_b, intAnyF_s, strOfF_1, eqF_str, eqH_int, eqH_str, dvmF_1, gTwo_1, eIf_e, d_is_whole, b_is_whole, isx_non, inB, isaB]; try rfl
  | bl b => simp (config := { decide := true }) only [bd_1, bd_2, bs_1, bs_2, sq_1, sq_2, sq_3, sq_4, sq_5, vr_1, ga_1, lcE_1, sSeq_e, sAsg_e, cAsg_1, sRet_e, cRt_1, sDrop_e, cDr_1, sIf_e, cIf_t, cIf_f, sSkip_e, sBrk_e, sCnt_e, sPar_e, cPar_1, cPar2_1, sFor_e, cFor_1, gVar_e, eVar_e, eC_e, eOp_e, cOp_1, eUn_e, aNil_e, aCons_e, cA_1, cA2_1, eCall_e, oCall_e, iCall_e, iVal_e, toB_1, bVal_e, bAnd_e, cAnd_1, bOr_e, cOr_1, bNot_e, cNot_1, eAnd_e, cEAnd_1, cEAnd2_1, eOr_e, cEOr_1, cEOr2_1, eNot_e, cENot_1, cENot2_1, eIf_e, cEIf_1, eChain_e, cCh_1, cCh1_1, cCh2_1, cCh3_1, eTup_e, cTup_1, oLst_e, cLst_1, eFz_e, cFz_1, ePtr_e, cPtr_1, oLc_e, cLc_1, eSh_e, itF_1, itF_2, itF_3, addF_1, addF_2, addF_3, intF_1, subF_1, modF_1, fdvF_1, powF_1, mulF_1, mulF_2, negF_1, ltF_1, leF_1, gtF_1, geF_1, atE_1, ixF_1, ixF_2, ixF_3, pxE_1, ixF_4, plE_1, lenF_4, eMt_e, cMt_1, eCut_e, cCut_1, cCut2_1, qNone_e, qSome_e, toI_1, cutF_1, cutF_2, cutF_3, cutF_4, eCallK_e, cK_1, cK2_1, eDic0_e, oCat_e, cCat_1, cCat2_1, cCat3_1, lsT_1, lsT_2, rcv_p, apE_1, appF_1, stL_app, set_app, stL_0, stL_k, stL_c, stL_s, set_0, set_k, shE_1, shF_1, lenF_1, lenF_2, lenF_3, absF_1, intOfF_1, intOfF_2, rng1F_1, rng2F_1, Ar_e, mkD_e, fin_1, fin_2, fin_3, few_e, tupOfF_1, tupOfF_2, tupOfF_3, lstOfF_1, lstOfF_2, lstOfF_3, isF_1, gStar_1, cIf_1, Option.isSome_some, List.length_map, List.length_append, List.append_assoc, Nat.add_assoc, slots, wpD, List.map_cons, List.map_nil, List.cons_append, List.nil_append, List.length_cons, List.length_nil, List.replicate, List.set_cons_succ, List.set_cons_zero, List.getElem?_cons_zero, List.getElem?_cons_succ, if_true, if_false, ite_true, ite_false, reduceIte, Nat.reduceAdd, Nat.reduceSub, Nat.reduceLeDiff, Nat.zero_add, Nat.sub_zero, Nat.sub_self, Bool.not_true, Bool.not_false, Bool.false_eq_true, decide_true, decide_false, Bool.true_and, Bool.and_true, Bool.or_true, Bool.true_or, Bool.false_and, Bool.and_false, Bool.or_false, Bool.false_or, decide_eq_true_eq, id_eq, Int.reduceLT, Int.reduceLE, Int.reduceNeg, Int.reduceAdd, Int.reduceSub, Int.reduceMul, Int.reduceMod, Int.reduceDiv, Int.reducePow, Int.reduceToNat, and_self, true_and, and_true, gStar_1, eqF_int, isiF_tup, isiF_lst, isiF_int, isiF_str, isiF_bl, at_0, gSet_e, seO_1, seI_1, lenF_5, addF_4, sxE_1, ixF_5, itF_4, max2F_e, min2F_e, eM1_c, cM1_1, oM1_c, cN1_1, intAnyF_b, intAnyF_s, strOfF_1, eqF_str, eqH_int, eqH_str, dvmF_1, gTwo_1, eIf_e, d_is_whole, b_is_whole, isx_bl, inB, isaB]; try rfl
  | int b =>
    by_cases h1 : lo ≤ b
    · by_cases h2 : b ≤ hi
      · simp (config := { decide := true }) only [bd_1, bd_2, bs_1, bs_2, sq_1, sq_2, sq_3, sq_4, sq_5, vr_1, ga_1, lcE_1, sSeq_e, sAsg_e, cAsg_1, sRet_e, cRt_1, sDrop_e, cDr_1, sIf_e, cIf_t, cIf_f, sSkip_e, sBrk_e, sCnt_e, sPar_e, cPar_1, cPar2_1, sFor_e, cFor_1, gVar_e, eVar_e, eC_e, eOp_e, cOp_1, eUn_e, aNil_e, aCons_e, cA_1, cA2_1, eCall_e, oCall_e, iCall_e, iVal_e, toB_1, bVal_e, bAnd_e, cAnd_1, bOr_e, cOr_1, bNot_e, cNot_1, eAnd_e, cEAnd_1, cEAnd2_1, eOr_e, cEOr_1, cEOr2_1, eNot_e, cENot_1, cENot2_1, eIf_e, cEIf_1, eChain_e, cCh_1, cCh1_1, cCh2_1, cCh3_1, eTup_e, cTup_1, oLst_e, cLst_1, eFz_e, cFz_1, ePtr_e, cPtr_1, oLc_e, cLc_1, eSh_e, itF_1, itF_2, itF_3, addF_1, addF_2, addF_3, intF_1, subF_1, modF_1, fdvF_1, powF_1, mulF_1, mulF_2, negF_1, ltF_1, leF_1, gtF_1, geF_1, atE_1, ixF_1, ixF_2, ixF_3, pxE_1, ixF_4, plE_1, lenF_4, eMt_e, cMt_1, eCut_e, cCut_1, cCut2_1, qNone_e, qSome_e, toI_1, cutF_1, cutF_2, cutF_3, cutF_4, eCallK_e, cK_1, cK2_1, eDic0_e, oCat_e, cCat_1, cCat2_1, cCat3_1, lsT_1, lsT_2, rcv_p, apE_1, appF_1, stL_app, set_app, stL_0, stL_k, stL_c, stL_s, set_0, set_k, shE_1, shF_1, lenF_1, lenF_2, lenF_3, absF_1, intOfF_1, intOfF_2, rng1F_1, rng2F_1, Ar_e, mkD_e, fin_1, fin_2, fin_3, few_e, tupOfF_1, tupOfF_2, tupOfF_3, lstOfF_1, lstOfF_2, lstOfF_3, isF_1, gStar_1, cIf_1, Option.isSome_some, List.length_map, List.length_append, List.append_assoc, Nat.add_assoc, slots, wpD, List.map_cons, List.map_nil, List.cons_append, List.nil_append, List.length_cons, List.length_nil, List.replicate, List.set_cons_succ, List.set_cons_zero, List.getElem?_cons_zero, List.getElem?_cons_succ, if_true, if_false, ite_true, ite_false, reduceIte, Nat.reduceAdd, Nat.reduceSub, Nat.reduceLeDiff, Nat.zero_add, Nat.sub_zero, Nat.sub_self, Bool.not_true, Bool.not_false, Bool.false_eq_true, decide_true, decide_false, Bool.true_and, Bool.and_true, Bool.or_true, Bool.true_or, Bool.false_and, Bool.and_false, Bool.or_false, Bool.false_or, decide_eq_true_eq, id_eq, Int.reduceLT, Int.reduceLE, Int.reduceNeg, Int.reduceAdd, Int.reduceSub, Int.reduceMul, Int.reduceMod, Int.reduceDiv, Int.reducePow, Int.reduceToNat, and_self, true_and, and_true, gStar_1, eqF_int, isiF_tup, isiF_lst, isiF_int, isiF_str, isiF_bl, at_0, gSet_e, seO_1, seI_1, lenF_5, addF_4, sxE_1, ixF_5, itF_4, max2F_e, min2F_e, eM1_c, cM1_1, oM1_c, cN1_1, intAnyF_b, intAnyF_s, strOfF_1, eqF_str, eqH_int, eqH_str, dvmF_1, gTwo_1, eIf_e, d_is_whole, b_is_whole, isx_int, inB, isaB, h1, h2]; try rfl
      · simp (config := { decide := true }) only [bd_1, bd_2, bs_1, bs_2, sq_1, sq_2, sq_3, sq_4, sq_5, vr_1, ga_1, lcE_1, sSeq_e, sAsg_e, cAsg_1, sRet_e, cRt_1, sDrop_e, cDr_1, sIf_e, cIf_t, cIf_f, sSkip_e, sBrk_e, sCnt_e, sPar_e, cPar_1, cPar2_1, sFor_e, cFor_1, gVar_e, eVar_e, eC_e, eOp_e, cOp_1, eUn_e, aNil_e, aCons_e, cA_1, cA2_1, eCall_e, oCall_e, iCall_e, iVal_e, toB_1, bVal_e, bAnd_e, cAnd_1, bOr_e, cOr_1, bNot_e, cNot_1, eAnd_e, cEAnd_1, cEAnd2_1, eOr_e, cEOr_1, cEOr2_1, eNot_e, cENot_1, cENot2_1, eIf_e, cEIf_1, eChain_e, cCh_1, cCh1_1, cCh2_1, cCh3_1, eTup_e, cTup_1, oLst_e, cLst_1, eFz_e, cFz_1, ePtr_e, cPtr_1, oLc_e, cLc_1, eSh_e, itF_1, itF_2, itF_3, addF_1, addF_2, addF_3, intF_1, subF_1, modF_1, fdvF_1, powF_1, mulF_1, mulF_2, negF_1, ltF_1, leF_1, gtF_1, geF_1, atE_1, ixF_1, ixF_2, ixF_3, pxE_1, ixF_4, plE_1, lenF_4, eMt_e, cMt_1, eCut_e, cCut_1, cCut2_1, qNone_e, qSome_e, toI_1, cutF_1, cutF_2, cutF_3, cutF_4, eCallK_e, cK_1, cK2_1, eDic0_e, oCat_e, cCat_1, cCat2_1, cCat3_1, lsT_1, lsT_2, rcv_p, apE_1, appF_1, stL_app, set_app, stL_0, stL_k, stL_c, stL_s, set_0, set_k, shE_1, shF_1, lenF_1, lenF_2, lenF_3, absF_1, intOfF_1, intOfF_2, rng1F_1, rng2F_1, Ar_e, mkD_e, fin_1, fin_2, fin_3, few_e, tupOfF_1, tupOfF_2, tupOfF_3, lstOfF_1, lstOfF_2, lstOfF_3, isF_1, gStar_1, cIf_1, Option.isSome_some, List.length_map, List.length_append, List.append_assoc, Nat.add_assoc, slots, wpD, List.map_cons, List.map_nil, List.cons_append, List.nil_append, List.length_cons, List.length_nil, List.replicate, List.set_cons_succ, List.set_cons_zero, List.getElem?_cons_zero, List.getElem?_cons_succ, if_true, if_false, ite_true, ite_false, reduceIte, Nat.reduceAdd, Nat.reduceSub, Nat.reduceLeDiff, Nat.zero_add, Nat.sub_zero, Nat.sub_self, Bool.not_true, Bool.not_false, Bool.false_eq_true, decide_true, decide_false, Bool.true_and, Bool.and_true, Bool.or_true, Bool.true_or, Bool.false_and, Bool.and_false, Bool.or_false, Bool.false_or, decide_eq_true_eq, id_eq, Int.reduceLT, Int.reduceLE, Int.reduceNeg, Int.reduceAdd, Int.reduceSub, Int.reduceMul, Int.reduceMod, Int.reduceDiv, Int.reducePow, Int.reduceToNat, and_self, true_and, and_true, gStar_1, eqF_int, isiF_tup, isiF_lst, isiF_int, isiF_str, isiF_bl, at_0, gSet_e, seO_1, seI_1, lenF_5, addF_4, sxE_1, ixF_5, itF_4, max2F_e, min2F_e, eM1_c, cM1_1, oM1_c, cN1_1, intAnyF_b, intAnyF_s, strOfF_1, eqF_str, eqH_int, eqH_str, dvmF_1, gTwo_1, eIf_e, d_is_whole, b_is_whole, isx_int, inB, isaB, h1, h2]; try rfl
    · simp (config := { decide := true }) only [bd_1, bd_2, bs_1, bs_2, sq_1, sq_2, sq_3, sq_4, sq_5, vr_1, ga_1, lcE_1, sSeq_e, sAsg_e, cAsg_1, sRet_e, cRt_1, sDrop_e, cDr_1, sIf_e, cIf_t, cIf_f, sSkip_e, sBrk_e, sCnt_e, sPar_e, cPar_1, cPar2_1, sFor_e, cFor_1, gVar_e, eVar_e, eC_e, eOp_e, cOp_1, eUn_e, aNil_e, aCons_e, cA_1, cA2_1, eCall_e, oCall_e, iCall_e, iVal_e, toB_1, bVal_e, bAnd_e, cAnd_1, bOr_e, cOr_1, bNot_e, cNot_1, eAnd_e, cEAnd_1, cEAnd2_1, eOr_e, cEOr_1, cEOr2_1, eNot_e, cENot_1, cENot2_1, eIf_e, cEIf_1, eChain_e, cCh_1, cCh1_1, cCh2_1, cCh3_1, eTup_e, cTup_1, oLst_e, cLst_1, eFz_e, cFz_1, ePtr_e, cPtr_1, oLc_e, cLc_1, eSh_e, itF_1, itF_2, itF_3, addF_1, addF_2, addF_3, intF_1, subF_1, modF_1, fdvF_1, powF_1, mulF_1, mulF_2, negF_1, ltF_1, leF_1, gtF_1, geF_1, atE_1, ixF_1, ixF_2, ixF_3, pxE_1, ixF_4, plE_1, lenF_4, eMt_e, cMt_1, eCut_e, cCut_1, cCut2_1, qNone_e, qSome_e, toI_1, cutF_1, cutF_2, cutF_3, cutF_4, eCallK_e, cK_1, cK2_1, eDic0_e, oCat_e, cCat_1, cCat2_1, cCat3_1, lsT_1, lsT_2, rcv_p, apE_1, appF_1, stL_app, set_app, stL_0, stL_k, stL_c, stL_s, set_0, set_k, shE_1, shF_1, lenF_1, lenF_2, lenF_3, absF_1, intOfF_1, intOfF_2, rng1F_1, rng2F_1, Ar_e, mkD_e, fin_1, fin_2, fin_3, few_e, tupOfF_1, tupOfF_2, tupOfF_3, lstOfF_1, lstOfF_2, lstOfF_3, isF_1, gStar_1, cIf_1, Option.isSome_some, List.length_map, List.length_append, List.append_assoc, Nat.add_assoc, slots, wpD, List.map_cons, List.map_nil, List.cons_append, List.nil_append, List.length_cons, List.length_nil, List.replicate, List.set_cons_succ, List.set_cons_zero, List.getElem?_cons_zero, List.getElem?_cons_succ, if_true, if_false, ite_true, ite_false, reduceIte, Nat.reduceAdd, Nat.reduceSub, Nat.reduceLeDiff, Nat.zero_add, Nat.sub_zero, Nat.sub_self, Bool.not_true, Bool.not_false, Bool.false_eq_true, decide_true, decide_false, Bool.true_and, Bool.and_true, Bool.or_true, Bool.true_or, Bool.false_and, Bool.and_false, Bool.or_false, Bool.false_or, decide_eq_true_eq, id_eq, Int.reduceLT, Int.reduceLE, Int.reduceNeg, Int.reduceAdd, Int.reduceSub, Int.reduceMul, Int.reduceMod, Int.reduceDiv, Int.reducePow, Int.reduceToNat, and_self, true_and, and_true, gStar_1, eqF_int, isiF_tup, isiF_lst, isiF_int, isiF_str, isiF_bl, at_0, gSet_e, seO_1, seI_1, lenF_5, addF_4, sxE_1, ixF_5, itF_4, max2F_e, min2F_e, eM1_c, cM1_1, oM1_c, cN1_1, intAnyF_b, intAnyF_s, strOfF_1, eqF_str, eqH_int, eqH_str, dvmF_1, gTwo_1, eIf_e, d_is_whole, b_is_whole, isx_int, inB, isaB, h1]; try rfl
  | str b => simp (config := { decide := true }) only [bd_1, bd_2, bs_1, bs_2, sq_1, sq_2, sq_3, sq_4, sq_5, vr_1, ga_1, lcE_1, sSeq_e, sAsg_e, cAsg_1, sRet_e, cRt_1, sDrop_e, cDr_1, sIf_e, cIf_t, cIf_f, sSkip_e, sBrk_e, sCnt_e, sPar_e, cPar_1, cPar2_1, sFor_e, cFor_1, gVar_e, eVar_e, eC_e, eOp_e, cOp_1, eUn_e, aNil_e, aCons_e, cA_1, cA2_1, eCall_e, oCall_e, iCall_e, iVal_e, toB_1, bVal_e, bAnd_e, cAnd_1, bOr_e, cOr_1, bNot_e, cNot_1, eAnd_e, cEAnd_1, cEAnd2_1, eOr_e, cEOr_1, cEOr2_1, eNot_e, cENot_1, cENot2_1, eIf_e, cEIf_1, eChain_e, cCh_1, cCh1_1, cCh2_1, cCh3_1, eTup_e, cTup_1, oLst_e, cLst_1, eFz_e, cFz_1, ePtr_e, cPtr_1, oLc_e, cLc_1, eSh_e, itF_1, itF_2, itF_3, addF_1, addF_2, addF_3, intF_1, subF_1, modF_1, fdvF_1, powF_1, mulF_1, mulF_2, negF_1, ltF_1, leF_1, gtF_1, geF_1, atE_1, ixF_1, ixF_2, ixF_3, pxE_1, ixF_4, plE_1, lenF_4, eMt_e, cMt_1, eCut_e, cCut_1, cCut2_1, qNone_e, qSome_e, toI_1, cutF_1, cutF_2, cutF_3, cutF_4, eCallK_e, cK_1, cK2_1, eDic0_e, oCat_e, cCat_1, cCat2_1, cCat3_1, lsT_1, lsT_2, rcv_p, apE_1, appF_1, stL_app, set_app, stL_0, stL_k, stL_c, stL_s, set_0, set_k, shE_1, shF_1, lenF_1, lenF_2, lenF_3, absF_1, intOfF_1, intOfF_2, rng1F_1, rng2F_1, Ar_e, mkD_e, fin_1, fin_2, fin_3, few_e, tupOfF_1, tupOfF_2, tupOfF_3, lstOfF_1, lstOfF_2, lstOfF_3, isF_1, gStar_1, cIf_1, Option.isSome_some, List.length_map, List.length_append, List.append_assoc, Nat.add_assoc, slots, wpD, List.map_cons, List.map_nil, List.cons_append, List.nil_append, List.length_cons, List.length_nil, List.replicate, List.set_cons_succ, List.set_cons_zero, List.getElem?_cons_zero, List.getElem?_cons_succ, if_true, if_false, ite_true, ite_false, reduceIte, Nat.reduceAdd, Nat.reduceSub, Nat.reduceLeDiff, Nat.zero_add, Nat.sub_zero, Nat.sub_self, Bool.not_true, Bool.not_false, Bool.false_eq_true, decide_true, decide_false, Bool.true_and, Bool.and_true, Bool.or_true, Bool.true_or, Bool.false_and, Bool.and_false, Bool.or_false, Bool.false_or, decide_eq_true_eq, id_eq, Int.reduceLT, Int.reduceLE, Int.reduceNeg, Int.reduceAdd, Int.reduceSub, Int.reduceMul, Int.reduceMod, Int.reduceDiv, Int.reducePow, Int.reduceToNat, and_self, true_and, and_true, gStar_1, eqF_int, isiF_tup, isiF_lst, isiF_int, isiF_str, isiF_bl, at_0, gSet_e, seO_1, seI_1, lenF_5, addF_4, sxE_1, ixF_5, itF_4, max2F_e, min2F_e, eM1_c, cM1_1, oM1_c, cN1_1, intAnyF_b, intAnyF_s, strOfF_1, eqF_str, eqH_int, eqH_str, dvmF_1, gTwo_1, eIf_e, d_is_whole, b_is_whole, isx_str, inB, isaB]; try rfl
  | tup b => simp (config := { decide := true }) only [bd_1, bd_2, bs_1, bs_2, sq_1, sq_2, sq_3, sq_4, sq_5, vr_1, ga_1, lcE_1, sSeq_e, sAsg_e, cAsg_1, sRet_e, cRt_1, sDrop_e, cDr_1, sIf_e, cIf_t, cIf_f, sSkip_e, sBrk_e, sCnt_e, sPar_e, cPar_1, cPar2_1, sFor_e, cFor_1, gVar_e, eVar_e, eC_e, eOp_e, cOp_1, eUn_e, aNil_e, aCons_e, cA_1, cA2_1, eCall_e, oCall_e, iCall_e, iVal_e, toB_1, bVal_e, bAnd_e, cAnd_1, bOr_e, cOr_1, bNot_e, cNot_1, eAnd_e, cEAnd_1, cEAnd2_1, eOr_e, cEOr_1, cEOr2_1, eNot_e, cENot_1, cENot2_1, eIf_e, cEIf_1, eChain_e, cCh_1, cCh1_1, cCh2_1, cCh3_1, eTup_e, cTup_1, oLst_e, cLst_1, eFz_e, cFz_1, ePtr_e, cPtr_1, oLc_e, cLc_1, eSh_e, itF_1, itF_2, itF_3, addF_1, addF_2, addF_3, intF_1, subF_1, modF_1, fdvF_1, powF_1, mulF_1, mulF_2, negF_1, ltF_1, leF_1, gtF_1, geF_1, atE_1, ixF_1, ixF_2, ixF_3, pxE_1, ixF_4, plE_1, lenF_4, eMt_e, cMt_1, eCut_e, cCut_1, cCut2_1, qNone_e, qSome_e, toI_1, cutF_1, cutF_2, cutF_3, cutF_4, eCallK_e, cK_1, cK2_1, eDic0_e, oCat_e, cCat_1, cCat2_1, cCat3_1, lsT_1, lsT_2, rcv_p, apE_1, appF_1, stL_app, set_app, stL_0, stL_k, stL_c, stL_s, set_0, set_k, shE_1, shF_1, lenF_1, lenF_2, lenF_3, absF_1, intOfF_1, intOfF_2, rng1F_1, rng2F_1, Ar_e, mkD_e, fin_1, fin_2, fin_3, few_e, tupOfF_1, tupOfF_2, tupOfF_3, lstOfF_1, lstOfF_2, lstOfF_3, isF_1, gStar_1, cIf_1, Option.isSome_some, List.length_map, List.length_append, List.append_assoc, Nat.add_assoc, slots, wpD, List.map_cons, List.map_nil, List.cons_append, List.nil_append, List.length_cons, List.length_nil, List.replicate, List.set_cons_succ, List.set_cons_zero, List.getElem?_cons_zero, List.getElem?_cons_succ, if_true, if_false, ite_true, ite_false, reduceIte, Nat.reduceAdd, Nat.reduceSub, Nat.reduceLeDiff, Nat.zero_add, Nat.sub_zero, Nat.sub_self, Bool.not_true, Bool.not_false, Bool.false_eq_true, decide_true, decide_false, Bool.true_and, Bool.and_true, Bool.or_true, Bool.true_or, Bool.false_and, Bool.and_false, Bool.or_false, Bool.false_or, decide_eq_true_eq, id_eq, Int.reduceLT, Int.reduceLE, Int.reduceNeg, Int.reduceAdd, Int.reduceSub, Int.reduceMul, Int.reduceMod, Int.reduceDiv, Int.reducePow, Int.reduceToNat, and_self, true_and, and_true, gStar_1, eqF_int, isiF_tup, isiF_lst, isiF_int, isiF_str, isiF_bl, at_0, gSet_e, seO_1, seI_1, lenF_5, addF_4, sxE_1, ixF_5, itF_4, max2F_e, min2F_e, eM1_c, cM1_1, oM1_c, cN1_1, intAnyF_b, intAnyF_s, strOfF_1, eqF_str, eqH_int, eqH_str, dvmF_1, gTwo_1, eIf_e, d_is_whole, b_is_whole, isx_tup, inB, isaB]; try rfl
  | lst b => simp (config := { decide := true }) only [bd_1, bd_2, bs_1, bs_2, sq_1, sq_2, sq_3, sq_4, sq_5, vr_1, ga_1, lcE_1, sSeq_e, sAsg_e, cAsg_1, sRet_e, cRt_1, sDrop_e, cDr_1, sIf_e, cIf_t, cIf_f, sSkip_e, sBrk_e, sCnt_e, sPar_e, cPar_1, cPar2_1, sFor_e, cFor_1, gVar_e, eVar_e, eC_e, eOp_e, cOp_1, eUn_e, aNil_e, aCons_e, cA_1, cA2_1, eCall_e, oCall_e, iCall_e, iVal_e, toB_1, bVal_e, bAnd_e, cAnd_1, bOr_e, cOr_1, bNot_e, cNot_1, eAnd_e, cEAnd_1, cEAnd2_1, eOr_e, cEOr_1, cEOr2_1, eNot_e, cENot_1, cENot2_1, eIf_e, cEIf_1, eChain_e, cCh_1, cCh1_1, cCh2_1, cCh3_1, eTup_e, cTup_1, oLst_e, cLst_1, eFz_e, cFz_1, ePtr_e, cPtr_1, oLc_e, cLc_1, eSh_e, itF_1, itF_2, itF_3, addF_1, addF_2, addF_3, intF_1, subF_1, modF_1, fdvF_1, powF_1, mulF_1, mulF_2, negF_1, ltF_1, leF_1, gtF_1, geF_1, atE_1, ixF_1, ixF_2, ixF_3, pxE_1, ixF_4, plE_1, lenF_4, eMt_e, cMt_1, eCut_e, cCut_1, cCut2_1, qNone_e, qSome_e, toI_1, cutF_1, cutF_2, cutF_3, cutF_4, eCallK_e, cK_1, cK2_1, eDic0_e, oCat_e, cCat_1, cCat2_1, cCat3_1, lsT_1, lsT_2, rcv_p, apE_1, appF_1, stL_app, set_app, stL_0, stL_k, stL_c, stL_s, set_0, set_k, shE_1, shF_1, lenF_1, lenF_2, lenF_3, absF_1, intOfF_1, intOfF_2, rng1F_1, rng2F_1, Ar_e, mkD_e, fin_1, fin_2, fin_3, few_e, tupOfF_1, tupOfF_2, tupOfF_3, lstOfF_1, lstOfF_2, lstOfF_3, isF_1, gStar_1, cIf_1, Option.isSome_some, List.length_map, List.length_append, List.append_assoc, Nat.add_assoc, slots, wpD, List.map_cons, List.map_nil, List.cons_append, List.nil_append, List.length_cons, List.length_nil, List.replicate, List.set_cons_succ, List.set_cons_zero, List.getElem?_cons_zero, List.getElem?_cons_succ, if_true, if_false, ite_true, ite_false, reduceIte, Nat.reduceAdd, Nat.reduceSub, Nat.reduceLeDiff, Nat.zero_add, Nat.sub_zero, Nat.sub_self, Bool.not_true, Bool.not_false, Bool.false_eq_true, decide_true, decide_false, Bool.true_and, Bool.and_true, Bool.or_true, Bool.true_or, Bool.false_and, Bool.and_false, Bool.or_false, Bool.false_or, decide_eq_true_eq, id_eq, Int.reduceLT, Int.reduceLE, Int.reduceNeg, Int.reduceAdd, Int.reduceSub, Int.reduceMul, Int.reduceMod, Int.reduceDiv, Int.reducePow, Int.reduceToNat, and_self, true_and, and_true, gStar_1, eqF_int, isiF_tup, isiF_lst, isiF_int, isiF_str, isiF_bl, at_0, gSet_e, seO_1, seI_1, lenF_5, addF_4, sxE_1, ixF_5, itF_4, max2F_e, min2F_e, eM1_c, cM1_1, oM1_c, cN1_1, intAnyF_b, intAnyF_s, strOfF_1, eqF_str, eqH_int, eqH_str, dvmF_1, gTwo_1, eIf_e, d_is_whole, b_is_whole, isx_lst, inB, isaB]; try rfl
  | dic b => simp (config := { decide := true }) only [bd_1, bd_2, bs_1, bs_2, sq_1, sq_2, sq_3, sq_4, sq_5, vr_1, ga_1, lcE_1, sSeq_e, sAsg_e, cAsg_1, sRet_e, cRt_1, sDrop_e, cDr_1, sIf_e, cIf_t, cIf_f, sSkip_e, sBrk_e, sCnt_e, sPar_e, cPar_1, cPar2_1, sFor_e, cFor_1, gVar_e, eVar_e, eC_e, eOp_e, cOp_1, eUn_e, aNil_e, aCons_e, cA_1, cA2_1, eCall_e, oCall_e, iCall_e, iVal_e, toB_1, bVal_e, bAnd_e, cAnd_1, bOr_e, cOr_1, bNot_e, cNot_1, eAnd_e, cEAnd_1, cEAnd2_1, eOr_e, cEOr_1, cEOr2_1, eNot_e, cENot_1, cENot2_1, eIf_e, cEIf_1, eChain_e, cCh_1, cCh1_1, cCh2_1, cCh3_1, eTup_e, cTup_1, oLst_e, cLst_1, eFz_e, cFz_1, ePtr_e, cPtr_1, oLc_e, cLc_1, eSh_e, itF_1, itF_2, itF_3, addF_1, addF_2, addF_3, intF_1, subF_1, modF_1, fdvF_1, powF_1, mulF_1, mulF_2, negF_1, ltF_1, leF_1, gtF_1, geF_1, atE_1, ixF_1, ixF_2, ixF_3, pxE_1, ixF_4, plE_1, lenF_4, eMt_e, cMt_1, eCut_e, cCut_1, cCut2_1, qNone_e, qSome_e, toI_1, cutF_1, cutF_2, cutF_3, cutF_4, eCallK_e, cK_1, cK2_1, eDic0_e, oCat_e, cCat_1, cCat2_1, cCat3_1, lsT_1, lsT_2, rcv_p, apE_1, appF_1, stL_app, set_app, stL_0, stL_k, stL_c, stL_s, set_0, set_k, shE_1, shF_1, lenF_1, lenF_2, lenF_3, absF_1, intOfF_1, intOfF_2, rng1F_1, rng2F_1, Ar_e, mkD_e, fin_1, fin_2, fin_3, few_e, tupOfF_1, tupOfF_2, tupOfF_3, lstOfF_1, lstOfF_2, lstOfF_3, isF_1, gStar_1, cIf_1, Option.isSome_some, List.length_map, List.length_append, List.append_assoc, Nat.add_assoc, slots, wpD, List.map_cons, List.map_nil, List.cons_append, List.nil_append, List.length_cons, List.length_nil, List.replicate, List.set_cons_succ, List.set_cons_zero, List.getElem?_cons_zero, List.getElem?_cons_succ, if_true, if_false, ite_true, ite_false, reduceIte, Nat.reduceAdd, Nat.reduceSub, Nat.reduceLeDiff, Nat.zero_add, Nat.sub_zero, Nat.sub_self, Bool.not_true, Bool.not_false, Bool.false_eq_true, decide_true, decide_false, Bool.true_and, Bool.and_true, Bool.or_true, Bool.true_or, Bool.false_and, Bool.and_false, Bool.or_false, Bool.false_or, decide_eq_true_eq, id_eq, Int.reduceLT, Int.reduceLE, Int.reduceNeg, Int.reduceAdd, Int.reduceSub, Int.reduceMul, Int.reduceMod, Int.reduceDiv, Int.reducePow, Int.reduceToNat, and_self, true_and, and_true, gStar_1, eqF_int, isiF_tup, isiF_lst, isiF_int, isiF_str, isiF_bl, at_0, gSet_e, seO_1, seI_1, lenF_5, addF_4, sxE_1, ixF_5, itF_4, max2F_e, min2F_e, eM1_c, cM1_1, oM1_c, cN1_1, intAnyF_b, intAnyF_s, strOfF_1, eqF_str, eqH_int, eqH_str, dvmF_1, gTwo_1, eIf_e, d_is_whole, b_is_whole, isx_dic, inB, isaB]; try rfl
  | exc c t fs => simp (config := { decide := true }) only [bd_1, bd_2, bs_1, bs_2, sq_1, sq_2, sq_3, sq_4, sq_5, vr_1, ga_1, lcE_1, sSeq_e, sAsg_e, cAsg_1, sRet_e, cRt_1, sDrop_e, cDr_1, sIf_e, cIf_t, cIf_f, sSkip_e, sBrk_e, sCnt_e, sPar_e, cPar_1, cPar2_1, sFor_e, cFor_1, gVar_e, eVar_e, eC_e, eOp_e, cOp_1, eUn_e, aNil_e, aCons_e, cA_1, cA2_1, eCall_e, oCall_e, iCall_e, iVal_e, toB_1, bVal_e, bAnd_e, cAnd_1, bOr_e, cOr_1, bNot_e, cNot_1, eAnd_e, cEAnd_1, cEAnd2_1, eOr_e, cEOr_1, cEOr2_1, eNot_e, cENot_1, cENot2_1, eIf_e, cEIf_1, eChain_e, cCh_1, cCh1_1, cCh2_1, cCh3_1, eTup_e, cTup_1, oLst_e, cLst_1, eFz_e, cFz_1, ePtr_e, cPtr_1, oLc_e, cLc_1, eSh_e, itF_1, itF_2, itF_3, addF_1, addF_2, addF_3, intF_1, subF_1, modF_1, fdvF_1, powF_1, mulF_1, mulF_2, negF_1, ltF_1, leF_1, gtF_1, geF_1, atE_1, ixF_1, ixF_2, ixF_3, pxE_1, ixF_4, plE_1, lenF_4, eMt_e, cMt_1, eCut_e, cCut_1, cCut2_1, qNone_e, qSome_e, toI_1, cutF_1, cutF_2, cutF_3, cutF_4, eCallK_e, cK_1, cK2_1, eDic0_e, oCat_e, cCat_1, cCat2_1, cCat3_1, lsT_1, lsT_2, rcv_p, apE_1, appF_1, stL_app, set_app, stL_0, stL_k, stL_c, stL_s, set_0, set_k, shE_1, shF_1, lenF_1, lenF_2, lenF_3, absF_1, intOfF_1, intOfF_2, rng1F_1, rng2F_1, Ar_e, mkD_e, fin_1, fin_2, fin_3, few_e, tupOfF_1, tupOfF_2, tupOfF_3, lstOfF_1, lstOfF_2, lstOfF_3, isF_1, gStar_1, cIf_1, Option.isSome_some, List.length_map, List.length_append, List.append_assoc, Nat.add_assoc, slots, wpD, List.map_cons, List.map_nil, List.cons_append, List.nil_append, List.length_cons, List.length_nil, List.replicate, List.set_cons_succ, List.set_cons_zero, List.getElem?_cons_zero, List.getElem?_cons_succ, if_true, if_false, ite_true, ite_false, reduceIte, Nat.reduceAdd, Nat.reduceSub, Nat.reduceLeDiff, Nat.zero_add, Nat.sub_zero, Nat.sub_self, Bool.not_true, Bool.not_false, Bool.false_eq_true, decide_true, decide_false, Bool.true_and, Bool.and_true, Bool.or_true, Bool.true_or, Bool.false_and, Bool.and_false, Bool.or_false, Bool.false_or, decide_eq_true_eq, id_eq, Int.reduceLT, Int.reduceLE, Int.reduceNeg, Int.reduceAdd, Int.reduceSub, Int.reduceMul, Int.reduceMod, Int.reduceDiv, Int.reducePow, Int.reduceToNat, and_self, true_and, and_true, gStar_1, eqF_int, isiF_tup, isiF_lst, isiF_int, isiF_str, isiF_bl, at_0, gSet_e, seO_1, seI_1, lenF_5, addF_4, sxE_1, ixF_5, itF_4, max2F_e, min2F_e, eM1_c, cM1_1, oM1_c, cN1_1, intAnyF_b, intAnyF_s, strOfF_1, eqF_str, eqH_int, eqH_str, dvmF_1, gTwo_1, eIf_e, d_is_whole, b_is_whole, isx_exc h, inB]; try rfl
  | _ => cases h
end W01

set_option Elab.async false
set_option linter.all false
set_option maxRecDepth 100000
set_option maxHeartbeats 4000000
namespace W01
open PySem L2 U TL
theorem inF_s {f : Bool → Bool} {c : Nat} {z : Str} {S : ST} : inF f (.str ⟨#[c]⟩) (.str z) S = some (.ok (.bl (f (decide (c ∈ tl z)))), S) := rfl
def abc (c : Nat) : Bool := decide (c ∈ tl "abcdefghijklmnopqrstuvwxyz")
theorem eqN_nil {xs : List D} {S : ST} : eqN (.lst xs) (.lst []) S = some (.ok (.bl xs.isEmpty), S) := by
  cases xs with
  | nil => rfl
  | cons x xs => rfl
theorem sift_all {α : Type} (p : α → Bool) : ∀ l : List α, (l.filter fun x => !p x).isEmpty = l.all p
  | [] => rfl
  | x :: l => by
    cases h : p x with
    | true => simp only [List.filter_cons, h, Bool.not_true, Bool.false_eq_true, if_false, List.all_cons, Bool.true_and, sift_all p l]
    | false => simp only [List.filter_cons, h, Bool.not_false, if_true, List.all_cons, Bool.false_and, List.isEmpty_cons]
theorem blDs_map {α : Type} (p : α → Bool) : ∀ l : List α, blDs (l.map fun x => D.bl (p x)) = some (l.map p)
  | [] => rfl
  | x :: l => by simp only [List.map_cons, blDs, blDs_map p l]
theorem allF_map {α : Type} (p : α → Bool) (l : List α) (S : ST) : allF (fun bs => bs.all id) [.lst (l.map fun x => D.bl (p x))] S = some (.ok (.bl (l.all p)), S) := by
  have e : lsS S (.lst (l.map fun x => D.bl (p x))) = some (l.map fun x => D.bl (p x)) := rfl
  unfold allF
  simp only [e, blDs_map]
  rw [List.all_map]
  rfl
theorem sg_all (a : Option D) (f : Str) (S : ST) : cmD (gVar 1) bYes ce_is_name_1 [a, none] (signs f) S = some ((tl f).map fun c => D.bl (abc c), S) := by
  rw [cm_map (f := fun d => match d with | .str z => .bl (abc (z.cps.getD 0 0)) | d => d) _ fun d hd => ?_]
  · simp [signs]
  · obtain ⟨c, hc, rfl⟩ := List.mem_map.mp hd
    refine ⟨_, rfl, ?_⟩
    simp (config := { decide := true }) only [bd_1, bd_2, bs_1, bs_2, sq_1, sq_2, sq_3, sq_4, sq_5, vr_1, ga_1, lcE_1, sSeq_e, sAsg_e, cAsg_1, sRet_e, cRt_1, sDrop_e, cDr_1, sIf_e, cIf_t, cIf_f, sSkip_e, sBrk_e, sCnt_e, sPar_e, cPar_1, cPar2_1, sFor_e, cFor_1, gVar_e, eVar_e, eC_e, eOp_e, cOp_1, eUn_e, aNil_e, aCons_e, cA_1, cA2_1, eCall_e, oCall_e, iCall_e, iVal_e, toB_1, bVal_e, bAnd_e, cAnd_1, bOr_e, cOr_1, bNot_e, cNot_1, eAnd_e, cEAnd_1, cEAnd2_1, eOr_e, cEOr_1, cEOr2_1, eNot_e, cENot_1, cENot2_1, eIf_e, cEIf_1, eChain_e, cCh_1, cCh1_1, cCh2_1, cCh3_1, eTup_e, cTup_1, oLst_e, cLst_1, eFz_e, cFz_1, ePtr_e, cPtr_1, oLc_e, cLc_1, eSh_e, itF_1, itF_2, itF_3, addF_1, addF_2, addF_3, intF_1, subF_1, modF_1, fdvF_1, powF_1, mulF_1, mulF_2, negF_1, ltF_1, leF_1, gtF_1, geF_1, atE_1, ixF_1, ixF_2, ixF_3, pxE_1, ixF_4, plE_1, lenF_4, eMt_e, cMt_1, eCut_e, cCut_1, cCut2_1, qNone_e, qSome_e, toI_1, cutF_1, cutF_2, cutF_3, cutF_4, eCallK_e, cK_1, cK2_1, eDic0_e, oCat_e, cCat_1, cCat2_1, cCat3_1, lsT_1, lsT_2, rcv_p, apE_1, appF_1, stL_app, set_app, stL_0, stL_k, stL_c, stL_s, set_0, set_k, shE_1, shF_1, lenF_1, lenF_2, lenF_3, absF_1, intOfF_1, intOfF_2, rng1F_1, rng2F_1, Ar_e, mkD_e, fin_1, fin_2, fin_3, few_e, tupOfF_1, tupOfF_2, tupOfF_3, lstOfF_1, lstOfF_2, lstOfF_3, isF_1, gStar_1, cIf_1, Option.isSome_some, List.length_map, List.length_append, List.append_assoc, Nat.add_assoc, slots, wpD, List.map_cons, List.map_nil, List.cons_append, List.nil_append, List.length_cons, List.length_nil, List.replicate, List.set_cons_succ, List.set_cons_zero, List.getElem?_cons_zero, List.getElem?_cons_succ, if_true, if_false, ite_true, ite_false, reduceIte, Nat.reduceAdd, Nat.reduceSub, Nat.reduceLeDiff, Nat.zero_add, Nat.sub_zero, Nat.sub_self, Bool.not_true, Bool.not_false, Bool.false_eq_true, decide_true, decide_false, Bool.true_and, Bool.and_true, Bool.or_true, Bool.true_or, Bool.false_and, Bool.and_false, Bool.or_false, Bool.false_or, decide_eq_true_eq, id_eq, Int.reduceLT, Int.reduceLE, Int.reduceNeg, Int.reduceAdd, Int.reduceSub, Int.reduceMul, Int.reduceMod, Int.reduceDiv, Int.reducePow, Int.reduceToNat, and_self, true_and, and_true, gStar_1, eqF_int, isiF_tup, isiF_lst, isiF_int, isiF_str, isiF_bl, at_0, gSet_e, seO_1, seI_1, lenF_5, addF_4, sxE_1, ixF_5, itF_4, max2F_e, min2F_e, eM1_c, cM1_1, oM1_c, cN1_1, intAnyF_b, intAnyF_s, strOfF_1, eqF_str, eqH_int, eqH_str, dvmF_1, gTwo_1, eIf_e, ce_is_name_1, inF_s]
    rfl
theorem sg_not (a : Option D) (f : Str) (S : ST) : cmD (gVar 2) ct__law_is_name_1 ce__law_is_name_1 [a, some (.str "abcdefghijklmnopqrstuvwxyz"), none] (signs f) S = some (((tl f).filter fun c => !abc c).map fun c => D.str ⟨#[c]⟩, S) := by
  rw [cm_sift (f := id) (c := fun d => match d with | .str z => !abc (z.cps.getD 0 0) | _ => false) _ fun d hd => ?_]
  · simp [signs, List.filter_map, Function.comp_def]
  · obtain ⟨c, hc, rfl⟩ := List.mem_map.mp hd
    refine ⟨_, rfl, ?_, ?_⟩
    · simp (config := { decide := true }) only [bd_1, bd_2, bs_1, bs_2, sq_1, sq_2, sq_3, sq_4, sq_5, vr_1, ga_1, lcE_1, sSeq_e, sAsg_e, cAsg_1, sRet_e, cRt_1, sDrop_e, cDr_1, sIf_e, cIf_t, cIf_f, sSkip_e, sBrk_e, sCnt_e, sPar_e, cPar_1, cPar2_1, sFor_e, cFor_1, gVar_e, eVar_e, eC_e, eOp_e, cOp_1, eUn_e, aNil_e, aCons_e, cA_1, cA2_1, eCall_e, oCall_e, iCall_e, iVal_e, toB_1, bVal_e, bAnd_e, cAnd_1, bOr_e, cOr_1, bNot_e, cNot_1, eAnd_e, cEAnd_1, cEAnd2_1, eOr_e, cEOr_1, cEOr2_1, eNot_e, cENot_1, cENot2_1, eIf_e, cEIf_1, eChain_e, cCh_1, cCh1_1, cCh2_1, cCh3_1, eTup_e, cTup_1, oLst_e, cLst_1, eFz_e, cFz_1, ePtr_e, cPtr_1, oLc_e, cLc_1, eSh_e, itF_1, itF_2, itF_3, addF_1, addF_2, addF_3, intF_1, subF_1, modF_1, fdvF_1, powF_1, mulF_1, mulF_2, negF_1, ltF_1, leF_1, gtF_1, geF_1, atE_1, ixF_1, ixF_2, ixF_3, pxE_1, ixF_4, plE_1, lenF_4, eMt_e, cMt_1, eCut_e, cCut_1, cCut2_1, qNone_e, qSome_e, toI_1, cutF_1, cutF_2, cutF_3, cutF_4, eCallK_e, cK_1, cK2_1, eDic0_e, oCat_e, cCat_1, cCat2_1, cCat3_1, lsT_1, lsT_2, rcv_p, apE_1, appF_1, stL_app, set_app, stL_0, stL_k, stL_c, stL_s, set_0, set_k, shE_1, shF_1, lenF_1, lenF_2, lenF_3, absF_1, intOfF_1, intOfF_2, rng1F_1, rng2F_1, Ar_e, mkD_e, fin_1, fin_2, fin_3, few_e, tupOfF_1, tupOfF_2, tupOfF_3, lstOfF_1, lstOfF_2, lstOfF_3, isF_1, gStar_1, cIf_1, Option.isSome_some, List.length_map, List.length_append, List.append_assoc, Nat.add_assoc, slots, wpD, List.map_cons, List.map_nil, List.cons_append, List.nil_append, List.length_cons, List.length_nil, List.replicate, List.set_cons_succ, List.set_cons_zero, List.getElem?_cons_zero, List.getElem?_cons_succ, if_true, if_false, ite_true, ite_false, reduceIte, Nat.reduceAdd, Nat.reduceSub, Nat.reduceLeDiff, Nat.zero_add, Nat.sub_zero, Nat.sub_self, Bool.not_true, Bool.not_false, Bool.false_eq_true, decide_true, decide_false, Bool.true_and, Bool.and_true, Bool.or_true, Bool.true_or, Bool.false_and, Bool.and_false, Bool.or_false, Bool.false_or, decide_eq_true_eq, id_eq, Int.reduceLT, Int.reduceLE, Int.reduceNeg, Int.reduceAdd, Int.reduceSub, Int.reduceMul, Int.reduceMod, Int.reduceDiv, Int.reducePow, Int.reduceToNat, and_self, true_and, and_true, gStar_1, eqF_int, isiF_tup, isiF_lst, isiF_int, isiF_str, isiF_bl, at_0, gSet_e, seO_1, seI_1, lenF_5, addF_4, sxE_1, ixF_5, itF_4, max2F_e, min2F_e, eM1_c, cM1_1, oM1_c, cN1_1, intAnyF_b, intAnyF_s, strOfF_1, eqF_str, eqH_int, eqH_str, dvmF_1, gTwo_1, eIf_e, ct__law_is_name_1, inF_s]
      rfl
    · simp (config := { decide := true }) only [bd_1, bd_2, bs_1, bs_2, sq_1, sq_2, sq_3, sq_4, sq_5, vr_1, ga_1, lcE_1, sSeq_e, sAsg_e, cAsg_1, sRet_e, cRt_1, sDrop_e, cDr_1, sIf_e, cIf_t, cIf_f, sSkip_e, sBrk_e, sCnt_e, sPar_e, cPar_1, cPar2_1, sFor_e, cFor_1, gVar_e, eVar_e, eC_e, eOp_e, cOp_1, eUn_e, aNil_e, aCons_e, cA_1, cA2_1, eCall_e, oCall_e, iCall_e, iVal_e, toB_1, bVal_e, bAnd_e, cAnd_1, bOr_e, cOr_1, bNot_e, cNot_1, eAnd_e, cEAnd_1, cEAnd2_1, eOr_e, cEOr_1, cEOr2_1, eNot_e, cENot_1, cENot2_1, eIf_e, cEIf_1, eChain_e, cCh_1, cCh1_1, cCh2_1, cCh3_1, eTup_e, cTup_1, oLst_e, cLst_1, eFz_e, cFz_1, ePtr_e, cPtr_1, oLc_e, cLc_1, eSh_e, itF_1, itF_2, itF_3, addF_1, addF_2, addF_3, intF_1, subF_1, modF_1, fdvF_1, powF_1, mulF_1, mulF_2, negF_1, ltF_1, leF_1, gtF_1, geF_1, atE_1, ixF_1, ixF_2, ixF_3, pxE_1, ixF_4, plE_1, lenF_4, eMt_e, cMt_1, eCut_e, cCut_1, cCut2_1, qNone_e, qSome_e, toI_1, cutF_1, cutF_2, cutF_3, cutF_4, eCallK_e, cK_1, cK2_1, eDic0_e, oCat_e, cCat_1, cCat2_1, cCat3_1, lsT_1, lsT_2, rcv_p, apE_1, appF_1, stL_app, set_app, stL_0, stL_k, stL_c, stL_s, set_0, set_k, shE_1, shF_1, lenF_1, lenF_2, lenF_3, absF_1, intOfF_1, intOfF_2, rng1F_1, rng2F_1, Ar_e, mkD_e, fin_1, fin_2, fin_3, few_e, tupOfF_1, tupOfF_2, tupOfF_3, lstOfF_1, lstOfF_2, lstOfF_3, isF_1, gStar_1, cIf_1, Option.isSome_some, List.length_map, List.length_append, List.append_assoc, Nat.add_assoc, slots, wpD, List.map_cons, List.map_nil, List.cons_append, List.nil_append, List.length_cons, List.length_nil, List.replicate, List.set_cons_succ, List.set_cons_zero, List.getElem?_cons_zero, List.getElem?_cons_succ, if_true, if_false, ite_true, ite_false, reduceIte, Nat.reduceAdd, Nat.reduceSub, Nat.reduceLeDiff, Nat.zero_add, Nat.sub_zero, Nat.sub_self, Bool.not_true, Bool.not_false, Bool.false_eq_true, decide_true, decide_false, Bool.true_and, Bool.and_true, Bool.or_true, Bool.true_or, Bool.false_and, Bool.and_false, Bool.or_false, Bool.false_or, decide_eq_true_eq, id_eq, Int.reduceLT, Int.reduceLE, Int.reduceNeg, Int.reduceAdd, Int.reduceSub, Int.reduceMul, Int.reduceMod, Int.reduceDiv, Int.reducePow, Int.reduceToNat, and_self, true_and, and_true, gStar_1, eqF_int, isiF_tup, isiF_lst, isiF_int, isiF_str, isiF_bl, at_0, gSet_e, seO_1, seI_1, lenF_5, addF_4, sxE_1, ixF_5, itF_4, max2F_e, min2F_e, eM1_c, cM1_1, oM1_c, cN1_1, intAnyF_b, intAnyF_s, strOfF_1, eqF_str, eqH_int, eqH_str, dvmF_1, gTwo_1, eIf_e, ce__law_is_name_1]; try rfl
theorem name_str (x : Str) (hx : x.length ≤ 1000) (S : ST) : ∃ b, d_is_name [.str x] S = some (.ok (.bl b), S) ∧ d__law_is_name [.str x] S = some (.ok (.bl b), S) := by
  have f1 : x.length ≤ 100000 := by omega
  have i1 : itF (.str x) S = some (.ok (signs x), S) := rfl
  have e1 : (((tl x).filter fun c => !abc c).map fun c => D.str ⟨#[c]⟩).isEmpty = (tl x).all abc := by rw [List.isEmpty_map, sift_all]
  have e2 : (tl x).length ≤ 100000 := by
    have : (tl x).length = x.length := (len_tl x).symm
    omega
  have e3 : ((tl x).filter fun c => !abc c).length ≤ 100000 := Nat.le_trans (List.length_filter_le _ _) e2
  by_cases h1 : 1 ≤ (x.length : Int)
  · have h1' : 0 < (x.length : Int) := by omega
    by_cases h2 : (x.length : Int) ≤ 8
    · have h2' : (x.length : Int) < 9 := by omega
      refine ⟨(tl x).all abc, ?_, ?_⟩
      · simp (config := { decide := true }) only [bd_1, bd_2, bs_1, bs_2, sq_1, sq_2, sq_3, sq_4, sq_5, vr_1, ga_1, lcE_1, sSeq_e, sAsg_e, cAsg_1, sRet_e, cRt_1, sDrop_e, cDr_1, sIf_e, cIf_t, cIf_f, sSkip_e, sBrk_e, sCnt_e, sPar_e, cPar_1, cPar2_1, sFor_e, cFor_1, gVar_e, eVar_e, eC_e, eOp_e, cOp_1, eUn_e, aNil_e, aCons_e, cA_1, cA2_1, eCall_e, oCall_e, iCall_e, iVal_e, toB_1, bVal_e, bAnd_e, cAnd_1, bOr_e, cOr_1, bNot_e, cNot_1, eAnd_e, cEAnd_1, cEAnd2_1, eOr_e, cEOr_1, cEOr2_1, eNot_e, cENot_1, cENot2_1, eIf_e, cEIf_1, eChain_e, cCh_1, cCh1_1, cCh2_1, cCh3_1, eTup_e, cTup_1, oLst_e, cLst_1, eFz_e, cFz_1, ePtr_e, cPtr_1, oLc_e, cLc_1, eSh_e, itF_1, itF_2, itF_3, addF_1, addF_2, addF_3, intF_1, subF_1, modF_1, fdvF_1, powF_1, mulF_1, mulF_2, negF_1, ltF_1, leF_1, gtF_1, geF_1, atE_1, ixF_1, ixF_2, ixF_3, pxE_1, ixF_4, plE_1, lenF_4, eMt_e, cMt_1, eCut_e, cCut_1, cCut2_1, qNone_e, qSome_e, toI_1, cutF_1, cutF_2, cutF_3, cutF_4, eCallK_e, cK_1, cK2_1, eDic0_e, oCat_e, cCat_1, cCat2_1, cCat3_1, lsT_1, lsT_2, rcv_p, apE_1, appF_1, stL_app, set_app, stL_0, stL_k, stL_c, stL_s, set_0, set_k, shE_1, shF_1, lenF_1, lenF_2, lenF_3, absF_1, intOfF_1, intOfF_2, rng1F_1, rng2F_1, Ar_e, mkD_e, fin_1, fin_2, fin_3, few_e, tupOfF_1, tupOfF_2, tupOfF_3, lstOfF_1, lstOfF_2, lstOfF_3, isF_1, gStar_1, cIf_1, Option.isSome_some, List.length_map, List.length_append, List.append_assoc, Nat.add_assoc, slots, wpD, List.map_cons, List.map_nil, List.cons_append, List.nil_append, List.length_cons, List.length_nil, List.replicate, List.set_cons_succ, List.set_cons_zero, List.getElem?_cons_zero, List.getElem?_cons_succ, if_true, if_false, ite_true, ite_false, reduceIte, Nat.reduceAdd, Nat.reduceSub, Nat.reduceLeDiff, Nat.zero_add, Nat.sub_zero, Nat.sub_self, Bool.not_true, Bool.not_false, Bool.false_eq_true, decide_true, decide_false, Bool.true_and, Bool.and_true, Bool.or_true, Bool.true_or, Bool.false_and, Bool.and_false, Bool.or_false, Bool.false_or, decide_eq_true_eq, id_eq, Int.reduceLT, Int.reduceLE, Int.reduceNeg, Int.reduceAdd, Int.reduceSub, Int.reduceMul, Int.reduceMod, Int.reduceDiv, Int.reducePow, Int.reduceToNat, and_self, true_and, and_true, gStar_1, eqF_int, isiF_tup, isiF_lst, isiF_int, isiF_str, isiF_bl, at_0, gSet_e, seO_1, seI_1, lenF_5, addF_4, sxE_1, ixF_5, itF_4, max2F_e, min2F_e, eM1_c, cM1_1, oM1_c, cN1_1, intAnyF_b, intAnyF_s, strOfF_1, eqF_str, eqH_int, eqH_str, dvmF_1, gTwo_1, eIf_e, d_is_name, b_is_name, isx_str, isaB, f1, i1, h1, h2, sg_all, allF_map, e2]
      · simp (config := { decide := true }) only [bd_1, bd_2, bs_1, bs_2, sq_1, sq_2, sq_3, sq_4, sq_5, vr_1, ga_1, lcE_1, sSeq_e, sAsg_e, cAsg_1, sRet_e, cRt_1, sDrop_e, cDr_1, sIf_e, cIf_t, cIf_f, sSkip_e, sBrk_e, sCnt_e, sPar_e, cPar_1, cPar2_1, sFor_e, cFor_1, gVar_e, eVar_e, eC_e, eOp_e, cOp_1, eUn_e, aNil_e, aCons_e, cA_1, cA2_1, eCall_e, oCall_e, iCall_e, iVal_e, toB_1, bVal_e, bAnd_e, cAnd_1, bOr_e, cOr_1, bNot_e, cNot_1, eAnd_e, cEAnd_1, cEAnd2_1, eOr_e, cEOr_1, cEOr2_1, eNot_e, cENot_1, cENot2_1, eIf_e, cEIf_1, eChain_e, cCh_1, cCh1_1, cCh2_1, cCh3_1, eTup_e, cTup_1, oLst_e, cLst_1, eFz_e, cFz_1, ePtr_e, cPtr_1, oLc_e, cLc_1, eSh_e, itF_1, itF_2, itF_3, addF_1, addF_2, addF_3, intF_1, subF_1, modF_1, fdvF_1, powF_1, mulF_1, mulF_2, negF_1, ltF_1, leF_1, gtF_1, geF_1, atE_1, ixF_1, ixF_2, ixF_3, pxE_1, ixF_4, plE_1, lenF_4, eMt_e, cMt_1, eCut_e, cCut_1, cCut2_1, qNone_e, qSome_e, toI_1, cutF_1, cutF_2, cutF_3, cutF_4, eCallK_e, cK_1, cK2_1, eDic0_e, oCat_e, cCat_1, cCat2_1, cCat3_1, lsT_1, lsT_2, rcv_p, apE_1, appF_1, stL_app, set_app, stL_0, stL_k, stL_c, stL_s, set_0, set_k, shE_1, shF_1, lenF_1, lenF_2, lenF_3, absF_1, intOfF_1, intOfF_2, rng1F_1, rng2F_1, Ar_e, mkD_e, fin_1, fin_2, fin_3, few_e, tupOfF_1, tupOfF_2, tupOfF_3, lstOfF_1, lstOfF_2, lstOfF_3, isF_1, gStar_1, cIf_1, Option.isSome_some, List.length_map, List.length_append, List.append_assoc, Nat.add_assoc, slots, wpD, List.map_cons, List.map_nil, List.cons_append, List.nil_append, List.length_cons, List.length_nil, List.replicate, List.set_cons_succ, List.set_cons_zero, List.getElem?_cons_zero, List.getElem?_cons_succ, if_true, if_false, ite_true, ite_false, reduceIte, Nat.reduceAdd, Nat.reduceSub, Nat.reduceLeDiff, Nat.zero_add, Nat.sub_zero, Nat.sub_self, Bool.not_true, Bool.not_false, Bool.false_eq_true, decide_true, decide_false, Bool.true_and, Bool.and_true, Bool.or_true, Bool.true_or, Bool.false_and, Bool.and_false, Bool.or_false, Bool.false_or, decide_eq_true_eq, id_eq, Int.reduceLT, Int.reduceLE, Int.reduceNeg, Int.reduceAdd, Int.reduceSub, Int.reduceMul, Int.reduceMod, Int.reduceDiv, Int.reducePow, Int.reduceToNat, and_self, true_and, and_true, gStar_1, eqF_int, isiF_tup, isiF_lst, isiF_int, isiF_str, isiF_bl, at_0, gSet_e, seO_1, seI_1, lenF_5, addF_4, sxE_1, ixF_5, itF_4, max2F_e, min2F_e, eM1_c, cM1_1, oM1_c, cN1_1, intAnyF_b, intAnyF_s, strOfF_1, eqF_str, eqH_int, eqH_str, dvmF_1, gTwo_1, eIf_e, d__law_is_name, b__law_is_name, isx_str, isaB, f1, i1, h1', h2', sg_not, eqN_nil, e1, e3]
    · have h2' : ¬ (x.length : Int) < 9 := by omega
      refine ⟨false, ?_, ?_⟩
      · simp (config := { decide := true }) only [bd_1, bd_2, bs_1, bs_2, sq_1, sq_2, sq_3, sq_4, sq_5, vr_1, ga_1, lcE_1, sSeq_e, sAsg_e, cAsg_1, sRet_e, cRt_1, sDrop_e, cDr_1, sIf_e, cIf_t, cIf_f, sSkip_e, sBrk_e, sCnt_e, sPar_e, cPar_1, cPar2_1, sFor_e, cFor_1, gVar_e, eVar_e, eC_e, eOp_e, cOp_1, eUn_e, aNil_e, aCons_e, cA_1, cA2_1, eCall_e, oCall_e, iCall_e, iVal_e, toB_1, bVal_e, bAnd_e, cAnd_1, bOr_e, cOr_1, bNot_e, cNot_1, eAnd_e, cEAnd_1, cEAnd2_1, eOr_e, cEOr_1, cEOr2_1, eNot_e, cENot_1, cENot2_1, eIf_e, cEIf_1, eChain_e, cCh_1, cCh1_1, cCh2_1, cCh3_1, eTup_e, cTup_1, oLst_e, cLst_1, eFz_e, cFz_1, ePtr_e, cPtr_1, oLc_e, cLc_1, eSh_e, itF_1, itF_2, itF_3, addF_1, addF_2, addF_3, intF_1, subF_1, modF_1, fdvF_1, powF_1, mulF_1, mulF_2, negF_1, ltF_1, leF_1, gtF_1, geF_1, atE_1, ixF_1, ixF_2, ixF_3, pxE_1, ixF_4, plE_1, lenF_4, eMt_e, cMt_1, eCut_e, cCut_1, cCut2_1, qNone_e, qSome_e, toI_1, cutF_1, cutF_2, cutF_3, cutF_4, eCallK_e, cK_1, cK2_1, eDic0_e, oCat_e, cCat_1, cCat2_1, cCat3_1, lsT_1, lsT_2, rcv_p, apE_1, appF_1, stL_app, set_app, stL_0, stL_k, stL_c, stL_s, set_0, set_k, shE_1, shF_1, lenF_1, lenF_2, lenF_3, absF_1, intOfF_1, intOfF_2, rng1F_1, rng2F_1, Ar_e, mkD_e, fin_1, fin_2, fin_3, few_e, tupOfF_1, tupOfF_2, tupOfF_3, lstOfF_1, lstOfF_2, lstOfF_3, isF_1, gStar_1, cIf_1, Option.isSome_some, List.length_map, List.length_append, List.append_assoc, Nat.add_assoc, slots, wpD, List.map_cons, List.map_nil, List.cons_append, List.nil_append, List.length_cons, List.length_nil, List.replicate, List.set_cons_succ, List.set_cons_zero, List.getElem?_cons_zero, List.getElem?_cons_succ, if_true, if_false, ite_true, ite_false, reduceIte, Nat.reduceAdd, Nat.reduceSub, Nat.reduceLeDiff, Nat.zero_add, Nat.sub_zero, Nat.sub_self, Bool.not_true, Bool.not_false, Bool.false_eq_true, decide_true, decide_false, Bool.true_and, Bool.and_true, Bool.or_true, Bool.true_or, Bool.false_and, Bool.and_false, Bool.or_false, Bool.false_or, decide_eq_true_eq, id_eq, Int.reduceLT, Int.reduceLE, Int.reduceNeg, Int.reduceAdd, Int.reduceSub, Int.reduceMul, Int.reduceMod, Int.reduceDiv, Int.reducePow, Int.reduceToNat, and_self, true_and, and_true, gStar_1, eqF_int, isiF_tup, isiF_lst, isiF_int, isiF_str, isiF_bl, at_0, gSet_e, seO_1, seI_1, lenF_5, addF_4, sxE_1, ixF_5, itF_4, max2F_e, min2F_e, eM1_c, cM1_1, oM1_c, cN1_1, intAnyF_b, intAnyF_s, strOfF_1, eqF_str, eqH_int, eqH_str, dvmF_1, gTwo_1, eIf_e, d_is_name, b_is_name, isx_str, isaB, f1, i1, h1, h2]
      · simp (config := { decide := true }) only [bd_1, bd_2, bs_1, bs_2, sq_1, sq_2, sq_3, sq_4, sq_5, vr_1, ga_1, lcE_1, sSeq_e, sAsg_e, cAsg_1, sRet_e, cRt_1, sDrop_e, cDr_1, sIf_e, cIf_t, cIf_f, sSkip_e, sBrk_e, sCnt_e, sPar_e, cPar_1, cPar2_1, sFor_e, cFor_1, gVar_e, eVar_e, eC_e, eOp_e, cOp_1, eUn_e, aNil_e, aCons_e, cA_1, cA2_1, eCall_e, oCall_e, iCall_e, iVal_e, toB_1, bVal_e, bAnd_e, cAnd_1, bOr_e, cOr_1, bNot_e, cNot_1, eAnd_e, cEAnd_1, cEAnd2_1, eOr_e, cEOr_1, cEOr2_1, eNot_e, cENot_1, cENot2_1, eIf_e, cEIf_1, eChain_e, cCh_1, cCh1_1, cCh2_1, cCh3_1, eTup_e, cTup_1, oLst_e, cLst_1, eFz_e, cFz_1, ePtr_e, cPtr_1, oLc_e, cLc_1, eSh_e, itF_1, itF_2, itF_3, addF_1, addF_2, addF_3, intF_1, subF_1, modF_1, fdvF_1, powF_1, mulF_1, mulF_2, negF_1, ltF_1, leF_1, gtF_1, geF_1, atE_1, ixF_1, ixF_2, ixF_3, pxE_1, ixF_4, plE_1, lenF_4, eMt_e, cMt_1, eCut_e, cCut_1, cCut2_1, qNone_e, qSome_e, toI_1, cutF_1, cutF_2, cutF_3, cutF_4, eCallK_e, cK_1, cK2_1, eDic0_e, oCat_e, cCat_1, cCat2_1, cCat3_1, lsT_1, lsT_2, rcv_p, apE_1, appF_1, stL_app, set_app, stL_0, stL_k, stL_c, stL_s, set_0, set_k, shE_1, shF_1, lenF_1, lenF_2, lenF_3, absF_1, intOfF_1, intOfF_2, rng1F_1, rng2F_1, Ar_e, mkD_e, fin_1, fin_2, fin_3, few_e, tupOfF_1, tupOfF_2, tupOfF_3, lstOfF_1, lstOfF_2, lstOfF_3, isF_1, gStar_1, cIf_1, Option.isSome_some, List.length_map, List.length_append, List.append_assoc, Nat.add_assoc, slots, wpD, List.map_cons, List.map_nil, List.cons_append, List.nil_append, List.length_cons, List.length_nil, List.replicate, List.set_cons_succ, List.set_cons_zero, List.getElem?_cons_zero, List.getElem?_cons_succ, if_true, if_false, ite_true, ite_false, reduceIte, Nat.reduceAdd, Nat.reduceSub, Nat.reduceLeDiff, Nat.zero_add, Nat.sub_zero, Nat.sub_self, Bool.not_true, Bool.not_false, Bool.false_eq_true, decide_true, decide_false, Bool.true_and, Bool.and_true, Bool.or_true, Bool.true_or, Bool.false_and, Bool.and_false, Bool.or_false, Bool.false_or, decide_eq_true_eq, id_eq, Int.reduceLT, Int.reduceLE, Int.reduceNeg, Int.reduceAdd, Int.reduceSub, Int.reduceMul, Int.reduceMod, Int.reduceDiv, Int.reducePow, Int.reduceToNat, and_self, true_and, and_true, gStar_1, eqF_int, isiF_tup, isiF_lst, isiF_int, isiF_str, isiF_bl, at_0, gSet_e, seO_1, seI_1, lenF_5, addF_4, sxE_1, ixF_5, itF_4, max2F_e, min2F_e, eM1_c, cM1_1, oM1_c, cN1_1, intAnyF_b, intAnyF_s, strOfF_1, eqF_str, eqH_int, eqH_str, dvmF_1, gTwo_1, eIf_e, d__law_is_name, b__law_is_name, isx_str, isaB, f1, i1, h1', h2']
  · have h1' : ¬ 0 < (x.length : Int) := by omega
    refine ⟨false, ?_, ?_⟩
    · simp (config := { decide := true }) only [bd_1, bd_2, bs_1, bs_2, sq_1, sq_2, sq_3, sq_4, sq_5, vr_1, ga_1, lcE_1, sSeq_e, sAsg_e, cAsg_1, sRet_e, cRt_1, sDrop_e, cDr_1, sIf_e, cIf_t, cIf_f, sSkip_e, sBrk_e, sCnt_e, sPar_e, cPar_1, cPar2_1, sFor_e, cFor_1, gVar_e, eVar_e, eC_e, eOp_e, cOp_1, eUn_e, aNil_e, aCons_e, cA_1, cA2_1, eCall_e, oCall_e, iCall_e, iVal_e, toB_1, bVal_e, bAnd_e, cAnd_1, bOr_e, cOr_1, bNot_e, cNot_1, eAnd_e, cEAnd_1, cEAnd2_1, eOr_e, cEOr_1, cEOr2_1, eNot_e, cENot_1, cENot2_1, eIf_e, cEIf_1, eChain_e, cCh_1, cCh1_1, cCh2_1, cCh3_1, eTup_e, cTup_1, oLst_e, cLst_1, eFz_e, cFz_1, ePtr_e, cPtr_1, oLc_e, cLc_1, eSh_e, itF_1, itF_2, itF_3, addF_1, addF_2, addF_3, intF_1, subF_1, modF_1, fdvF_1, powF_1, mulF_1, mulF_2, negF_1, ltF_1, leF_1, gtF_1, geF_1, atE_1, ixF_1, ixF_2, ixF_3, pxE_1, ixF_4, plE_1, lenF_4, eMt_e, cMt_1, eCut_e, cCut_1, cCut2_1, qNone_e, qSome_e, toI_1, cutF_1, cutF_2, cutF_3, cutF_4, eCallK_e, cK_1, cK2_1, eDic0_e, oCat_e, cCat_1, cCat2_1, cCat3_1, lsT_1, lsT_2, rcv_p, apE_1, appF_1, stL_app, set_app, stL_0, stL_k, stL_c, stL_s, set_0, set_k, shE_1, shF_1, lenF_1, lenF_2, lenF_3, absF_1, intOfF_1, intOfF_2, rng1F_1, rng2F_1, Ar_e, mkD_e, fin_1, fin_2, fin_3, few_e, tupOfF_1, tupOfF_2, tupOfF_3, lstOfF_1, lstOfF_2, lstOfF_3, isF_1, gStar_1, cIf_1, Option.isSome_some, List.length_map, List.length_append, List.append_assoc, Nat.add_assoc, slots, wpD, List.map_cons, List.map_nil, List.cons_append, List.nil_append, List.length_cons, List.length_nil, List.replicate, List.set_cons_succ, List.set_cons_zero, List.getElem?_cons_zero, List.getElem?_cons_succ, if_true, if_false, ite_true, ite_false, reduceIte, Nat.reduceAdd, Nat.reduceSub, Nat.reduceLeDiff, Nat.zero_add, Nat.sub_zero, Nat.sub_self, Bool.not_true, Bool.not_false, Bool.false_eq_true, decide_true, decide_false, Bool.true_and, Bool.and_true, Bool.or_true, Bool.true_or, Bool.false_and, Bool.and_false, Bool.or_false, Bool.false_or, decide_eq_true_eq, id_eq, Int.reduceLT, Int.reduceLE, Int.reduceNeg, Int.reduceAdd, Int.reduceSub, Int.reduceMul, Int.reduceMod, Int.reduceDiv, Int.reducePow, Int.reduceToNat, and_self, true_and, and_true, gStar_1, eqF_int, isiF_tup, isiF_lst, isiF_int, isiF_str, isiF_bl, at_0, gSet_e, seO_1, seI_1, lenF_5, addF_4, sxE_1, ixF_5, itF_4, max2F_e, min2F_e, eM1_c, cM1_1, oM1_c, cN1_1, intAnyF_b, intAnyF_s, strOfF_1, eqF_str, eqH_int, eqH_str, dvmF_1, gTwo_1, eIf_e, d_is_name, b_is_name, isx_str, isaB, f1, i1, h1]
    · simp (config := { decide := true }) only [bd_1, bd_2, bs_1, bs_2, sq_1, sq_2, sq_3, sq_4, sq_5, vr_1, ga_1, lcE_1, sSeq_e, sAsg_e, cAsg_1, sRet_e, cRt_1, sDrop_e, cDr_1, sIf_e, cIf_t, cIf_f, sSkip_e, sBrk_e, sCnt_e, sPar_e, cPar_1, cPar2_1, sFor_e, cFor_1, gVar_e, eVar_e, eC_e, eOp_e, cOp_1, eUn_e, aNil_e, aCons_e, cA_1, cA2_1, eCall_e, oCall_e, iCall_e, iVal_e, toB_1, bVal_e, bAnd_e, cAnd_1, bOr_e, cOr_1, bNot_e, cNot_1, eAnd_e, cEAnd_1, cEAnd2_1, eOr_e, cEOr_1, cEOr2_1, eNot_e, cENot_1, cENot2_1, eIf_e, cEIf_1, eChain_e, cCh_1, cCh1_1, cCh2_1, cCh3_1, eTup_e, cTup_1, oLst_e, cLst_1, eFz_e, cFz_1, ePtr_e, cPtr_1, oLc_e, cLc_1, eSh_e, itF_1, itF_2, itF_3, addF_1, addF_2, addF_3, intF_1, subF_1, modF_1, fdvF_1, powF_1, mulF_1, mulF_2, negF_1, ltF_1, leF_1, gtF_1, geF_1, atE_1, ixF_1, ixF_2, ixF_3, pxE_1, ixF_4, plE_1, lenF_4, eMt_e, cMt_1, eCut_e, cCut_1, cCut2_1, qNone_e, qSome_e, toI_1, cutF_1, cutF_2, cutF_3, cutF_4, eCallK_e, cK_1, cK2_1, eDic0_e, oCat_e, cCat_1, cCat2_1, cCat3_1, lsT_1, lsT_2, rcv_p, apE_1, appF_1, stL_app, set_app, stL_0, stL_k, stL_c, stL_s, set_0, set_k, shE_1, shF_1, lenF_1, lenF_2, lenF_3, absF_1, intOfF_1, intOfF_2, rng1F_1, rng2F_1, Ar_e, mkD_e, fin_1, fin_2, fin_3, few_e, tupOfF_1, tupOfF_2, tupOfF_3, lstOfF_1, lstOfF_2, lstOfF_3, isF_1, gStar_1, cIf_1, Option.isSome_some, List.length_map, List.length_append, List.append_assoc, Nat.add_assoc, slots, wpD, List.map_cons, List.map_nil, List.cons_append, List.nil_append, List.length_cons, List.length_nil, List.replicate, List.set_cons_succ, List.set_cons_zero, List.getElem?_cons_zero, List.getElem?_cons_succ, if_true, if_false, ite_true, ite_false, reduceIte, Nat.reduceAdd, Nat.reduceSub, Nat.reduceLeDiff, Nat.zero_add, Nat.sub_zero, Nat.sub_self, Bool.not_true, Bool.not_false, Bool.false_eq_true, decide_true, decide_false, Bool.true_and, Bool.and_true, Bool.or_true, Bool.true_or, Bool.false_and, Bool.and_false, Bool.or_false, Bool.false_or, decide_eq_true_eq, id_eq, Int.reduceLT, Int.reduceLE, Int.reduceNeg, Int.reduceAdd, Int.reduceSub, Int.reduceMul, Int.reduceMod, Int.reduceDiv, Int.reducePow, Int.reduceToNat, and_self, true_and, and_true, gStar_1, eqF_int, isiF_tup, isiF_lst, isiF_int, isiF_str, isiF_bl, at_0, gSet_e, seO_1, seI_1, lenF_5, addF_4, sxE_1, ixF_5, itF_4, max2F_e, min2F_e, eM1_c, cM1_1, oM1_c, cN1_1, intAnyF_b, intAnyF_s, strOfF_1, eqF_str, eqH_int, eqH_str, dvmF_1, gTwo_1, eIf_e, d__law_is_name, b__law_is_name, isx_str, isaB, f1, i1, h1']
theorem name_ok {d : D} (h : Et d = true) (hs : ∀ x, d = .str x → x.length ≤ 1000) (S : ST) : ∃ b, d_is_name [d] S = some (.ok (.bl b), S) ∧ d__law_is_name [d] S = some (.ok (.bl b), S) := by
  cases d with
  | non => refine ⟨false, ?_, ?_⟩ <;> simp (config := { decide := true }) only [bd_1, bd_2, bs_1, bs_2, sq_1, sq_2, sq_3, sq_4, sq_5, vr_1, ga_1, lcE_1, sSeq_e, sAsg_e, cAsg_1, sRet_e, cRt_1, sDrop_e, cDr_1, sIf_e, cIf_t, cIf_f, sSkip_e, sBrk_e, sCnt_e, sPar_e, cPar_1, cPar2_1, sFor_e, cFor_1, gVar_e, eVar_e, eC_e, eOp_e, cOp_1, eUn_e, aNil_e, aCons_e, cA_1, cA2_1, eCall_e, oCall_e, iCall_e, iVal_e, toB_1, bVal_e, bAnd_e, cAnd_1, bOr_e, cOr_1, bNot_e, cNot_1, eAnd_e, cEAnd_1, cEAnd2_1, eOr_e, cEOr_1, cEOr2_1, eNot_e, cENot_1, cENot2_1, eIf_e, cEIf_1, eChain_e, cCh_1, cCh1_1, cCh2_1, cCh3_1, eTup_e, cTup_1, oLst_e, cLst_1, eFz_e, cFz_1, ePtr_e, cPtr_1, oLc_e, cLc_1, eSh_e, itF_1, itF_2, itF_3, addF_1, addF_2, addF_3, intF_1, subF_1, modF_1, fdvF_1, powF_1, mulF_1, mulF_2, negF_1, ltF_1, leF_1, gtF_1, geF_1, atE_1, ixF_1, ixF_2, ixF_3, pxE_1, ixF_4, plE_1, lenF_4, eMt_e, cMt_1, eCut_e, cCut_1, cCut2_1, qNone_e, qSome_e, toI_1, cutF_1, cutF_2, cutF_3, cutF_4, eCallK_e, cK_1, cK2_1, eDic0_e, oCat_e, cCat_1, cCat2_1, cCat3_1, lsT_1, lsT_2, rcv_p, apE_1, appF_1, stL_app, set_app, stL_0, stL_k, stL_c, stL_s, set_0, set_k, shE_1, shF_1, lenF_1, lenF_2, lenF_3, absF_1, intOfF_1, intOfF_2, rng1F_1, rng2F_1, Ar_e, mkD_e, fin_1, fin_2, fin_3, few_e, tupOfF_1, tupOfF_2, tupOfF_3, lstOfF_1, lstOfF_2, lstOfF_3, isF_1, gStar_1, cIf_1, Option.isSome_some, List.length_map, List.length_append, List.append_assoc, Nat.add_assoc, slots, wpD, List.map_cons, List.map_nil, List.cons_append, List.nil_append, List.length_cons, List.length_nil, List.replicate, List.set_cons_succ, List.set_cons_zero, List.getElem?_cons_zero, List.getElem?_cons_succ, if_true, if_false, ite_true, ite_false, reduceIte, Nat.reduceAdd, Nat.reduceSub, Nat.reduceLeDiff, Nat.zero_add, Nat.sub_zero, Nat.sub_self, Bool.not_true, Bool.not_false, Bool.false_eq_true, decide_true, decide_false, Bool.true_and, Bool.and_true, Bool.or_true, Bool.true_or, Bool.false_and, Bool.and_false, Bool.or_false, Bool.false_or, decide_eq_true_eq, id_eq, Int.reduceLT, Int.reduceLE, Int.reduceNeg, Int.reduceAdd, Int.reduceSub, Int.reduceMul, Int.reduceMod, Int.reduceDiv, Int.reducePow, Int.reduceToNat, and_self, true_and, and_true, gStar_1, eqF_int, isiF_tup, isiF_lst, isiF_int, isiF_str, isiF_bl, at_0, gSet_e, seO_1, seI_1, lenF_5, addF_4, sxE_1, ixF_5, itF_4, max2F_e, min2F_e, eM1_c, cM1_1, oM1_c, cN1_1, intAnyF_b, intAnyF_s, strOfF_1, eqF_str, eqH_int, eqH_str, dvmF_1, gTwo_1, eIf_e, d_is_name, b_is_name, d__law_is_name, b__law_is_name, isx_non, isaB]
  | bl b => refine ⟨false, ?_, ?_⟩ <;> simp (config := { decide := true }) only [bd_1, bd_2, bs_1, bs_2, sq_1, sq_2, sq_3, sq_4, sq_5, vr_1, ga_1, lcE_1, sSeq_e, sAsg_e, cAsg_1, sRet_e, cRt_1, sDrop_e, cDr_1, sIf_e, cIf_t, cIf_f, sSkip_e, sBrk_e, sCnt_e, sPar_e, cPar_1, cPar2_1, sFor_e, cFor_1, gVar_e, eVar_e, eC_e, eOp_e, cOp_1, eUn_e, aNil_e, aCons_e, cA_1, cA2_1, eCall_e, oCall_e, iCall_e, iVal_e, toB_1, bVal_e, bAnd_e, cAnd_1, bOr_e, cOr_1, bNot_e, cNot_1, eAnd_e, cEAnd_1, cEAnd2_1, eOr_e, cEOr_1, cEOr2_1, eNot_e, cENot_1, cENot2_1, eIf_e, cEIf_1, eChain_e, cCh_1, cCh1_1, cCh2_1, cCh3_1, eTup_e, cTup_1, oLst_e, cLst_1, eFz_e, cFz_1, ePtr_e, cPtr_1, oLc_e, cLc_1, eSh_e, itF_1, itF_2, itF_3, addF_1, addF_2, addF_3, intF_1, subF_1, modF_1, fdvF_1, powF_1, mulF_1, mulF_2, negF_1, ltF_1, leF_1, gtF_1, geF_1, atE_1, ixF_1, ixF_2, ixF_3, pxE_1, ixF_4, plE_1, lenF_4, eMt_e, cMt_1, eCut_e, cCut_1, cCut2_1, qNone_e, qSome_e, toI_1, cutF_1, cutF_2, cutF_3, cutF_4, eCallK_e, cK_1, cK2_1, eDic0_e, oCat_e, cCat_1, cCat2_1, cCat3_1, lsT_1, lsT_2, rcv_p, apE_1, appF_1, stL_app, set_app, stL_0, stL_k, stL_c, stL_s, set_0, set_k, shE_1, shF_1, lenF_1, lenF_2, lenF_3, absF_1, intOfF_1, intOfF_2, rng1F_1, rng2F_1, Ar_e, mkD_e, fin_1, fin_2, fin_3, few_e, tupOfF_1, tupOfF_2, tupOfF_3, lstOfF_1, lstOfF_2, lstOfF_3, isF_1, gStar_1, cIf_1, Option.isSome_some, List.length_map, List.length_append, List.append_assoc, Nat.add_assoc, slots, wpD, List.map_cons, List.map_nil, List.cons_append, List.nil_append, List.length_cons, List.length_nil, List.replicate, List.set_cons_succ, List.set_cons_zero, List.getElem?_cons_zero, List.getElem?_cons_succ, if_true, if_false, ite_true, ite_false, reduceIte, Nat.reduceAdd, Nat.reduceSub, Nat.reduceLeDiff, Nat.zero_add, Nat.sub_zero, Nat.sub_self, Bool.not_true, Bool.not_false, Bool.false_eq_true, decide_true, decide_false, Bool.true_and, Bool.and_true, Bool.or_true, Bool.true_or, Bool.false_and, Bool.and_false, Bool.or_false, Bool.false_or, decide_eq_true_eq, id_eq, Int.reduceLT, Int.reduceLE, Int.reduceNeg, Int.reduceAdd, Int.reduceSub, Int.reduceMul, Int.reduceMod, Int.reduceDiv, Int.reducePow, Int.reduceToNat, and_self, true_and, and_true, gStar_1, eqF_int, isiF_tup, isiF_lst, isiF_int, isiF_str, isiF_bl, at_0, gSet_e, seO_1, seI_1, lenF_5, addF_4, sxE_1, ixF_5, itF_4, max2F_e, min2F_e, eM1_c, cM1_1, oM1_c, cN1_1, intAnyF_b, intAnyF_s, strOfF_1, eqF_str, eqH_int, eqH_str, dvmF_1, gTwo_1, eIf_e, d_is_name, b_is_name, d__law_is_name, b__law_is_name, isx_bl, isaB]
  | int b => refine ⟨false, ?_, ?_⟩ <;> simp (config := { decide := true }) only [bd_1, bd_2, bs_1, bs_2, sq_1, sq_2, sq_3, sq_4, sq_5, vr_1, ga_1, lcE_1, sSeq_e, sAsg_e, cAsg_1, sRet_e, cRt_1, sDrop_e, cDr_1, sIf_e, cIf_t, cIf_f, sSkip_e, sBrk_e, sCnt_e, sPar_e, cPar_1, cPar2_1, sFor_e, cFor_1, gVar_e, eVar_e, eC_e, eOp_e, cOp_1, eUn_e, aNil_e, aCons_e, cA_1, cA2_1, eCall_e, oCall_e, iCall_e, iVal_e, toB_1, bVal_e, bAnd_e, cAnd_1, bOr_e, cOr_1, bNot_e, cNot_1, eAnd_e, cEAnd_1, cEAnd2_1, eOr_e, cEOr_1, cEOr2_1, eNot_e, cENot_1, cENot2_1, eIf_e, cEIf_1, eChain_e, cCh_1, cCh1_1, cCh2_1, cCh3_1, eTup_e, cTup_1, oLst_e, cLst_1, eFz_e, cFz_1, ePtr_e, cPtr_1, oLc_e, cLc_1, eSh_e, itF_1, itF_2, itF_3, addF_1, addF_2, addF_3, intF_1, subF_1, modF_1, fdvF_1, powF_1, mulF_1, mulF_2, negF_1, ltF_1, leF_1, gtF_1, geF_1, atE_1, ixF_1, ixF_2, ixF_3, pxE_1, ixF_4, plE_1, lenF_4, eMt_e, cMt_1, eCut_e, cCut_1, cCut2_1, qNone_e, qSome_e, toI_1, cutF_1, cutF_2, cutF_3, cutF_4, eCallK_e, cK_1, cK2_1, eDic0_e, oCat_e, cCat_1, cCat2_1, cCat3_1, lsT_1, lsT_2, rcv_p, apE_1, appF_1, stL_app, set_app, stL_0, stL_k, stL_c, stL_s, set_0, set_k, shE_1, shF_1, lenF_1, lenF_2, lenF_3, absF_1, intOfF_1, intOfF_2, rng1F_1, rng2F_1, Ar_e, mkD_e, fin_1, fin_2, fin_3, few_e, tupOfF_1, tupOfF_2, tupOfF_3, lstOfF_1, lstOfF_2, lstOfF_3, isF_1, gStar_1, cIf_1, Option.isSome_some, List.length_map, List.length_append, List.append_assoc, Nat.add_assoc, slots, wpD, List.map_cons, List.map_nil, List.cons_append, List.nil_append, List.length_cons, List.length_nil, List.replicate, List.set_cons_succ, List.set_cons_zero, List.getElem?_cons_zero, List.getElem?_cons_succ, if_true, if_false, ite_true, ite_false, reduceIte, Nat.reduceAdd, Nat.reduceSub, Nat.reduceLeDiff, Nat.zero_add, Nat.sub_zero, Nat.sub_self, Bool.not_true, Bool.not_false, Bool.false_eq_true, decide_true, decide_false, Bool.true_and, Bool.and_true, Bool.or_true, Bool.true_or, Bool.false_and, Bool.and_false, Bool.or_false, Bool.false_or, decide_eq_true_eq, id_eq, Int.reduceLT, Int.reduceLE, Int.reduceNeg, Int.reduceAdd, Int.reduceSub, Int.reduceMul, Int.reduceMod, Int.reduceDiv, Int.reducePow, Int.reduceToNat, and_self, true_and, and_true, gStar_1, eqF_int, isiF_tup, isiF_lst, isiF_int, isiF_str, isiF_bl, at_0, gSet_e, seO_1, seI_1, lenF_5, addF_4, sxE_1, ixF_5, itF_4, max2F_e, min2F_e, eM1_c, cM1_1, oM1_c, cN1_1, intAnyF_b, intAnyF_s, strOfF_1, eqF_str, eqH_int, eqH_str, dvmF_1, gTwo_1, eIf_e, d_is_name, b_is_name, d__law_is_name, b__law_is_name, isx_int, isaB]
  | str x => exact name_str x (hs x rfl) S
  | tup b => refine ⟨false, ?_, ?_⟩ <;> simp (config := { decide := true }) only [bd_1, bd_2, bs_1, bs_2, sq_1, sq_2, sq_3, sq_4, sq_5, vr_1, ga_1, lcE_1, sSeq_e, sAsg_e, cAsg_1, sRet_e, cRt_1, sDrop_e, cDr_1, sIf_e, cIf_t, cIf_f, sSkip_e, sBrk_e, sCnt_e, sPar_e, cPar_1, cPar2_1, sFor_e, cFor_1, gVar_e, eVar_e, eC_e, eOp_e, cOp_1, eUn_e, aNil_e, aCons_e, cA_1, cA2_1, eCall_e, oCall_e, iCall_e, iVal_e, toB_1, bVal_e, bAnd_e, cAnd_1, bOr_e, cOr_1, bNot_e, cNot_1, eAnd_e, cEAnd_1, cEAnd2_1, eOr_e, cEOr_1, cEOr2_1, eNot_e, cENot_1, cENot2_1, eIf_e, cEIf_1, eChain_e, cCh_1, cCh1_1, cCh2_1, cCh3_1, eTup_e, cTup_1, oLst_e, cLst_1, eFz_e, cFz_1, ePtr_e, cPtr_1, oLc_e, cLc_1, eSh_e, itF_1, itF_2, itF_3, addF_1, addF_2, addF_3, intF_1, subF_1, modF_1, fdvF_1, powF_1, mulF_1, mulF_2, negF_1, ltF_1, leF_1, gtF_1, geF_1, atE_1, ixF_1, ixF_2, ixF_3, pxE_1, ixF_4, plE_1, lenF_4, eMt_e, cMt_1, eCut_e, cCut_1, cCut2_1, qNone_e, qSome_e, toI_1, cutF_1, cutF_2, cutF_3, cutF_4, eCallK_e, cK_1, cK2_1, eDic0_e, oCat_e, cCat_1, cCat2_1, cCat3_1, lsT_1, lsT_2, rcv_p, apE_1, appF_1, stL_app, set_app, stL_0, stL_k, stL_c, stL_s, set_0, set_k, shE_1, shF_1, lenF_1, lenF_2, lenF_3, absF_1, intOfF_1, intOfF_2, rng1F_1, rng2F_1, Ar_e, mkD_e, fin_1, fin_2, fin_3, few_e, tupOfF_1, tupOfF_2, tupOfF_3, lstOfF_1, lstOfF_2, lstOfF_3, isF_1, gStar_1, cIf_1, Option.isSome_some, List.length_map, List.length_append, List.append_assoc, Nat.add_assoc, slots, wpD, List.map_cons, List.map_nil, List.cons_append, List.nil_append, List.length_cons, List.length_nil, List.replicate, List.set_cons_succ, List.set_cons_zero, List.getElem?_cons_zero, List.getElem?_cons_succ, if_true, if_false, ite_true, ite_false, reduceIte, Nat.reduceAdd, Nat.reduceSub, Nat.reduceLeDiff, Nat.zero_add, Nat.sub_zero, Nat.sub_self, Bool.not_true, Bool.not_false, Bool.false_eq_true, decide_true, decide_false, Bool.true_and, Bool.and_true, Bool.or_true, Bool.true_or, Bool.false_and, Bool.and_false, Bool.or_false, Bool.false_or, decide_eq_true_eq, id_eq, Int.reduceLT, Int.reduceLE, Int.reduceNeg, Int.reduceAdd, Int.reduceSub, Int.reduceMul, Int.reduceMod, Int.reduceDiv, Int.reducePow, Int.reduceToNat, and_self, true_and, and_true, gStar_1, eqF_int, isiF_tup, isiF_lst, isiF_int, isiF_str, isiF_bl, at_0, gSet_e, seO_1, seI_1, lenF_5, addF_4, sxE_1, ixF_5, itF_4, max2F_e, min2F_e, eM1_c, cM1_1, oM1_c, cN1_1, intAnyF_b, intAnyF_s, strOfF_1, eqF_str, eqH_int, eqH_str, dvmF_1, gTwo_1, eIf_e, d_is_name, b_is_name, d__law_is_name, b__law_is_name, isx_tup, isaB]
  | lst b => refine ⟨false, ?_, ?_⟩ <;> simp (config := { decide := true }) only [bd_1, bd_2, bs_1, bs_2, sq_1, sq_2, sq_3, sq_4, sq_5, vr_1, ga_1, lcE_1, sSeq_e, sAsg_e, cAsg_1, sRet_e, cRt_1, sDrop_e, cDr_1, sIf_e, cIf_t, cIf_f, sSkip_e, sBrk_e, sCnt_e, sPar_e, cPar_1, cPar2_1, sFor_e, cFor_1, gVar_e, eVar_e, eC_e, eOp_e, cOp_1, eUn_e, aNil_e, aCons_e, cA_1, cA2_1, eCall_e, oCall_e, iCall_e, iVal_e, toB_1, bVal_e, bAnd_e, cAnd_1, bOr_e, cOr_1, bNot_e, cNot_1, eAnd_e, cEAnd_1, cEAnd2_1, eOr_e, cEOr_1, cEOr2_1, eNot_e, cENot_1, cENot2_1, eIf_e, cEIf_1, eChain_e, cCh_1, cCh1_1, cCh2_1, cCh3_1, eTup_e, cTup_1, oLst_e, cLst_1, eFz_e, cFz_1, ePtr_e, cPtr_1, oLc_e, cLc_1, eSh_e, itF_1, itF_2, itF_3, addF_1, addF_2, addF_3, intF_1, subF_1, modF_1, fdvF_1, powF_1, mulF_1, mulF_2, negF_1, ltF_1, leF_1, gtF_1, geF_1, atE_1, ixF_1, ixF_2, ixF_3, pxE_1, ixF_4, plE_1, lenF_4, eMt_e, cMt_1, eCut_e, cCut_1, cCut2_1, qNone_e, qSome_e, toI_1, cutF_1, cutF_2, cutF_3, cutF_4, eCallK_e, cK_1, cK2_1, eDic0_e, oCat_e, cCat_1, cCat2_1, cCat3_1, lsT_1, lsT_2, rcv_p, apE_1, appF_1, stL_app, set_app, stL_0, stL_k, stL_c, stL_s, set_0, set_k, shE_1, shF_1, lenF_1, lenF_2, lenF_3, absF_1, intOfF_1, intOfF_2, rng1F_1, rng2F_1, Ar_e, mkD_e, fin_1, fin_2, fin_3, few_e, tupOfF_1, tupOfF_2, tupOfF_3, lstOfF_1, lstOfF_2, lstOfF_3, isF_1, gStar_1, cIf_1, Option.isSome_some, List.length_map, List.length_append, List.append_assoc, Nat.add_assoc, slots, wpD, List.map_cons, List.map_nil, List.cons_append, List.nil_append, List.length_cons, List.length_nil, List.replicate, List.set_cons_succ, List.set_cons_zero, List.getElem?_cons_zero, List.getElem?_cons_succ, if_true, if_false, ite_true, ite_false, reduceIte, Nat.reduceAdd, Nat.reduceSub, Nat.reduceLeDiff, Nat.zero_add, Nat.sub_zero, Nat.sub_self, Bool.not_true, Bool.not_false, Bool.false_eq_true, decide_true, decide_false, Bool.true_and, Bool.and_true, Bool.or_true, Bool.true_or, Bool.false_and, Bool.and_false, Bool.or_false, Bool.false_or, decide_eq_true_eq, id_eq, Int.reduceLT, Int.reduceLE, Int.reduceNeg, Int.reduceAdd, Int.reduceSub, Int.reduceMul, Int.reduceMod, Int.reduceDiv, Int.reducePow, Int.reduceToNat, and_self, true_and, and_true, gStar_1, eqF_int, isiF_tup, isiF_lst, isiF_int, isiF_str, isiF_bl, at_0, gSet_e, seO_1, seI_1, lenF_5, addF_4, sxE_1, ixF_5, itF_4, max2F_e, min2F_e, eM1_c, cM1_1, oM1_c, cN1_1, intAnyF_b, intAnyF_s, strOfF_1, eqF_str, eqH_int, eqH_str, dvmF_1, gTwo_1, eIf_e, d_is_name, b_is_name, d__law_is_name, b__law_is_name, isx_lst, isaB]
  | dic b => refine ⟨false, ?_, ?_⟩ <;> simp (config := { decide := true }) only [bd_1, bd_2, bs_1, bs_2, sq_1, sq_2, sq_3, sq_4, sq_5, vr_1, ga_1, lcE_1, sSeq_e, sAsg_e, cAsg_1, sRet_e, cRt_1, sDrop_e, cDr_1, sIf_e, cIf_t, cIf_f, sSkip_e, sBrk_e, sCnt_e, sPar_e, cPar_1, cPar2_1, sFor_e, cFor_1, gVar_e, eVar_e, eC_e, eOp_e, cOp_1, eUn_e, aNil_e, aCons_e, cA_1, cA2_1, eCall_e, oCall_e, iCall_e, iVal_e, toB_1, bVal_e, bAnd_e, cAnd_1, bOr_e, cOr_1, bNot_e, cNot_1, eAnd_e, cEAnd_1, cEAnd2_1, eOr_e, cEOr_1, cEOr2_1, eNot_e, cENot_1, cENot2_1, eIf_e, cEIf_1, eChain_e, cCh_1, cCh1_1, cCh2_1, cCh3_1, eTup_e, cTup_1, oLst_e, cLst_1, eFz_e, cFz_1, ePtr_e, cPtr_1, oLc_e, cLc_1, eSh_e, itF_1, itF_2, itF_3, addF_1, addF_2, addF_3, intF_1, subF_1, modF_1, fdvF_1, powF_1, mulF_1, mulF_2, negF_1, ltF_1, leF_1, gtF_1, geF_1, atE_1, ixF_1, ixF_2, ixF_3, pxE_1, ixF_4, plE_1, lenF_4, eMt_e, cMt_1, eCut_e, cCut_1, cCut2_1, qNone_e, qSome_e, toI_1, cutF_1, cutF_2, cutF_3, cutF_4, eCallK_e, cK_1, cK2_1, eDic0_e, oCat_e, cCat_1, cCat2_1, cCat3_1, lsT_1, lsT_2, rcv_p, apE_1, appF_1, stL_app, set_app, stL_0, stL_k, stL_c, stL_s, set_0, set_k, shE_1, shF_1, lenF_1, lenF_2, lenF_3, absF_1, intOfF_1, intOfF_2, rng1F_1, rng2F_1, Ar_e, mkD_e, fin_1, fin_2, fin_3, few_e, tupOfF_1, tupOfF_2, tupOfF_3, lstOfF_1, lstOfF_2, lstOfF_3, isF_1, gStar_1, cIf_1, Option.isSome_some, List.length_map, List.length_append, List.append_assoc, Nat.add_assoc, slots, wpD, List.map_cons, List.map_nil, List.cons_append, List.nil_append, List.length_cons, List.length_nil, List.replicate, List.set_cons_succ, List.set_cons_zero, List.getElem?_cons_zero, List.getElem?_cons_succ, if_true, if_false, ite_true, ite_false, reduceIte, Nat.reduceAdd, Nat.reduceSub, Nat.reduceLeDiff, Nat.zero_add, Nat.sub_zero, Nat.sub_self, Bool.not_true, Bool.not_false, Bool.false_eq_true, decide_true, decide_false, Bool.true_and, Bool.and_true, Bool.or_true, Bool.true_or, Bool.false_and, Bool.and_false, Bool.or_false, Bool.false_or, decide_eq_true_eq, id_eq, Int.reduceLT, Int.reduceLE, Int.reduceNeg, Int.reduceAdd, Int.reduceSub, Int.reduceMul, Int.reduceMod, Int.reduceDiv, Int.reducePow, Int.reduceToNat, and_self, true_and, and_true, gStar_1, eqF_int, isiF_tup, isiF_lst, isiF_int, isiF_str, isiF_bl, at_0, gSet_e, seO_1, seI_1, lenF_5, addF_4, sxE_1, ixF_5, itF_4, max2F_e, min2F_e, eM1_c, cM1_1, oM1_c, cN1_1, intAnyF_b, intAnyF_s, strOfF_1, eqF_str, eqH_int, eqH_str, dvmF_1, gTwo_1, eIf_e, d_is_name, b_is_name, d__law_is_name, b__law_is_name, isx_dic, isaB]
  | exc c t fs => refine ⟨false, ?_, ?_⟩ <;> simp (config := { decide := true }) only [bd_1, bd_2, bs_1, bs_2, sq_1, sq_2, sq_3, sq_4, sq_5, vr_1, ga_1, lcE_1, sSeq_e, sAsg_e, cAsg_1, sRet_e, cRt_1, sDrop_e, cDr_1, sIf_e, cIf_t, cIf_f, sSkip_e, sBrk_e, sCnt_e, sPar_e, cPar_1, cPar2_1, sFor_e, cFor_1, gVar_e, eVar_e, eC_e, eOp_e, cOp_1, eUn_e, aNil_e, aCons_e, cA_1, cA2_1, eCall_e, oCall_e, iCall_e, iVal_e, toB_1, bVal_e, bAnd_e, cAnd_1, bOr_e, cOr_1, bNot_e, cNot_1, eAnd_e, cEAnd_1, cEAnd2_1, eOr_e, cEOr_1, cEOr2_1, eNot_e, cENot_1, cENot2_1, eIf_e, cEIf_1, eChain_e, cCh_1, cCh1_1, cCh2_1, cCh3_1, eTup_e, cTup_1, oLst_e, cLst_1, eFz_e, cFz_1, ePtr_e, cPtr_1, oLc_e, cLc_1, eSh_e, itF_1, itF_2, itF_3, addF_1, addF_2, addF_3, intF_1, subF_1, modF_1, fdvF_1, powF_1, mulF_1, mulF_2, negF_1, ltF_1, leF_1, gtF_1, geF_1, atE_1, ixF_1, ixF_2, ixF_3, pxE_1, ixF_4, plE_1, lenF_4, eMt_e, cMt_1, eCut_e, cCut_1, cCut2_1, qNone_e, qSome_e, toI_1, cutF_1, cutF_2, cutF_3, cutF_4, eCallK_e, cK_1, cK2_1, eDic0_e, oCat_e, cCat_1, cCat2_1, cCat3_1, lsT_1, lsT_2, rcv_p, apE_1, appF_1, stL_app, set_app, stL_0, stL_k, stL_c, stL_s, set_0, set_k, shE_1, shF_1, lenF_1, lenF_2, lenF_3, absF_1, intOfF_1, intOfF_2, rng1F_1, rng2F_1, Ar_e, mkD_e, fin_1, fin_2, fin_3, few_e, tupOfF_1, tupOfF_2, tupOfF_3, lstOfF_1, lstOfF_2, lstOfF_3, isF_1, gStar_1, cIf_1, Option.isSome_some, List.length_map, List.length_append, List.append_assoc, Nat.add_assoc, slots, wpD, List.map_cons, List.map_nil, List.cons_append, List.nil_append, List.length_cons, List.length_nil, List.replicate, List.set_cons_succ, List.set_cons_zero, List.getElem?_cons_zero, List.getElem?_cons_succ, if_true, if_false, ite_true, ite_false, reduceIte, Nat.reduceAdd, Nat.reduceSub, Nat.reduceLeDiff, Nat.zero_add, Nat.sub_zero, Nat.sub_self, Bool.not_true, Bool.not_false, Bool.false_eq_true, decide_true, decide_false, Bool.true_and, Bool.and_true, Bool.or_true, Bool.true_or, Bool.false_and, Bool.and_false, Bool.or_false, Bool.false_or, decide_eq_true_eq, id_eq, Int.reduceLT, Int.reduceLE, Int.reduceNeg, Int.reduceAdd, Int.reduceSub, Int.reduceMul, Int.reduceMod, Int.reduceDiv, Int.reducePow, Int.reduceToNat, and_self, true_and, and_true, gStar_1, eqF_int, isiF_tup, isiF_lst, isiF_int, isiF_str, isiF_bl, at_0, gSet_e, seO_1, seI_1, lenF_5, addF_4, sxE_1, ixF_5, itF_4, max2F_e, min2F_e, eM1_c, cM1_1, oM1_c, cN1_1, intAnyF_b, intAnyF_s, strOfF_1, eqF_str, eqH_int, eqH_str, dvmF_1, gTwo_1, eIf_e, d_is_name, b_is_name, d__law_is_name, b__law_is_name, isx_exc h]
  | _ => cases h
/-! lots -/
theorem lot_all (a : Option D) (ds : List D) (h : ∀ d ∈ ds, Et d = true) (S : ST) : cmD (gVar 1) bYes ce_are_lots_1 [a, none] ds S = some (ds.map fun d => D.bl (inB 0 9 d), S) := by
  refine cm_map (f := fun d => D.bl (inB 0 9 d)) _ fun d hd => ⟨_, rfl, ?_⟩
  simp (config := { decide := true }) only [bd_1, bd_2, bs_1, bs_2, sq_1, sq_2, sq_3, sq_4, sq_5, vr_1, ga_1, lcE_1, sSeq_e, sAsg_e, cAsg_1, sRet_e, cRt_1, sDrop_e, cDr_1, sIf_e, cIf_t, cIf_f, sSkip_e, sBrk_e, sCnt_e, sPar_e, cPar_1, cPar2_1, sFor_e, cFor_1, gVar_e, eVar_e, eC_e, eOp_e, cOp_1, eUn_e, aNil_e, aCons_e, cA_1, cA2_1, eCall_e, oCall_e, iCall_e, iVal_e, toB_1, bVal_e, bAnd_e, cAnd_1, bOr_e, cOr_1, bNot_e, cNot_1, eAnd_e, cEAnd_1, cEAnd2_1, eOr_e, cEOr_1, cEOr2_1, eNot_e, cENot_1, cENot2_1, eIf_e, cEIf_1, eChain_e, cCh_1, cCh1_1, cCh2_1, cCh3_1, eTup_e, cTup_1, oLst_e, cLst_1, eFz_e, cFz_1, ePtr_e, cPtr_1, oLc_e, cLc_1, eSh_e, itF_1, itF_2, itF_3, addF_1, addF_2, addF_3, intF_1, subF_1, modF_1, fdvF_1, powF_1, mulF_1, mulF_2, negF_1, ltF_1, leF_1, gtF_1, geF_1, atE_1, ixF_1, ixF_2, ixF_3, pxE_1, ixF_4, plE_1, lenF_4, eMt_e, cMt_1, eCut_e, cCut_1, cCut2_1, qNone_e, qSome_e, toI_1, cutF_1, cutF_2, cutF_3, cutF_4, eCallK_e, cK_1, cK2_1, eDic0_e, oCat_e, cCat_1, cCat2_1, cCat3_1, lsT_1, lsT_2, rcv_p, apE_1, appF_1, stL_app, set_app, stL_0, stL_k, stL_c, stL_s, set_0, set_k, shE_1, shF_1, lenF_1, lenF_2, lenF_3, absF_1, intOfF_1, intOfF_2, rng1F_1, rng2F_1, Ar_e, mkD_e, fin_1, fin_2, fin_3, few_e, tupOfF_1, tupOfF_2, tupOfF_3, lstOfF_1, lstOfF_2, lstOfF_3, isF_1, gStar_1, cIf_1, Option.isSome_some, List.length_map, List.length_append, List.append_assoc, Nat.add_assoc, slots, wpD, List.map_cons, List.map_nil, List.cons_append, List.nil_append, List.length_cons, List.length_nil, List.replicate, List.set_cons_succ, List.set_cons_zero, List.getElem?_cons_zero, List.getElem?_cons_succ, if_true, if_false, ite_true, ite_false, reduceIte, Nat.reduceAdd, Nat.reduceSub, Nat.reduceLeDiff, Nat.zero_add, Nat.sub_zero, Nat.sub_self, Bool.not_true, Bool.not_false, Bool.false_eq_true, decide_true, decide_false, Bool.true_and, Bool.and_true, Bool.or_true, Bool.true_or, Bool.false_and, Bool.and_false, Bool.or_false, Bool.false_or, decide_eq_true_eq, id_eq, Int.reduceLT, Int.reduceLE, Int.reduceNeg, Int.reduceAdd, Int.reduceSub, Int.reduceMul, Int.reduceMod, Int.reduceDiv, Int.reducePow, Int.reduceToNat, and_self, true_and, and_true, gStar_1, eqF_int, isiF_tup, isiF_lst, isiF_int, isiF_str, isiF_bl, at_0, gSet_e, seO_1, seI_1, lenF_5, addF_4, sxE_1, ixF_5, itF_4, max2F_e, min2F_e, eM1_c, cM1_1, oM1_c, cN1_1, intAnyF_b, intAnyF_s, strOfF_1, eqF_str, eqH_int, eqH_str, dvmF_1, gTwo_1, eIf_e, ce_are_lots_1, isw_ok (h d hd)]
theorem row_t {d : D} (h : Et d = true) (a : Option D) (S : ST) : ct__law_is_row_1 [a, some d] S = some (.ok (!inB 0 9 d), S) := by
  cases d with
  | int i =>
    by_cases h1 : 0 ≤ i
    · by_cases h2 : i ≤ 9
      · simp (config := { decide := true }) only [bd_1, bd_2, bs_1, bs_2, sq_1, sq_2, sq_3, sq_4, sq_5, vr_1, ga_1, lcE_1, sSeq_e, sAsg_e, cAsg_1, sRet_e, cRt_1, sDrop_e, cDr_1, sIf_e, cIf_t, cIf_f, sSkip_e, sBrk_e, sCnt_e, sPar_e, cPar_1, cPar2_1, sFor_e, cFor_1, gVar_e, eVar_e, eC_e, eOp_e, cOp_1, eUn_e, aNil_e, aCons_e, cA_1, cA2_1, eCall_e, oCall_e, iCall_e, iVal_e, toB_1, bVal_e, bAnd_e, cAnd_1, bOr_e, cOr_1, bNot_e, cNot_1, eAnd_e, cEAnd_1, cEAnd2_1, eOr_e, cEOr_1, cEOr2_1, eNot_e, cENot_1, cENot2_1, eIf_e, cEIf_1, eChain_e, cCh_1, cCh1_1, cCh2_1, cCh3_1, eTup_e, cTup_1, oLst_e, cLst_1, eFz_e, cFz_1, ePtr_e, cPtr_1, oLc_e, cLc_1, eSh_e, itF_1, itF_2, itF_3, addF_1, addF_2, addF_3, intF_1, subF_1, modF_1, fdvF_1, powF_1, mulF_1, mulF_2, negF_1, ltF_1, leF_1, gtF_1, geF_1, atE_1, ixF_1, ixF_2, ixF_3, pxE_1, ixF_4, plE_1, lenF_4, eMt_e, cMt_1, eCut_e, cCut_1, cCut2_1, qNone_e, qSome_e, toI_1, cutF_1, cutF_2, cutF_3, cutF_4, eCallK_e, cK_1, cK2_1, eDic0_e, oCat_e, cCat_1, cCat2_1, cCat3_1, lsT_1, lsT_2, rcv_p, apE_1, appF_1, stL_app, set_app, stL_0, stL_k, stL_c, stL_s, set_0, set_k, shE_1, shF_1, lenF_1, lenF_2, lenF_3, absF_1, intOfF_1, intOfF_2, rng1F_1, rng2F_1, Ar_e, mkD_e, fin_1, fin_2, fin_3, few_e, tupOfF_1, tupOfF_2, tupOfF_3, lstOfF_1, lstOfF_2, lstOfF_3, isF_1, gStar_1, cIf_1, Option.isSome_some, List.length_map, List.length_append, List.append_assoc, Nat.add_assoc, slots, wpD, List.map_cons, List.map_nil, List.cons_append, List.nil_append, List.length_cons, List.length_nil, List.replicate, List.set_cons_succ, List.set_cons_zero, List.getElem?_cons_zero, List.getElem?_cons_succ, if_true, if_false, ite_true, ite_false, reduceIte, Nat.reduceAdd, Nat.reduceSub, Nat.reduceLeDiff, Nat.zero_add, Nat.sub_zero, Nat.sub_self, Bool.not_true, Bool.not_false, Bool.false_eq_true, decide_true, decide_false, Bool.true_and, Bool.and_true, Bool.or_true, Bool.true_or, Bool.false_and, Bool.and_false, Bool.or_false, Bool.false_or, decide_eq_true_eq, id_eq, Int.reduceLT, Int.reduceLE, Int.reduceNeg, Int.reduceAdd, Int.reduceSub, Int.reduceMul, Int.reduceMod, Int.reduceDiv, Int.reducePow, Int.reduceToNat, and_self, true_and, and_true, gStar_1, eqF_int, isiF_tup, isiF_lst, isiF_int, isiF_str, isiF_bl, at_0, gSet_e, seO_1, seI_1, lenF_5, addF_4, sxE_1, ixF_5, itF_4, max2F_e, min2F_e, eM1_c, cM1_1, oM1_c, cN1_1, intAnyF_b, intAnyF_s, strOfF_1, eqF_str, eqH_int, eqH_str, dvmF_1, gTwo_1, eIf_e, ct__law_is_row_1, whole_ok h, isI, inB, h1, h2]
      · simp (config := { decide := true }) only [bd_1, bd_2, bs_1, bs_2, sq_1, sq_2, sq_3, sq_4, sq_5, vr_1, ga_1, lcE_1, sSeq_e, sAsg_e, cAsg_1, sRet_e, cRt_1, sDrop_e, cDr_1, sIf_e, cIf_t, cIf_f, sSkip_e, sBrk_e, sCnt_e, sPar_e, cPar_1, cPar2_1, sFor_e, cFor_1, gVar_e, eVar_e, eC_e, eOp_e, cOp_1, eUn_e, aNil_e, aCons_e, cA_1, cA2_1, eCall_e, oCall_e, iCall_e, iVal_e, toB_1, bVal_e, bAnd_e, cAnd_1, bOr_e, cOr_1, bNot_e, cNot_1, eAnd_e, cEAnd_1, cEAnd2_1, eOr_e, cEOr_1, cEOr2_1, eNot_e, cENot_1, cENot2_1, eIf_e, cEIf_1, eChain_e, cCh_1, cCh1_1, cCh2_1, cCh3_1, eTup_e, cTup_1, oLst_e, cLst_1, eFz_e, cFz_1, ePtr_e, cPtr_1, oLc_e, cLc_1, eSh_e, itF_1, itF_2, itF_3, addF_1, addF_2, addF_3, intF_1, subF_1, modF_1, fdvF_1, powF_1, mulF_1, mulF_2, negF_1, ltF_1, leF_1, gtF_1, geF_1, atE_1, ixF_1, ixF_2, ixF_3, pxE_1, ixF_4, plE_1, lenF_4, eMt_e, cMt_1, eCut_e, cCut_1, cCut2_1, qNone_e, qSome_e, toI_1, cutF_1, cutF_2, cutF_3, cutF_4, eCallK_e, cK_1, cK2_1, eDic0_e, oCat_e, cCat_1, cCat2_1, cCat3_1, lsT_1, lsT_2, rcv_p, apE_1, appF_1, stL_app, set_app, stL_0, stL_k, stL_c, stL_s, set_0, set_k, shE_1, shF_1, lenF_1, lenF_2, lenF_3, absF_1, intOfF_1, intOfF_2, rng1F_1, rng2F_1, Ar_e, mkD_e, fin_1, fin_2, fin_3, few_e, tupOfF_1, tupOfF_2, tupOfF_3, lstOfF_1, lstOfF_2, lstOfF_3, isF_1, gStar_1, cIf_1, Option.isSome_some, List.length_map, List.length_append, List.append_assoc, Nat.add_assoc, slots, wpD, List.map_cons, List.map_nil, List.cons_append, List.nil_append, List.length_cons, List.length_nil, List.replicate, List.set_cons_succ, List.set_cons_zero, List.getElem?_cons_zero, List.getElem?_cons_succ, if_true, if_false, ite_true, ite_false, reduceIte, Nat.reduceAdd, Nat.reduceSub, Nat.reduceLeDiff, Nat.zero_add, Nat.sub_zero, Nat.sub_self, Bool.not_true, Bool.not_false, Bool.false_eq_true, decide_true, decide_false, Bool.true_and, Bool.and_true, Bool.or_true, Bool.true_or, Bool.false_and, Bool.and_false, Bool.or_false, Bool.false_or, decide_eq_true_eq, id_eq, Int.reduceLT, Int.reduceLE, Int.reduceNeg, Int.reduceAdd, Int.reduceSub, Int.reduceMul, Int.reduceMod, Int.reduceDiv, Int.reducePow, Int.reduceToNat, and_self, true_and, and_true, gStar_1, eqF_int, isiF_tup, isiF_lst, isiF_int, isiF_str, isiF_bl, at_0, gSet_e, seO_1, seI_1, lenF_5, addF_4, sxE_1, ixF_5, itF_4, max2F_e, min2F_e, eM1_c, cM1_1, oM1_c, cN1_1, intAnyF_b, intAnyF_s, strOfF_1, eqF_str, eqH_int, eqH_str, dvmF_1, gTwo_1, eIf_e, ct__law_is_row_1, whole_ok h, isI, inB, h1, h2]
    · simp (config := { decide := true }) only [bd_1, bd_2, bs_1, bs_2, sq_1, sq_2, sq_3, sq_4, sq_5, vr_1, ga_1, lcE_1, sSeq_e, sAsg_e, cAsg_1, sRet_e, cRt_1, sDrop_e, cDr_1, sIf_e, cIf_t, cIf_f, sSkip_e, sBrk_e, sCnt_e, sPar_e, cPar_1, cPar2_1, sFor_e, cFor_1, gVar_e, eVar_e, eC_e, eOp_e, cOp_1, eUn_e, aNil_e, aCons_e, cA_1, cA2_1, eCall_e, oCall_e, iCall_e, iVal_e, toB_1, bVal_e, bAnd_e, cAnd_1, bOr_e, cOr_1, bNot_e, cNot_1, eAnd_e, cEAnd_1, cEAnd2_1, eOr_e, cEOr_1, cEOr2_1, eNot_e, cENot_1, cENot2_1, eIf_e, cEIf_1, eChain_e, cCh_1, cCh1_1, cCh2_1, cCh3_1, eTup_e, cTup_1, oLst_e, cLst_1, eFz_e, cFz_1, ePtr_e, cPtr_1, oLc_e, cLc_1, eSh_e, itF_1, itF_2, itF_3, addF_1, addF_2, addF_3, intF_1, subF_1, modF_1, fdvF_1, powF_1, mulF_1, mulF_2, negF_1, ltF_1, leF_1, gtF_1, geF_1, atE_1, ixF_1, ixF_2, ixF_3, pxE_1, ixF_4, plE_1, lenF_4, eMt_e, cMt_1, eCut_e, cCut_1, cCut2_1, qNone_e, qSome_e, toI_1, cutF_1, cutF_2, cutF_3, cutF_4, eCallK_e, cK_1, cK2_1, eDic0_e, oCat_e, cCat_1, cCat2_1, cCat3_1, lsT_1, lsT_2, rcv_p, apE_1, appF_1, stL_app, set_app, stL_0, stL_k, stL_c, stL_s, set_0, set_k, shE_1, shF_1, lenF_1, lenF_2, lenF_3, absF_1, intOfF_1, intOfF_2, rng1F_1, rng2F_1, Ar_e, mkD_e, fin_1, fin_2, fin_3, few_e, tupOfF_1, tupOfF_2, tupOfF_3, lstOfF_1, lstOfF_2, lstOfF_3, isF_1, gStar_1, cIf_1, Option.isSome_some, List.length_map, List.length_append, List.append_assoc, Nat.add_assoc, slots, wpD, List.map_cons, List.map_nil, List.cons_append, List.nil_append, List.length_cons, List.length_nil, List.replicate, List.set_cons_succ, List.set_cons_zero, List.getElem?_cons_zero, List.getElem?_cons_succ, if_true, if_false, ite_true, ite_false, reduceIte, Nat.reduceAdd, Nat.reduceSub, Nat.reduceLeDiff, Nat.zero_add, Nat.sub_zero, Nat.sub_self, Bool.not_true, Bool.not_false, Bool.false_eq_true, decide_true, decide_false, Bool.true_and, Bool.and_true, Bool.or_true, Bool.true_or, Bool.false_and, Bool.and_false, Bool.or_false, Bool.false_or, decide_eq_true_eq, id_eq, Int.reduceLT, Int.reduceLE, Int.reduceNeg, Int.reduceAdd, Int.reduceSub, Int.reduceMul, Int.reduceMod, Int.reduceDiv, Int.reducePow, Int.reduceToNat, and_self, true_and, and_true, gStar_1, eqF_int, isiF_tup, isiF_lst, isiF_int, isiF_str, isiF_bl, at_0, gSet_e, seO_1, seI_1, lenF_5, addF_4, sxE_1, ixF_5, itF_4, max2F_e, min2F_e, eM1_c, cM1_1, oM1_c, cN1_1, intAnyF_b, intAnyF_s, strOfF_1, eqF_str, eqH_int, eqH_str, dvmF_1, gTwo_1, eIf_e, ct__law_is_row_1, whole_ok h, isI, inB, h1]
  | _ => simp (config := { decide := true }) only [bd_1, bd_2, bs_1, bs_2, sq_1, sq_2, sq_3, sq_4, sq_5, vr_1, ga_1, lcE_1, sSeq_e, sAsg_e, cAsg_1, sRet_e, cRt_1, sDrop_e, cDr_1, sIf_e, cIf_t, cIf_f, sSkip_e, sBrk_e, sCnt_e, sPar_e, cPar_1, cPar2_1, sFor_e, cFor_1, gVar_e, eVar_e, eC_e, eOp_e, cOp_1, eUn_e, aNil_e, aCons_e, cA_1, cA2_1, eCall_e, oCall_e, iCall_e, iVal_e, toB_1, bVal_e, bAnd_e, cAnd_1, bOr_e, cOr_1, bNot_e, cNot_1, eAnd_e, cEAnd_1, cEAnd2_1, eOr_e, cEOr_1, cEOr2_1, eNot_e, cENot_1, cENot2_1, eIf_e, cEIf_1, eChain_e, cCh_1, cCh1_1, cCh2_1, cCh3_1, eTup_e, cTup_1, oLst_e, cLst_1, eFz_e, cFz_1, ePtr_e, cPtr_1, oLc_e, cLc_1, eSh_e, itF_1, itF_2, itF_3, addF_1, addF_2, addF_3, intF_1, subF_1, modF_1, fdvF_1, powF_1, mulF_1, mulF_2, negF_1, ltF_1, leF_1, gtF_1, geF_1, atE_1, ixF_1, ixF_2, ixF_3, pxE_1, ixF_4, plE_1, lenF_4, eMt_e, cMt_1, eCut_e, cCut_1, cCut2_1, qNone_e, qSome_e, toI_1, cutF_1, cutF_2, cutF_3, cutF_4, eCallK_e, cK_1, cK2_1, eDic0_e, oCat_e, cCat_1, cCat2_1, cCat3_1, lsT_1, lsT_2, rcv_p, apE_1, appF_1, stL_app, set_app, stL_0, stL_k, stL_c, stL_s, set_0, set_k, shE_1, shF_1, lenF_1, lenF_2, lenF_3, absF_1, intOfF_1, intOfF_2, rng1F_1, rng2F_1, Ar_e, mkD_e, fin_1, fin_2, fin_3, few_e, tupOfF_1, tupOfF_2, tupOfF_3, lstOfF_1, lstOfF_2, lstOfF_3, isF_1, gStar_1, cIf_1, Option.isSome_some, List.length_map, List.length_append, List.append_assoc, Nat.add_assoc, slots, wpD, List.map_cons, List.map_nil, List.cons_append, List.nil_append, List.length_cons, List.length_nil, List.replicate, List.set_cons_succ, List.set_cons_zero, List.getElem?_cons_zero, List.getElem?_cons_succ, if_true, if_false, ite_true, ite_false, reduceIte, Nat.reduceAdd, Nat.reduceSub, Nat.reduceLeDiff, Nat.zero_add, Nat.sub_zero, Nat.sub_self, Bool.not_true, Bool.not_false, Bool.false_eq_true, decide_true, decide_false, Bool.true_and, Bool.and_true, Bool.or_true, Bool.true_or, Bool.false_and, Bool.and_false, Bool.or_false, Bool.false_or, decide_eq_true_eq, id_eq, Int.reduceLT, Int.reduceLE, Int.reduceNeg, Int.reduceAdd, Int.reduceSub, Int.reduceMul, Int.reduceMod, Int.reduceDiv, Int.reducePow, Int.reduceToNat, and_self, true_and, and_true, gStar_1, eqF_int, isiF_tup, isiF_lst, isiF_int, isiF_str, isiF_bl, at_0, gSet_e, seO_1, seI_1, lenF_5, addF_4, sxE_1, ixF_5, itF_4, max2F_e, min2F_e, eM1_c, cM1_1, oM1_c, cN1_1, intAnyF_b, intAnyF_s, strOfF_1, eqF_str, eqH_int, eqH_str, dvmF_1, gTwo_1, eIf_e, ct__law_is_row_1, whole_ok h, isI, inB]
theorem row_not (a : Option D) (ds : List D) (h : ∀ d ∈ ds, Et d = true) (S : ST) : cmD (gVar 1) ct__law_is_row_1 ce__law_is_row_1 [a, none] ds S = some (ds.filter fun d => !inB 0 9 d, S) := by
  rw [cm_sift (f := id) (c := fun d => !inB 0 9 d) _ fun d hd => ⟨[a, some d], rfl, row_t (h d hd) a S, by simp (config := { decide := true }) only [bd_1, bd_2, bs_1, bs_2, sq_1, sq_2, sq_3, sq_4, sq_5, vr_1, ga_1, lcE_1, sSeq_e, sAsg_e, cAsg_1, sRet_e, cRt_1, sDrop_e, cDr_1, sIf_e, cIf_t, cIf_f, sSkip_e, sBrk_e, sCnt_e, sPar_e, cPar_1, cPar2_1, sFor_e, cFor_1, gVar_e, eVar_e, eC_e, eOp_e, cOp_1, eUn_e, aNil_e, aCons_e, cA_1, cA2_1, eCall_e, oCall_e, iCall_e, iVal_e, toB_1, bVal_e, bAnd_e, cAnd_1, bOr_e, cOr_1, bNot_e, cNot_1, eAnd_e, cEAnd_1, cEAnd2_1, eOr_e, cEOr_1, cEOr2_1, eNot_e, cENot_1, cENot2_1, eIf_e, cEIf_1, eChain_e, cCh_1, cCh1_1, cCh2_1, cCh3_1, eTup_e, cTup_1, oLst_e, cLst_1, eFz_e, cFz_1, ePtr_e, cPtr_1, oLc_e, cLc_1, eSh_e, itF_1, itF_2, itF_3, addF_1, addF_2, addF_3, intF_1, subF_1, modF_1, fdvF_1, powF_1, mulF_1, mulF_2, negF_1, ltF_1, leF_1, gtF_1, geF_1, atE_1, ixF_1, ixF_2, ixF_3, pxE_1, ixF_4, plE_1, lenF_4, eMt_e, cMt_1, eCut_e, cCut_1, cCut2_1, qNone_e, qSome_e, toI_1, cutF_1, cutF_2, cutF_3, cutF_4, eCallK_e, cK_1, cK2_1, eDic0_e, oCat_e, cCat_1, cCat2_1, cCat3_1, lsT_1, lsT_2, rcv_p, apE_1, appF_1, stL_app, set_app, stL_0, stL_k, stL_c, stL_s, set_0, set_k, shE_1, shF_1, lenF_1, lenF_2, lenF_3, absF_1, intOfF_1, intOfF_2, rng1F_1, rng2F_1, Ar_e, mkD_e, fin_1, fin_2, fin_3, few_e, tupOfF_1, tupOfF_2, tupOfF_3, lstOfF_1, lstOfF_2, lstOfF_3, isF_1, gStar_1, cIf_1, Option.isSome_some, List.length_map, List.length_append, List.append_assoc, Nat.add_assoc, slots, wpD, List.map_cons, List.map_nil, List.cons_append, List.nil_append, List.length_cons, List.length_nil, List.replicate, List.set_cons_succ, List.set_cons_zero, List.getElem?_cons_zero, List.getElem?_cons_succ, if_true, if_false, ite_true, ite_false, reduceIte, Nat.reduceAdd, Nat.reduceSub, Nat.reduceLeDiff, Nat.zero_add, Nat.sub_zero, Nat.sub_self, Bool.not_true, Bool.not_false, Bool.false_eq_true, decide_true, decide_false, Bool.true_and, Bool.and_true, Bool.or_true, Bool.true_or, Bool.false_and, Bool.and_false, Bool.or_false, Bool.false_or, decide_eq_true_eq, id_eq, Int.reduceLT, Int.reduceLE, Int.reduceNeg, Int.reduceAdd, Int.reduceSub, Int.reduceMul, Int.reduceMod, Int.reduceDiv, Int.reducePow, Int.reduceToNat, and_self, true_and, and_true, gStar_1, eqF_int, isiF_tup, isiF_lst, isiF_int, isiF_str, isiF_bl, at_0, gSet_e, seO_1, seI_1, lenF_5, addF_4, sxE_1, ixF_5, itF_4, max2F_e, min2F_e, eM1_c, cM1_1, oM1_c, cN1_1, intAnyF_b, intAnyF_s, strOfF_1, eqF_str, eqH_int, eqH_str, dvmF_1, gTwo_1, eIf_e, ce__law_is_row_1]; try rfl⟩]
  rw [List.map_id]
theorem seq_ok {d : D} {ds : List D} (hd : d = .lst ds ∨ d = .tup ds) (h : ∀ d ∈ ds, Et d = true) (hl : ds.length ≤ 1000) (S : ST) : ∃ b, d_are_lots [d] S = some (.ok (.bl b), S) ∧ d__law_is_row [d] S = some (.ok (.bl b), S) := by
  have f1 : ds.length ≤ 100000 := by omega
  have f2 : (ds.filter fun d => !inB 0 9 d).length ≤ 100000 := by
    have := List.length_filter_le (fun d => !inB 0 9 d) ds
    omega
  by_cases h1 : (ds.length : Int) > 20
  · refine ⟨false, ?_, ?_⟩
    · rcases hd with rfl | rfl
      · simp (config := { decide := true }) only [bd_1, bd_2, bs_1, bs_2, sq_1, sq_2, sq_3, sq_4, sq_5, vr_1, ga_1, lcE_1, sSeq_e, sAsg_e, cAsg_1, sRet_e, cRt_1, sDrop_e, cDr_1, sIf_e, cIf_t, cIf_f, sSkip_e, sBrk_e, sCnt_e, sPar_e, cPar_1, cPar2_1, sFor_e, cFor_1, gVar_e, eVar_e, eC_e, eOp_e, cOp_1, eUn_e, aNil_e, aCons_e, cA_1, cA2_1, eCall_e, oCall_e, iCall_e, iVal_e, toB_1, bVal_e, bAnd_e, cAnd_1, bOr_e, cOr_1, bNot_e, cNot_1, eAnd_e, cEAnd_1, cEAnd2_1, eOr_e, cEOr_1, cEOr2_1, eNot_e, cENot_1, cENot2_1, eIf_e, cEIf_1, eChain_e, cCh_1, cCh1_1, cCh2_1, cCh3_1, eTup_e, cTup_1, oLst_e, cLst_1, eFz_e, cFz_1, ePtr_e, cPtr_1, oLc_e, cLc_1, eSh_e, itF_1, itF_2, itF_3, addF_1, addF_2, addF_3, intF_1, subF_1, modF_1, fdvF_1, powF_1, mulF_1, mulF_2, negF_1, ltF_1, leF_1, gtF_1, geF_1, atE_1, ixF_1, ixF_2, ixF_3, pxE_1, ixF_4, plE_1, lenF_4, eMt_e, cMt_1, eCut_e, cCut_1, cCut2_1, qNone_e, qSome_e, toI_1, cutF_1, cutF_2, cutF_3, cutF_4, eCallK_e, cK_1, cK2_1, eDic0_e, oCat_e, cCat_1, cCat2_1, cCat3_1, lsT_1, lsT_2, rcv_p, apE_1, appF_1, stL_app, set_app, stL_0, stL_k, stL_c, stL_s, set_0, set_k, shE_1, shF_1, lenF_1, lenF_2, lenF_3, absF_1, intOfF_1, intOfF_2, rng1F_1, rng2F_1, Ar_e, mkD_e, fin_1, fin_2, fin_3, few_e, tupOfF_1, tupOfF_2, tupOfF_3, lstOfF_1, lstOfF_2, lstOfF_3, isF_1, gStar_1, cIf_1, Option.isSome_some, List.length_map, List.length_append, List.append_assoc, Nat.add_assoc, slots, wpD, List.map_cons, List.map_nil, List.cons_append, List.nil_append, List.length_cons, List.length_nil, List.replicate, List.set_cons_succ, List.set_cons_zero, List.getElem?_cons_zero, List.getElem?_cons_succ, if_true, if_false, ite_true, ite_false, reduceIte, Nat.reduceAdd, Nat.reduceSub, Nat.reduceLeDiff, Nat.zero_add, Nat.sub_zero, Nat.sub_self, Bool.not_true, Bool.not_false, Bool.false_eq_true, decide_true, decide_false, Bool.true_and, Bool.and_true, Bool.or_true, Bool.true_or, Bool.false_and, Bool.and_false, Bool.or_false, Bool.false_or, decide_eq_true_eq, id_eq, Int.reduceLT, Int.reduceLE, Int.reduceNeg, Int.reduceAdd, Int.reduceSub, Int.reduceMul, Int.reduceMod, Int.reduceDiv, Int.reducePow, Int.reduceToNat, and_self, true_and, and_true, gStar_1, eqF_int, isiF_tup, isiF_lst, isiF_int, isiF_str, isiF_bl, at_0, gSet_e, seO_1, seI_1, lenF_5, addF_4, sxE_1, ixF_5, itF_4, max2F_e, min2F_e, eM1_c, cM1_1, oM1_c, cN1_1, intAnyF_b, intAnyF_s, strOfF_1, eqF_str, eqH_int, eqH_str, dvmF_1, gTwo_1, eIf_e, d_are_lots, b_are_lots, isx_lst, isaB, h1]
      · simp (config := { decide := true }) only [bd_1, bd_2, bs_1, bs_2, sq_1, sq_2, sq_3, sq_4, sq_5, vr_1, ga_1, lcE_1, sSeq_e, sAsg_e, cAsg_1, sRet_e, cRt_1, sDrop_e, cDr_1, sIf_e, cIf_t, cIf_f, sSkip_e, sBrk_e, sCnt_e, sPar_e, cPar_1, cPar2_1, sFor_e, cFor_1, gVar_e, eVar_e, eC_e, eOp_e, cOp_1, eUn_e, aNil_e, aCons_e, cA_1, cA2_1, eCall_e, oCall_e, iCall_e, iVal_e, toB_1, bVal_e, bAnd_e, cAnd_1, bOr_e, cOr_1, bNot_e, cNot_1, eAnd_e, cEAnd_1, cEAnd2_1, eOr_e, cEOr_1, cEOr2_1, eNot_e, cENot_1, cENot2_1, eIf_e, cEIf_1, eChain_e, cCh_1, cCh1_1, cCh2_1, cCh3_1, eTup_e, cTup_1, oLst_e, cLst_1, eFz_e, cFz_1, ePtr_e, cPtr_1, oLc_e, cLc_1, eSh_e, itF_1, itF_2, itF_3, addF_1, addF_2, addF_3, intF_1, subF_1, modF_1, fdvF_1, powF_1, mulF_1, mulF_2, negF_1, ltF_1, leF_1, gtF_1, geF_1, atE_1, ixF_1, ixF_2, ixF_3, pxE_1, ixF_4, plE_1, lenF_4, eMt_e, cMt_1, eCut_e, cCut_1, cCut2_1, qNone_e, qSome_e, toI_1, cutF_1, cutF_2, cutF_3, cutF_4, eCallK_e, cK_1, cK2_1, eDic0_e, oCat_e, cCat_1, cCat2_1, cCat3_1, lsT_1, lsT_2, rcv_p, apE_1, appF_1, stL_app, set_app, stL_0, stL_k, stL_c, stL_s, set_0, set_k, shE_1, shF_1, lenF_1, lenF_2, lenF_3, absF_1, intOfF_1, intOfF_2, rng1F_1, rng2F_1, Ar_e, mkD_e, fin_1, fin_2, fin_3, few_e, tupOfF_1, tupOfF_2, tupOfF_3, lstOfF_1, lstOfF_2, lstOfF_3, isF_1, gStar_1, cIf_1, Option.isSome_some, List.length_map, List.length_append, List.append_assoc, Nat.add_assoc, slots, wpD, List.map_cons, List.map_nil, List.cons_append, List.nil_append, List.length_cons, List.length_nil, List.replicate, List.set_cons_succ, List.set_cons_zero, List.getElem?_cons_zero, List.getElem?_cons_succ, if_true, if_false, ite_true, ite_false, reduceIte, Nat.reduceAdd, Nat.reduceSub, Nat.reduceLeDiff, Nat.zero_add, Nat.sub_zero, Nat.sub_self, Bool.not_true, Bool.not_false, Bool.false_eq_true, decide_true, decide_false, Bool.true_and, Bool.and_true, Bool.or_true, Bool.true_or, Bool.false_and, Bool.and_false, Bool.or_false, Bool.false_or, decide_eq_true_eq, id_eq, Int.reduceLT, Int.reduceLE, Int.reduceNeg, Int.reduceAdd, Int.reduceSub, Int.reduceMul, Int.reduceMod, Int.reduceDiv, Int.reducePow, Int.reduceToNat, and_self, true_and, and_true, gStar_1, eqF_int, isiF_tup, isiF_lst, isiF_int, isiF_str, isiF_bl, at_0, gSet_e, seO_1, seI_1, lenF_5, addF_4, sxE_1, ixF_5, itF_4, max2F_e, min2F_e, eM1_c, cM1_1, oM1_c, cN1_1, intAnyF_b, intAnyF_s, strOfF_1, eqF_str, eqH_int, eqH_str, dvmF_1, gTwo_1, eIf_e, d_are_lots, b_are_lots, isx_tup, isaB, h1]
    · rcases hd with rfl | rfl
      · simp (config := { decide := true }) only [bd_1, bd_2, bs_1, bs_2, sq_1, sq_2, sq_3, sq_4, sq_5, vr_1, ga_1, lcE_1, sSeq_e, sAsg_e, cAsg_1, sRet_e, cRt_1, sDrop_e, cDr_1, sIf_e, cIf_t, cIf_f, sSkip_e, sBrk_e, sCnt_e, sPar_e, cPar_1, cPar2_1, sFor_e, cFor_1, gVar_e, eVar_e, eC_e, eOp_e, cOp_1, eUn_e, aNil_e, aCons_e, cA_1, cA2_1, eCall_e, oCall_e, iCall_e, iVal_e, toB_1, bVal_e, bAnd_e, cAnd_1, bOr_e, cOr_1, bNot_e, cNot_1, eAnd_e, cEAnd_1, cEAnd2_1, eOr_e, cEOr_1, cEOr2_1, eNot_e, cENot_1, cENot2_1, eIf_e, cEIf_1, eChain_e, cCh_1, cCh1_1, cCh2_1, cCh3_1, eTup_e, cTup_1, oLst_e, cLst_1, eFz_e, cFz_1, ePtr_e, cPtr_1, oLc_e, cLc_1, eSh_e, itF_1, itF_2, itF_3, addF_1, addF_2, addF_3, intF_1, subF_1, modF_1, fdvF_1, powF_1, mulF_1, mulF_2, negF_1, ltF_1, leF_1, gtF_1, geF_1, atE_1, ixF_1, ixF_2, ixF_3, pxE_1, ixF_4, plE_1, lenF_4, eMt_e, cMt_1, eCut_e, cCut_1, cCut2_1, qNone_e, qSome_e, toI_1, cutF_1, cutF_2, cutF_3, cutF_4, eCallK_e, cK_1, cK2_1, eDic0_e, oCat_e, cCat_1, cCat2_1, cCat3_1, lsT_1, lsT_2, rcv_p, apE_1, appF_1, stL_app, set_app, stL_0, stL_k, stL_c, stL_s, set_0, set_k, shE_1, shF_1, lenF_1, lenF_2, lenF_3, absF_1, intOfF_1, intOfF_2, rng1F_1, rng2F_1, Ar_e, mkD_e, fin_1, fin_2, fin_3, few_e, tupOfF_1, tupOfF_2, tupOfF_3, lstOfF_1, lstOfF_2, lstOfF_3, isF_1, gStar_1, cIf_1, Option.isSome_some, List.length_map, List.length_append, List.append_assoc, Nat.add_assoc, slots, wpD, List.map_cons, List.map_nil, List.cons_append, List.nil_append, List.length_cons, List.length_nil, List.replicate, List.set_cons_succ, List.set_cons_zero, List.getElem?_cons_zero, List.getElem?_cons_succ, if_true, if_false, ite_true, ite_false, reduceIte, Nat.reduceAdd, Nat.reduceSub, Nat.reduceLeDiff, Nat.zero_add, Nat.sub_zero, Nat.sub_self, Bool.not_true, Bool.not_false, Bool.false_eq_true, decide_true, decide_false, Bool.true_and, Bool.and_true, Bool.or_true, Bool.true_or, Bool.false_and, Bool.and_false, Bool.or_false, Bool.false_or, decide_eq_true_eq, id_eq, Int.reduceLT, Int.reduceLE, Int.reduceNeg, Int.reduceAdd, Int.reduceSub, Int.reduceMul, Int.reduceMod, Int.reduceDiv, Int.reducePow, Int.reduceToNat, and_self, true_and, and_true, gStar_1, eqF_int, isiF_tup, isiF_lst, isiF_int, isiF_str, isiF_bl, at_0, gSet_e, seO_1, seI_1, lenF_5, addF_4, sxE_1, ixF_5, itF_4, max2F_e, min2F_e, eM1_c, cM1_1, oM1_c, cN1_1, intAnyF_b, intAnyF_s, strOfF_1, eqF_str, eqH_int, eqH_str, dvmF_1, gTwo_1, eIf_e, d__law_is_row, b__law_is_row, isx_lst, isaB, h1]
      · simp (config := { decide := true }) only [bd_1, bd_2, bs_1, bs_2, sq_1, sq_2, sq_3, sq_4, sq_5, vr_1, ga_1, lcE_1, sSeq_e, sAsg_e, cAsg_1, sRet_e, cRt_1, sDrop_e, cDr_1, sIf_e, cIf_t, cIf_f, sSkip_e, sBrk_e, sCnt_e, sPar_e, cPar_1, cPar2_1, sFor_e, cFor_1, gVar_e, eVar_e, eC_e, eOp_e, cOp_1, eUn_e, aNil_e, aCons_e, cA_1, cA2_1, eCall_e, oCall_e, iCall_e, iVal_e, toB_1, bVal_e, bAnd_e, cAnd_1, bOr_e, cOr_1, bNot_e, cNot_1, eAnd_e, cEAnd_1, cEAnd2_1, eOr_e, cEOr_1, cEOr2_1, eNot_e, cENot_1, cENot2_1, eIf_e, cEIf_1, eChain_e, cCh_1, cCh1_1, cCh2_1, cCh3_1, eTup_e, cTup_1, oLst_e, cLst_1, eFz_e, cFz_1, ePtr_e, cPtr_1, oLc_e, cLc_1, eSh_e, itF_1, itF_2, itF_3, addF_1, addF_2, addF_3, intF_1, subF_1, modF_1, fdvF_1, powF_1, mulF_1, mulF_2, negF_1, ltF_1, leF_1, gtF_1, geF_1, atE_1, ixF_1, ixF_2, ixF_3, pxE_1, ixF_4, plE_1, lenF_4, eMt_e, cMt_1, eCut_e, cCut_1, cCut2_1, qNone_e, qSome_e, toI_1, cutF_1, cutF_2, cutF_3, cutF_4, eCallK_e, cK_1, cK2_1, eDic0_e, oCat_e, cCat_1, cCat2_1, cCat3_1, lsT_1, lsT_2, rcv_p, apE_1, appF_1, stL_app, set_app, stL_0, stL_k, stL_c, stL_s, set_0, set_k, shE_1, shF_1, lenF_1, lenF_2, lenF_3, absF_1, intOfF_1, intOfF_2, rng1F_1, rng2F_1, Ar_e, mkD_e, fin_1, fin_2, fin_3, few_e, tupOfF_1, tupOfF_2, tupOfF_3, lstOfF_1, lstOfF_2, lstOfF_3, isF_1, gStar_1, cIf_1, Option.isSome_some, List.length_map, List.length_append, List.append_assoc, Nat.add_assoc, slots, wpD, List.map_cons, List.map_nil, List.cons_append, List.nil_append, List.length_cons, List.length_nil, List.replicate, List.set_cons_succ, List.set_cons_zero, List.getElem?_cons_zero, List.getElem?_cons_succ, if_true, if_false, ite_true, ite_false, reduceIte, Nat.reduceAdd, Nat.reduceSub, Nat.reduceLeDiff, Nat.zero_add, Nat.sub_zero, Nat.sub_self, Bool.not_true, Bool.not_false, Bool.false_eq_true, decide_true, decide_false, Bool.true_and, Bool.and_true, Bool.or_true, Bool.true_or, Bool.false_and, Bool.and_false, Bool.or_false, Bool.false_or, decide_eq_true_eq, id_eq, Int.reduceLT, Int.reduceLE, Int.reduceNeg, Int.reduceAdd, Int.reduceSub, Int.reduceMul, Int.reduceMod, Int.reduceDiv, Int.reducePow, Int.reduceToNat, and_self, true_and, and_true, gStar_1, eqF_int, isiF_tup, isiF_lst, isiF_int, isiF_str, isiF_bl, at_0, gSet_e, seO_1, seI_1, lenF_5, addF_4, sxE_1, ixF_5, itF_4, max2F_e, min2F_e, eM1_c, cM1_1, oM1_c, cN1_1, intAnyF_b, intAnyF_s, strOfF_1, eqF_str, eqH_int, eqH_str, dvmF_1, gTwo_1, eIf_e, d__law_is_row, b__law_is_row, isx_tup, isaB, h1]
  · refine ⟨ds.all (inB 0 9), ?_, ?_⟩
    · rcases hd with rfl | rfl
      · simp (config := { decide := true }) only [bd_1, bd_2, bs_1, bs_2, sq_1, sq_2, sq_3, sq_4, sq_5, vr_1, ga_1, lcE_1, sSeq_e, sAsg_e, cAsg_1, sRet_e, cRt_1, sDrop_e, cDr_1, sIf_e, cIf_t, cIf_f, sSkip_e, sBrk_e, sCnt_e, sPar_e, cPar_1, cPar2_1, sFor_e, cFor_1, gVar_e, eVar_e, eC_e, eOp_e, cOp_1, eUn_e, aNil_e, aCons_e, cA_1, cA2_1, eCall_e, oCall_e, iCall_e, iVal_e, toB_1, bVal_e, bAnd_e, cAnd_1, bOr_e, cOr_1, bNot_e, cNot_1, eAnd_e, cEAnd_1, cEAnd2_1, eOr_e, cEOr_1, cEOr2_1, eNot_e, cENot_1, cENot2_1, eIf_e, cEIf_1, eChain_e, cCh_1, cCh1_1, cCh2_1, cCh3_1, eTup_e, cTup_1, oLst_e, cLst_1, eFz_e, cFz_1, ePtr_e, cPtr_1, oLc_e, cLc_1, eSh_e, itF_1, itF_2, itF_3, addF_1, addF_2, addF_3, intF_1, subF_1, modF_1, fdvF_1, powF_1, mulF_1, mulF_2, negF_1, ltF_1, leF_1, gtF_1, geF_1, atE_1, ixF_1, ixF_2, ixF_3, pxE_1, ixF_4, plE_1, lenF_4, eMt_e, cMt_1, eCut_e, cCut_1, cCut2_1, qNone_e, qSome_e, toI_1, cutF_1, cutF_2, cutF_3, cutF_4, eCallK_e, cK_1, cK2_1, eDic0_e, oCat_e, cCat_1, cCat2_1, cCat3_1, lsT_1, lsT_2, rcv_p, apE_1, appF_1, stL_app, set_app, stL_0, stL_k, stL_c, stL_s, set_0, set_k, shE_1, shF_1, lenF_1, lenF_2, lenF_3, absF_1, intOfF_1, intOfF_2, rng1F_1, rng2F_1, Ar_e, mkD_e, fin_1, fin_2, fin_3, few_e, tupOfF_1, tupOfF_2, tupOfF_3, lstOfF_1, lstOfF_2, lstOfF_3, isF_1, gStar_1, cIf_1, Option.isSome_some, List.length_map, List.length_append, List.append_assoc, Nat.add_assoc, slots, wpD, List.map_cons, List.map_nil, List.cons_append, List.nil_append, List.length_cons, List.length_nil, List.replicate, List.set_cons_succ, List.set_cons_zero, List.getElem?_cons_zero, List.getElem?_cons_succ, if_true, if_false, ite_true, ite_false, reduceIte, Nat.reduceAdd, Nat.reduceSub, Nat.reduceLeDiff, Nat.zero_add, Nat.sub_zero, Nat.sub_self, Bool.not_true, Bool.not_false, Bool.false_eq_true, decide_true, decide_false, Bool.true_and, Bool.and_true, Bool.or_true, Bool.true_or, Bool.false_and, Bool.and_false, Bool.or_false, Bool.false_or, decide_eq_true_eq, id_eq, Int.reduceLT, Int.reduceLE, Int.reduceNeg, Int.reduceAdd, Int.reduceSub, Int.reduceMul, Int.reduceMod, Int.reduceDiv, Int.reducePow, Int.reduceToNat, and_self, true_and, and_true, gStar_1, eqF_int, isiF_tup, isiF_lst, isiF_int, isiF_str, isiF_bl, at_0, gSet_e, seO_1, seI_1, lenF_5, addF_4, sxE_1, ixF_5, itF_4, max2F_e, min2F_e, eM1_c, cM1_1, oM1_c, cN1_1, intAnyF_b, intAnyF_s, strOfF_1, eqF_str, eqH_int, eqH_str, dvmF_1, gTwo_1, eIf_e, d_are_lots, b_are_lots, isx_lst, isaB, h1, lot_all _ ds h, allF_map, f1]
      · simp (config := { decide := true }) only [bd_1, bd_2, bs_1, bs_2, sq_1, sq_2, sq_3, sq_4, sq_5, vr_1, ga_1, lcE_1, sSeq_e, sAsg_e, cAsg_1, sRet_e, cRt_1, sDrop_e, cDr_1, sIf_e, cIf_t, cIf_f, sSkip_e, sBrk_e, sCnt_e, sPar_e, cPar_1, cPar2_1, sFor_e, cFor_1, gVar_e, eVar_e, eC_e, eOp_e, cOp_1, eUn_e, aNil_e, aCons_e, cA_1, cA2_1, eCall_e, oCall_e, iCall_e, iVal_e, toB_1, bVal_e, bAnd_e, cAnd_1, bOr_e, cOr_1, bNot_e, cNot_1, eAnd_e, cEAnd_1, cEAnd2_1, eOr_e, cEOr_1, cEOr2_1, eNot_e, cENot_1, cENot2_1, eIf_e, cEIf_1, eChain_e, cCh_1, cCh1_1, cCh2_1, cCh3_1, eTup_e, cTup_1, oLst_e, cLst_1, eFz_e, cFz_1, ePtr_e, cPtr_1, oLc_e, cLc_1, eSh_e, itF_1, itF_2, itF_3, addF_1, addF_2, addF_3, intF_1, subF_1, modF_1, fdvF_1, powF_1, mulF_1, mulF_2, negF_1, ltF_1, leF_1, gtF_1, geF_1, atE_1, ixF_1, ixF_2, ixF_3, pxE_1, ixF_4, plE_1, lenF_4, eMt_e, cMt_1, eCut_e, cCut_1, cCut2_1, qNone_e, qSome_e, toI_1, cutF_1, cutF_2, cutF_3, cutF_4, eCallK_e, cK_1, cK2_1, eDic0_e, oCat_e, cCat_1, cCat2_1, cCat3_1, lsT_1, lsT_2, rcv_p, apE_1, appF_1, stL_app, set_app, stL_0, stL_k, stL_c, stL_s, set_0, set_k, shE_1, shF_1, lenF_1, lenF_2, lenF_3, absF_1, intOfF_1, intOfF_2, rng1F_1, rng2F_1, Ar_e, mkD_e, fin_1, fin_2, fin_3, few_e, tupOfF_1, tupOfF_2, tupOfF_3, lstOfF_1, lstOfF_2, lstOfF_3, isF_1, gStar_1, cIf_1, Option.isSome_some, List.length_map, List.length_append, List.append_assoc, Nat.add_assoc, slots, wpD, List.map_cons, List.map_nil, List.cons_append, List.nil_append, List.length_cons, List.length_nil, List.replicate, List.set_cons_succ, List.set_cons_zero, List.getElem?_cons_zero, List.getElem?_cons_succ, if_true, if_false, ite_true, ite_false, reduceIte, Nat.reduceAdd, Nat.reduceSub, Nat.reduceLeDiff, Nat.zero_add, Nat.sub_zero, Nat.sub_self, Bool.not_true, Bool.not_false, Bool.false_eq_true, decide_true, decide_false, Bool.true_and, Bool.and_true, Bool.or_true, Bool.true_or, Bool.false_and, Bool.and_false, Bool.or_false, Bool.false_or, decide_eq_true_eq, id_eq, Int.reduceLT, Int.reduceLE, Int.reduceNeg, Int.reduceAdd, Int.reduceSub, Int.reduceMul, Int.reduceMod, Int.reduceDiv, Int.reducePow, Int.reduceToNat, and_self, true_and, and_true, gStar_1, eqF_int, isiF_tup, isiF_lst, isiF_int, isiF_str, isiF_bl, at_0, gSet_e, seO_1, seI_1, lenF_5, addF_4, sxE_1, ixF_5, itF_4, max2F_e, min2F_e, eM1_c, cM1_1, oM1_c, cN1_1, intAnyF_b, intAnyF_s, strOfF_1, eqF_str, eqH_int, eqH_str, dvmF_1, gTwo_1, eIf_e, d_are_lots, b_are_lots, isx_tup, isaB, h1, lot_all _ ds h, allF_map, f1]
    · rcases hd with rfl | rfl
      · simp (config := { decide := true }) only [bd_1, bd_2, bs_1, bs_2, sq_1, sq_2, sq_3, sq_4, sq_5, vr_1, ga_1, lcE_1, sSeq_e, sAsg_e, cAsg_1, sRet_e, cRt_1, sDrop_e, cDr_1, sIf_e, cIf_t, cIf_f, sSkip_e, sBrk_e, sCnt_e, sPar_e, cPar_1, cPar2_1, sFor_e, cFor_1, gVar_e, eVar_e, eC_e, eOp_e, cOp_1, eUn_e, aNil_e, aCons_e, cA_1, cA2_1, eCall_e, oCall_e, iCall_e, iVal_e, toB_1, bVal_e, bAnd_e, cAnd_1, bOr_e, cOr_1, bNot_e, cNot_1, eAnd_e, cEAnd_1, cEAnd2_1, eOr_e, cEOr_1, cEOr2_1, eNot_e, cENot_1, cENot2_1, eIf_e, cEIf_1, eChain_e, cCh_1, cCh1_1, cCh2_1, cCh3_1, eTup_e, cTup_1, oLst_e, cLst_1, eFz_e, cFz_1, ePtr_e, cPtr_1, oLc_e, cLc_1, eSh_e, itF_1, itF_2, itF_3, addF_1, addF_2, addF_3, intF_1, subF_1, modF_1, fdvF_1, powF_1, mulF_1, mulF_2, negF_1, ltF_1, leF_1, gtF_1, geF_1, atE_1, ixF_1, ixF_2, ixF_3, pxE_1, ixF_4, plE_1, lenF_4, eMt_e, cMt_1, eCut_e, cCut_1, cCut2_1, qNone_e, qSome_e, toI_1, cutF_1, cutF_2, cutF_3, cutF_4, eCallK_e, cK_1, cK2_1, eDic0_e, oCat_e, cCat_1, cCat2_1, cCat3_1, lsT_1, lsT_2, rcv_p, apE_1, appF_1, stL_app, set_app, stL_0, stL_k, stL_c, stL_s, set_0, set_k, shE_1, shF_1, lenF_1, lenF_2, lenF_3, absF_1, intOfF_1, intOfF_2, rng1F_1, rng2F_1, Ar_e, mkD_e, fin_1, fin_2, fin_3, few_e, tupOfF_1, tupOfF_2, tupOfF_3, lstOfF_1, lstOfF_2, lstOfF_3, isF_1, gStar_1, cIf_1, Option.isSome_some, List.length_map, List.length_append, List.append_assoc, Nat.add_assoc, slots, wpD, List.map_cons, List.map_nil, List.cons_append, List.nil_append, List.length_cons, List.length_nil, List.replicate, List.set_cons_succ, List.set_cons_zero, List.getElem?_cons_zero, List.getElem?_cons_succ, if_true, if_false, ite_true, ite_false, reduceIte, Nat.reduceAdd, Nat.reduceSub, Nat.reduceLeDiff, Nat.zero_add, Nat.sub_zero, Nat.sub_self, Bool.not_true, Bool.not_false, Bool.false_eq_true, decide_true, decide_false, Bool.true_and, Bool.and_true, Bool.or_true, Bool.true_or, Bool.false_and, Bool.and_false, Bool.or_false, Bool.false_or, decide_eq_true_eq, id_eq, Int.reduceLT, Int.reduceLE, Int.reduceNeg, Int.reduceAdd, Int.reduceSub, Int.reduceMul, Int.reduceMod, Int.reduceDiv, Int.reducePow, Int.reduceToNat, and_self, true_and, and_true, gStar_1, eqF_int, isiF_tup, isiF_lst, isiF_int, isiF_str, isiF_bl, at_0, gSet_e, seO_1, seI_1, lenF_5, addF_4, sxE_1, ixF_5, itF_4, max2F_e, min2F_e, eM1_c, cM1_1, oM1_c, cN1_1, intAnyF_b, intAnyF_s, strOfF_1, eqF_str, eqH_int, eqH_str, dvmF_1, gTwo_1, eIf_e, d__law_is_row, b__law_is_row, isx_lst, isaB, h1, row_not _ ds h, eqN_nil, sift_all, f2]
      · simp (config := { decide := true }) only [bd_1, bd_2, bs_1, bs_2, sq_1, sq_2, sq_3, sq_4, sq_5, vr_1, ga_1, lcE_1, sSeq_e, sAsg_e, cAsg_1, sRet_e, cRt_1, sDrop_e, cDr_1, sIf_e, cIf_t, cIf_f, sSkip_e, sBrk_e, sCnt_e, sPar_e, cPar_1, cPar2_1, sFor_e, cFor_1, gVar_e, eVar_e, eC_e, eOp_e, cOp_1, eUn_e, aNil_e, aCons_e, cA_1, cA2_1, eCall_e, oCall_e, iCall_e, iVal_e, toB_1, bVal_e, bAnd_e, cAnd_1, bOr_e, cOr_1, bNot_e, cNot_1, eAnd_e, cEAnd_1, cEAnd2_1, eOr_e, cEOr_1, cEOr2_1, eNot_e, cENot_1, cENot2_1, eIf_e, cEIf_1, eChain_e, cCh_1, cCh1_1, cCh2_1, cCh3_1, eTup_e, cTup_1, oLst_e, cLst_1, eFz_e, cFz_1, ePtr_e, cPtr_1, oLc_e, cLc_1, eSh_e, itF_1, itF_2, itF_3, addF_1, addF_2, addF_3, intF_1, subF_1, modF_1, fdvF_1, powF_1, mulF_1, mulF_2, negF_1, ltF_1, leF_1, gtF_1, geF_1, atE_1, ixF_1, ixF_2, ixF_3, pxE_1, ixF_4, plE_1, lenF_4, eMt_e, cMt_1, eCut_e, cCut_1, cCut2_1, qNone_e, qSome_e, toI_1, cutF_1, cutF_2, cutF_3, cutF_4, eCallK_e, cK_1, cK2_1, eDic0_e, oCat_e, cCat_1, cCat2_1, cCat3_1, lsT_1, lsT_2, rcv_p, apE_1, appF_1, stL_app, set_app, stL_0, stL_k, stL_c, stL_s, set_0, set_k, shE_1, shF_1, lenF_1, lenF_2, lenF_3, absF_1, intOfF_1, intOfF_2, rng1F_1, rng2F_1, Ar_e, mkD_e, fin_1, fin_2, fin_3, few_e, tupOfF_1, tupOfF_2, tupOfF_3, lstOfF_1, lstOfF_2, lstOfF_3, isF_1, gStar_1, cIf_1, Option.isSome_some, List.length_map, List.length_append, List.append_assoc, Nat.add_assoc, slots, wpD, List.map_cons, List.map_nil, List.cons_append, List.nil_append, List.length_cons, List.length_nil, List.replicate, List.set_cons_succ, List.set_cons_zero, List.getElem?_cons_zero, List.getElem?_cons_succ, if_true, if_false, ite_true, ite_false, reduceIte, Nat.reduceAdd, Nat.reduceSub, Nat.reduceLeDiff, Nat.zero_add, Nat.sub_zero, Nat.sub_self, Bool.not_true, Bool.not_false, Bool.false_eq_true, decide_true, decide_false, Bool.true_and, Bool.and_true, Bool.or_true, Bool.true_or, Bool.false_and, Bool.and_false, Bool.or_false, Bool.false_or, decide_eq_true_eq, id_eq, Int.reduceLT, Int.reduceLE, Int.reduceNeg, Int.reduceAdd, Int.reduceSub, Int.reduceMul, Int.reduceMod, Int.reduceDiv, Int.reducePow, Int.reduceToNat, and_self, true_and, and_true, gStar_1, eqF_int, isiF_tup, isiF_lst, isiF_int, isiF_str, isiF_bl, at_0, gSet_e, seO_1, seI_1, lenF_5, addF_4, sxE_1, ixF_5, itF_4, max2F_e, min2F_e, eM1_c, cM1_1, oM1_c, cN1_1, intAnyF_b, intAnyF_s, strOfF_1, eqF_str, eqH_int, eqH_str, dvmF_1, gTwo_1, eIf_e, d__law_is_row, b__law_is_row, isx_tup, isaB, h1, row_not _ ds h, eqN_nil, sift_all, f2]
theorem lots_ok {d : D} (h : Et d = true) (hs : ∀ ds, d = .lst ds ∨ d = .tup ds → (∀ d ∈ ds, Et d = true) ∧ ds.length ≤ 1000) (S : ST) : ∃ b, d_are_lots [d] S = some (.ok (.bl b), S) ∧ d__law_is_row [d] S = some (.ok (.bl b), S) := by
  cases d with
  | non => refine ⟨false, ?_, ?_⟩ <;> simp (config := { decide := true }) only [bd_1, bd_2, bs_1, bs_2, sq_1, sq_2, sq_3, sq_4, sq_5, vr_1, ga_1, lcE_1, sSeq_e, sAsg_e, cAsg_1, sRet_e, cRt_1, sDrop_e, cDr_1, sIf_e, cIf_t, cIf_f, sSkip_e, sBrk_e, sCnt_e, sPar_e, cPar_1, cPar2_1, sFor_e, cFor_1, gVar_e, eVar_e, eC_e, eOp_e, cOp_1, eUn_e, aNil_e, aCons_e, cA_1, cA2_1, eCall_e, oCall_e, iCall_e, iVal_e, toB_1, bVal_e, bAnd_e, cAnd_1, bOr_e, cOr_1, bNot_e, cNot_1, eAnd_e, cEAnd_1, cEAnd2_1, eOr_e, cEOr_1, cEOr2_1, eNot_e, cENot_1, cENot2_1, eIf_e, cEIf_1, eChain_e, cCh_1, cCh1_1, cCh2_1, cCh3_1, eTup_e, cTup_1, oLst_e, cLst_1, eFz_e, cFz_1, ePtr_e, cPtr_1, oLc_e, cLc_1, eSh_e, itF_1, itF_2, itF_3, addF_1, addF_2, addF_3, intF_1, subF_1, modF_1, fdvF_1, powF_1, mulF_1, mulF_2, negF_1, ltF_1, leF_1, gtF_1, geF_1, atE_1, ixF_1, ixF_2, ixF_3, pxE_1, ixF_4, plE_1, lenF_4, eMt_e, cMt_1, eCut_e, cCut_1, cCut2_1, qNone_e, qSome_e, toI_1, cutF_1, cutF_2, cutF_3, cutF_4, eCallK_e, cK_1, cK2_1, eDic0_e, oCat_e, cCat_1, cCat2_1, cCat3_1, lsT_1, lsT_2, rcv_p, apE_1, appF_1, stL_app, set_app, stL_0, stL_k, stL_c, stL_s, set_0, set_k, shE_1, shF_1, lenF_1, lenF_2, lenF_3, absF_1, intOfF_1, intOfF_2, rng1F_1, rng2F_1, Ar_e, mkD_e, fin_1, fin_2, fin_3, few_e, tupOfF_1, tupOfF_2, tupOfF_3, lstOfF_1, lstOfF_2, lstOfF_3, isF_1, gStar_1, cIf_1, Option.isSome_some, List.length_map, List.length_append, List.append_assoc, Nat.add_assoc, slots, wpD, List.map_cons, List.map_nil, List.cons_append, List.nil_append, List.length_cons, List.length_nil, List.replicate, List.set_cons_succ, List.set_cons_zero, List.getElem?_cons_zero, List.getElem?_cons_succ, if_true, if_false, ite_true, ite_false, reduceIte, Nat.reduceAdd, Nat.reduceSub, Nat.reduceLeDiff, Nat.zero_add, Nat.sub_zero, Nat.sub_self, Bool.not_true, Bool.not_false, Bool.false_eq_true, decide_true, decide_false, Bool.true_and, Bool.and_true, Bool.or_true, Bool.true_or, Bool.false_and, Bool.and_false, Bool.or_false, Bool.false_or, decide_eq_true_eq, id_eq, Int.reduceLT, Int.reduceLE, Int.reduceNeg, Int.reduceAdd, Int.reduceSub, Int.reduceMul, Int.reduceMod, Int.reduceDiv, Int.reducePow, Int.reduceToNat, and_self, true_and, and_true, gStar_1, eqF_int, isiF_tup, isiF_lst, isiF_int, isiF_str, isiF_bl, at_0, gSet_e, seO_1, seI_1, lenF_5, addF_4, sxE_1, ixF_5, itF_4, max2F_e, min2F_e, eM1_c, cM1_1, oM1_c, cN1_1, intAnyF_b, intAnyF_s, strOfF_1, eqF_str, eqH_int, eqH_str, dvmF_1, gTwo_1, eIf_e, d_are_lots, b_are_lots, d__law_is_row, b__law_is_row, isx_non, isaB]
  | bl b => refine ⟨false, ?_, ?_⟩ <;> simp (config := { decide := true }) only [bd_1, bd_2, bs_1, bs_2, sq_1, sq_2, sq_3, sq_4, sq_5, vr_1, ga_1, lcE_1, sSeq_e, sAsg_e, cAsg_1, sRet_e, cRt_1, sDrop_e, cDr_1, sIf_e, cIf_t, cIf_f, sSkip_e, sBrk_e, sCnt_e, sPar_e, cPar_1, cPar2_1, sFor_e, cFor_1, gVar_e, eVar_e, eC_e, eOp_e, cOp_1, eUn_e, aNil_e, aCons_e, cA_1, cA2_1, eCall_e, oCall_e, iCall_e, iVal_e, toB_1, bVal_e, bAnd_e, cAnd_1, bOr_e, cOr_1, bNot_e, cNot_1, eAnd_e, cEAnd_1, cEAnd2_1, eOr_e, cEOr_1, cEOr2_1, eNot_e, cENot_1, cENot2_1, eIf_e, cEIf_1, eChain_e, cCh_1, cCh1_1, cCh2_1, cCh3_1, eTup_e, cTup_1, oLst_e, cLst_1, eFz_e, cFz_1, ePtr_e, cPtr_1, oLc_e, cLc_1, eSh_e, itF_1, itF_2, itF_3, addF_1, addF_2, addF_3, intF_1, subF_1, modF_1, fdvF_1, powF_1, mulF_1, mulF_2, negF_1, ltF_1, leF_1, gtF_1, geF_1, atE_1, ixF_1, ixF_2, ixF_3, pxE_1, ixF_4, plE_1, lenF_4, eMt_e, cMt_1, eCut_e, cCut_1, cCut2_1, qNone_e, qSome_e, toI_1, cutF_1, cutF_2, cutF_3, cutF_4, eCallK_e, cK_1, cK2_1, eDic0_e, oCat_e, cCat_1, cCat2_1, cCat3_1, lsT_1, lsT_2, rcv_p, apE_1, appF_1, stL_app, set_app, stL_0, stL_k, stL_c, stL_s, set_0, set_k, shE_1, shF_1, lenF_1, lenF_2, lenF_3, absF_1, intOfF_1, intOfF_2, rng1F_1, rng2F_1, Ar_e, mkD_e, fin_1, fin_2, fin_3, few_e, tupOfF_1, tupOfF_2, tupOfF_3, lstOfF_1, lstOfF_2, lstOfF_3, isF_1, gStar_1, cIf_1, Option.isSome_some, List.length_map, List.length_append, List.append_assoc, Nat.add_assoc, slots, wpD, List.map_cons, List.map_nil, List.cons_append, List.nil_append, List.length_cons, List.length_nil, List.replicate, List.set_cons_succ, List.set_cons_zero, List.getElem?_cons_zero, List.getElem?_cons_succ, if_true, if_false, ite_true, ite_false, reduceIte, Nat.reduceAdd, Nat.reduceSub, Nat.reduceLeDiff, Nat.zero_add, Nat.sub_zero, Nat.sub_self, Bool.not_true, Bool.not_false, Bool.false_eq_true, decide_true, decide_false, Bool.true_and, Bool.and_true, Bool.or_true, Bool.true_or, Bool.false_and, Bool.and_false, Bool.or_false, Bool.false_or, decide_eq_true_eq, id_eq, Int.reduceLT, Int.reduceLE, Int.reduceNeg, Int.reduceAdd, Int.reduceSub, Int.reduceMul, Int.reduceMod, Int.reduceDiv, Int.reducePow, Int.reduceToNat, and_self, true_and, and_true, gStar_1, eqF_int, isiF_tup, isiF_lst, isiF_int, isiF_str, isiF_bl, at_0, gSet_e, seO_1, seI_1, lenF_5, addF_4, sxE_1, ixF_5, itF_4, max2F_e, min2F_e, eM1_c, cM1_1, oM1_c, cN1_1, intAnyF_b, intAnyF_s, strOfF_1, eqF_str, eqH_int, eqH_str, dvmF_1, gTwo_1, eIf_e, d_are_lots, b_are_lots, d__law_is_row, b__law_is_row, isx_bl, isaB]
  | int b => refine ⟨false, ?_, ?_⟩ <;> simp (config := { decide := true }) only [bd_1, bd_2, bs_1, bs_2, sq_1, sq_2, sq_3, sq_4, sq_5, vr_1, ga_1, lcE_1, sSeq_e, sAsg_e, cAsg_1, sRet_e, cRt_1, sDrop_e, cDr_1, sIf_e, cIf_t, cIf_f, sSkip_e, sBrk_e, sCnt_e, sPar_e, cPar_1, cPar2_1, sFor_e, cFor_1, gVar_e, eVar_e, eC_e, eOp_e, cOp_1, eUn_e, aNil_e, aCons_e, cA_1, cA2_1, eCall_e, oCall_e, iCall_e, iVal_e, toB_1, bVal_e, bAnd_e, cAnd_1, bOr_e, cOr_1, bNot_e, cNot_1, eAnd_e, cEAnd_1, cEAnd2_1, eOr_e, cEOr_1, cEOr2_1, eNot_e, cENot_1, cENot2_1, eIf_e, cEIf_1, eChain_e, cCh_1, cCh1_1, cCh2_1, cCh3_1, eTup_e, cTup_1, oLst_e, cLst_1, eFz_e, cFz_1, ePtr_e, cPtr_1, oLc_e, cLc_1, eSh_e, itF_1, itF_2, itF_3, addF_1, addF_2, addF_3, intF_1, subF_1, modF_1, fdvF_1, powF_1, mulF_1, mulF_2, negF_1, ltF_1, leF_1, gtF_1, geF_1, atE_1, ixF_1, ixF_2, ixF_3, pxE_1, ixF_4, plE_1, lenF_4, eMt_e, cMt_1, eCut_e, cCut_1, cCut2_1, qNone_e, qSome_e, toI_1, cutF_1, cutF_2, cutF_3, cutF_4, eCallK_e, cK_1, cK2_1, eDic0_e, oCat_e, cCat_1, cCat2_1, cCat3_1, lsT_1, lsT_2, rcv_p, apE_1, appF_1, stL_app, set_app, stL_0, stL_k, stL_c, stL_s, set_0, set_k, shE_1, shF_1, lenF_1, lenF_2, lenF_3, absF_1, intOfF_1, intOfF_2, rng1F_1, rng2F_1, Ar_e, mkD_e, fin_1, fin_2, fin_3, few_e, tupOfF_1, tupOfF_2, tupOfF_3, lstOfF_1, lstOfF_2, lstOfF_3, isF_1, gStar_1, cIf_1, Option.isSome_some, List.length_map, List.length_append, List.append_assoc, Nat.add_assoc, slots, wpD, List.map_cons, List.map_nil, List.cons_append, List.nil_append, List.length_cons, List.length_nil, List.replicate, List.set_cons_succ, List.set_cons_zero, List.getElem?_cons_zero, List.getElem?_cons_succ, if_true, if_false, ite_true, ite_false, reduceIte, Nat.reduceAdd, Nat.reduceSub, Nat.reduceLeDiff, Nat.zero_add, Nat.sub_zero, Nat.sub_self, Bool.not_true, Bool.not_false, Bool.false_eq_true, decide_true, decide_false, Bool.true_and, Bool.and_true, Bool.or_true, Bool.true_or, Bool.false_and, Bool.and_false, Bool.or_false, Bool.false_or, decide_eq_true_eq, id_eq, Int.reduceLT, Int.reduceLE, Int.reduceNeg, Int.reduceAdd, Int.reduceSub, Int.reduceMul, Int.reduceMod, Int.reduceDiv, Int.reducePow, Int.reduceToNat, and_self, true_and, and_true, gStar_1, eqF_int, isiF_tup, isiF_lst, isiF_int, isiF_str, isiF_bl, at_0, gSet_e, seO_1, seI_1, lenF_5, addF_4, sxE_1, ixF_5, itF_4, max2F_e, min2F_e, eM1_c, cM1_1, oM1_c, cN1_1, intAnyF_b, intAnyF_s, strOfF_1, eqF_str, eqH_int, eqH_str, dvmF_1, gTwo_1, eIf_e, d_are_lots, b_are_lots, d__law_is_row, b__law_is_row, isx_int, isaB]
  | str x => refine ⟨false, ?_, ?_⟩ <;> simp (config := { decide := true }) only [bd_1, bd_2, bs_1, bs_2, sq_1, sq_2, sq_3, sq_4, sq_5, vr_1, ga_1, lcE_1, sSeq_e, sAsg_e, cAsg_1, sRet_e, cRt_1, sDrop_e, cDr_1, sIf_e, cIf_t, cIf_f, sSkip_e, sBrk_e, sCnt_e, sPar_e, cPar_1, cPar2_1, sFor_e, cFor_1, gVar_e, eVar_e, eC_e, eOp_e, cOp_1, eUn_e, aNil_e, aCons_e, cA_1, cA2_1, eCall_e, oCall_e, iCall_e, iVal_e, toB_1, bVal_e, bAnd_e, cAnd_1, bOr_e, cOr_1, bNot_e, cNot_1, eAnd_e, cEAnd_1, cEAnd2_1, eOr_e, cEOr_1, cEOr2_1, eNot_e, cENot_1, cENot2_1, eIf_e, cEIf_1, eChain_e, cCh_1, cCh1_1, cCh2_1, cCh3_1, eTup_e, cTup_1, oLst_e, cLst_1, eFz_e, cFz_1, ePtr_e, cPtr_1, oLc_e, cLc_1, eSh_e, itF_1, itF_2, itF_3, addF_1, addF_2, addF_3, intF_1, subF_1, modF_1, fdvF_1, powF_1, mulF_1, mulF_2, negF_1, ltF_1, leF_1, gtF_1, geF_1, atE_1, ixF_1, ixF_2, ixF_3, pxE_1, ixF_4, plE_1, lenF_4, eMt_e, cMt_1, eCut_e, cCut_1, cCut2_1, qNone_e, qSome_e, toI_1, cutF_1, cutF_2, cutF_3, cutF_4, eCallK_e, cK_1, cK2_1, eDic0_e, oCat_e, cCat_1, cCat2_1, cCat3_1, lsT_1, lsT_2, rcv_p, apE_1, appF_1, stL_app, set_app, stL_0, stL_k, stL_c, stL_s, set_0, set_k, shE_1, shF_1, lenF_1, lenF_2, lenF_3, absF_1, intOfF_1, intOfF_2, rng1F_1, rng2F_1, Ar_e, mkD_e, fin_1, fin_2, fin_3, few_e, tupOfF_1, tupOfF_2, tupOfF_3, lstOfF_1, lstOfF_2, lstOfF_3, isF_1, gStar_1, cIf_1, Option.isSome_some, List.length_map, List.length_append, List.append_assoc, Nat.add_assoc, slots, wpD, List.map_cons, List.map_nil, List.cons_append, List.nil_append, List.length_cons, List.length_nil, List.replicate, List.set_cons_succ, List.set_cons_zero, List.getElem?_cons_zero, List.getElem?_cons_succ, if_true, if_false, ite_true, ite_false, reduceIte, Nat.reduceAdd, Nat.reduceSub, Nat.reduceLeDiff, Nat.zero_add, Nat.sub_zero, Nat.sub_self, Bool.not_true, Bool.not_false, Bool.false_eq_true, decide_true, decide_false, Bool.true_and, Bool.and_true, Bool.or_true, Bool.true_or, Bool.false_and, Bool.and_false, Bool.or_false, Bool.false_or, decide_eq_true_eq, id_eq, Int.reduceLT, Int.reduceLE, Int.reduceNeg, Int.reduceAdd, Int.reduceSub, Int.reduceMul, Int.reduceMod, Int.reduceDiv, Int.reducePow, Int.reduceToNat, and_self, true_and, and_true, gStar_1, eqF_int, isiF_tup, isiF_lst, isiF_int, isiF_str, isiF_bl, at_0, gSet_e, seO_1, seI_1, lenF_5, addF_4, sxE_1, ixF_5, itF_4, max2F_e, min2F_e, eM1_c, cM1_1, oM1_c, cN1_1, intAnyF_b, intAnyF_s, strOfF_1, eqF_str, eqH_int, eqH_str, dvmF_1, gTwo_1, eIf_e, d_are_lots, b_are_lots, d__law_is_row, b__law_is_row, isx_str, isaB]
  | tup b => exact seq_ok (.inr rfl) (hs b (.inr rfl)).1 (hs b (.inr rfl)).2 S
  | lst b => exact seq_ok (.inl rfl) (hs b (.inl rfl)).1 (hs b (.inl rfl)).2 S
  | dic b => refine ⟨false, ?_, ?_⟩ <;> simp (config := { decide := true }) only [bd_1, bd_2, bs_1, bs_2, sq_1, sq_2, sq_3, sq_4, sq_5, vr_1, ga_1, lcE_1, sSeq_e, sAsg_e, cAsg_1, sRet_e, cRt_1, sDrop_e, cDr_1, sIf_e, cIf_t, cIf_f, sSkip_e, sBrk_e, sCnt_e, sPar_e, cPar_1, cPar2_1, sFor_e, cFor_1, gVar_e, eVar_e, eC_e, eOp_e, cOp_1, eUn_e, aNil_e, aCons_e, cA_1, cA2_1, eCall_e, oCall_e, iCall_e, iVal_e, toB_1, bVal_e, bAnd_e, cAnd_1, bOr_e, cOr_1, bNot_e, cNot_1, eAnd_e, cEAnd_1, cEAnd2_1, eOr_e, cEOr_1, cEOr2_1, eNot_e, cENot_1, cENot2_1, eIf_e, cEIf_1, eChain_e, cCh_1, cCh1_1, cCh2_1, cCh3_1, eTup_e, cTup_1, oLst_e, cLst_1, eFz_e, cFz_1, ePtr_e, cPtr_1, oLc_e, cLc_1, eSh_e, itF_1, itF_2, itF_3, addF_1, addF_2, addF_3, intF_1, subF_1, modF_1, fdvF_1, powF_1, mulF_1, mulF_2, negF_1, ltF_1, leF_1, gtF_1, geF_1, atE_1, ixF_1, ixF_2, ixF_3, pxE_1, ixF_4, plE_1, lenF_4, eMt_e, cMt_1, eCut_e, cCut_1, cCut2_1, qNone_e, qSome_e, toI_1, cutF_1, cutF_2, cutF_3, cutF_4, eCallK_e, cK_1, cK2_1, eDic0_e, oCat_e, cCat_1, cCat2_1, cCat3_1, lsT_1, lsT_2, rcv_p, apE_1, appF_1, stL_app, set_app, stL_0, stL_k, stL_c, stL_s, set_0, set_k, shE_1, shF_1, lenF_1, lenF_2, lenF_3, absF_1, intOfF_1, intOfF_2, rng1F_1, rng2F_1, Ar_e, mkD_e, fin_1, fin_2, fin_3, few_e, tupOfF_1, tupOfF_2, tupOfF_3, lstOfF_1, lstOfF_2, lstOfF_3, isF_1, gStar_1, cIf_1, Option.isSome_some, List.length_map, List.length_append, List.append_assoc, Nat.add_assoc, slots, wpD, List.map_cons, List.map_nil, List.cons_append, List.nil_append, List.length_cons, List.length_nil, List.replicate, List.set_cons_succ, List.set_cons_zero, List.getElem?_cons_zero, List.getElem?_cons_succ, if_true, if_false, ite_true, ite_false, reduceIte, Nat.reduceAdd, Nat.reduceSub, Nat.reduceLeDiff, Nat.zero_add, Nat.sub_zero, Nat.sub_self, Bool.not_true, Bool.not_false, Bool.false_eq_true, decide_true, decide_false, Bool.true_and, Bool.and_true, Bool.or_true, Bool.true_or, Bool.false_and, Bool.and_false, Bool.or_false, Bool.false_or, decide_eq_true_eq, id_eq, Int.reduceLT, Int.reduceLE, Int.reduceNeg, Int.reduceAdd, Int.reduceSub, Int.reduceMul, Int.reduceMod, Int.reduceDiv, Int.reducePow, Int.reduceToNat, and_self, true_and, and_true, gStar_1, eqF_int, isiF_tup, isiF_lst, isiF_int, isiF_str, isiF_bl, at_0, gSet_e, seO_1, seI_1, lenF_5, addF_4, sxE_1, ixF_5, itF_4, max2F_e, min2F_e, eM1_c, cM1_1, oM1_c, cN1_1, intAnyF_b, intAnyF_s, strOfF_1, eqF_str, eqH_int, eqH_str, dvmF_1, gTwo_1, eIf_e, d_are_lots, b_are_lots, d__law_is_row, b__law_is_row, isx_dic, isaB]
  | exc c t fs => refine ⟨false, ?_, ?_⟩ <;> simp (config := { decide := true }) only [bd_1, bd_2, bs_1, bs_2, sq_1, sq_2, sq_3, sq_4, sq_5, vr_1, ga_1, lcE_1, sSeq_e, sAsg_e, cAsg_1, sRet_e, cRt_1, sDrop_e, cDr_1, sIf_e, cIf_t, cIf_f, sSkip_e, sBrk_e, sCnt_e, sPar_e, cPar_1, cPar2_1, sFor_e, cFor_1, gVar_e, eVar_e, eC_e, eOp_e, cOp_1, eUn_e, aNil_e, aCons_e, cA_1, cA2_1, eCall_e, oCall_e, iCall_e, iVal_e, toB_1, bVal_e, bAnd_e, cAnd_1, bOr_e, cOr_1, bNot_e, cNot_1, eAnd_e, cEAnd_1, cEAnd2_1, eOr_e, cEOr_1, cEOr2_1, eNot_e, cENot_1, cENot2_1, eIf_e, cEIf_1, eChain_e, cCh_1, cCh1_1, cCh2_1, cCh3_1, eTup_e, cTup_1, oLst_e, cLst_1, eFz_e, cFz_1, ePtr_e, cPtr_1, oLc_e, cLc_1, eSh_e, itF_1, itF_2, itF_3, addF_1, addF_2, addF_3, intF_1, subF_1, modF_1, fdvF_1, powF_1, mulF_1, mulF_2, negF_1, ltF_1, leF_1, gtF_1, geF_1, atE_1, ixF_1, ixF_2, ixF_3, pxE_1, ixF_4, plE_1, lenF_4, eMt_e, cMt_1, eCut_e, cCut_1, cCut2_1, qNone_e, qSome_e, toI_1, cutF_1, cutF_2, cutF_3, cutF_4, eCallK_e, cK_1, cK2_1, eDic0_e, oCat_e, cCat_1, cCat2_1, cCat3_1, lsT_1, lsT_2, rcv_p, apE_1, appF_1, stL_app, set_app, stL_0, stL_k, stL_c, stL_s, set_0, set_k, shE_1, shF_1, lenF_1, lenF_2, lenF_3, absF_1, intOfF_1, intOfF_2, rng1F_1, rng2F_1, Ar_e, mkD_e, fin_1, fin_2, fin_3, few_e, tupOfF_1, tupOfF_2, tupOfF_3, lstOfF_1, lstOfF_2, lstOfF_3, isF_1, gStar_1, cIf_1, Option.isSome_some, List.length_map, List.length_append, List.append_assoc, Nat.add_assoc, slots, wpD, List.map_cons, List.map_nil, List.cons_append, List.nil_append, List.length_cons, List.length_nil, List.replicate, List.set_cons_succ, List.set_cons_zero, List.getElem?_cons_zero, List.getElem?_cons_succ, if_true, if_false, ite_true, ite_false, reduceIte, Nat.reduceAdd, Nat.reduceSub, Nat.reduceLeDiff, Nat.zero_add, Nat.sub_zero, Nat.sub_self, Bool.not_true, Bool.not_false, Bool.false_eq_true, decide_true, decide_false, Bool.true_and, Bool.and_true, Bool.or_true, Bool.true_or, Bool.false_and, Bool.and_false, Bool.or_false, Bool.false_or, decide_eq_true_eq, id_eq, Int.reduceLT, Int.reduceLE, Int.reduceNeg, Int.reduceAdd, Int.reduceSub, Int.reduceMul, Int.reduceMod, Int.reduceDiv, Int.reducePow, Int.reduceToNat, and_self, true_and, and_true, gStar_1, eqF_int, isiF_tup, isiF_lst, isiF_int, isiF_str, isiF_bl, at_0, gSet_e, seO_1, seI_1, lenF_5, addF_4, sxE_1, ixF_5, itF_4, max2F_e, min2F_e, eM1_c, cM1_1, oM1_c, cN1_1, intAnyF_b, intAnyF_s, strOfF_1, eqF_str, eqH_int, eqH_str, dvmF_1, gTwo_1, eIf_e, d_are_lots, b_are_lots, d__law_is_row, b__law_is_row, isx_exc h]
  | _ => cases h
end W01

set_option Elab.async false
set_option linter.all false
set_option maxRecDepth 100000
set_option maxHeartbeats 4000000
namespace W01
open PySem L2 U TL
/-! texts of things -/
abbrev NS : List (Str × Str) := [("NoList", "NoList"), ("NoState", "NoState")]
def Tj (j B : Nat) (d : D) : Prop := ∃ t n, (∀ S k, txF NS S (k + j) d = some (t, n)) ∧ n ≤ j ∧ t.length ≤ B
theorem Tj.mono {j j' B B' : Nat} {d : D} (h : Tj j B d) (hj : j ≤ j') (hB : B ≤ B') : Tj j' B' d := by
  obtain ⟨t, n, e, h1, h2⟩ := h
  refine ⟨t, n, fun S k => ?_, by omega, by omega⟩
  have := e S (k + (j' - j))
  rwa [show k + (j' - j) + j = k + j' by omega] at this
theorem txs_all {j B : Nat} : ∀ ds : List D, (∀ d ∈ ds, Tj j B d) → ∃ ts n, (∀ S k, txs (txF NS S (k + j)) ds = some (ts, n)) ∧ n ≤ j ∧ (ts.map (·.length)).sum ≤ ds.length * B ∧ ts.length = ds.length
  | [], _ => ⟨[], 0, fun _ _ => rfl, Nat.zero_le _, by simp, rfl⟩
  | d :: ds, h => by
    obtain ⟨t, n, e, h1, h2⟩ := h d (List.mem_cons_self ..)
    obtain ⟨ts, m, e2, h3, h4, h5⟩ := txs_all ds fun x hx => h x (List.mem_cons_of_mem _ hx)
    refine ⟨t :: ts, max n m, fun S k => ?_, by omega, ?_, by simp [h5]⟩
    · simp only [txs, e S k, e2 S k]
    · simp only [List.map_cons, List.sum_cons, List.length_cons, Nat.succ_mul]
      omega
theorem Tj.lst {j B : Nat} {ds : List D} (h : ∀ d ∈ ds, Tj j B d) : Tj (j + 1) (ds.length * B + 2 * ds.length + 4) (.lst ds) := by
  obtain ⟨ts, n, e, h1, h2, h3⟩ := txs_all ds h
  refine ⟨listText ts, n + 1, fun S k => ?_, by omega, ?_⟩
  · show inL (txs (txF NS S (k + j)) ds) = _
    rw [e S k]
    rfl
  · have := listText_len_le ts
    omega
theorem tup_len (ts : List Str) : (tupleText ts).length ≤ (ts.map (·.length)).sum + 2 * ts.length + 4 := by
  have p : piled ts = (ts.map (·.length)).sum + 2 * ts.length := by
    induction ts with
    | nil => rfl
    | cons t ts ih => rw [piled_cons, ih, List.map_cons, List.sum_cons, List.length_cons]; omega
  by_cases h : ts = []
  · subst h; decide +kernel
  · have j := join_length_add ts h
    unfold tupleText
    rw [strLen_append, strLen_append]
    have a : (Str.ofString "(").length = 1 := by decide +kernel
    have b : (Str.ofString (if (ts.length == 1) = true then ",)" else ")")).length ≤ 2 := by split <;> decide +kernel
    omega
theorem Tj.tup {j B : Nat} {ds : List D} (h : ∀ d ∈ ds, Tj j B d) : Tj (j + 1) (ds.length * B + 2 * ds.length + 4) (.tup ds) := by
  obtain ⟨ts, n, e, h1, h2, h3⟩ := txs_all ds h
  refine ⟨tupleText ts, n + 1, fun S k => ?_, by omega, ?_⟩
  · show inT (txs (txF NS S (k + j)) ds) = _
    rw [e S k]
    rfl
  · have := tup_len ts
    omega
theorem Tj.int {i : Int} (h : i.natAbs < 10 ^ 40) : Tj 1 41 (.int i) := by
  refine ⟨Str.ofString (toString i), 0, fun S k => ?_, Nat.zero_le _, shown_int_small h⟩
  show (if i.natAbs.log2 < 1920 then some (Str.ofString (toString i), 0) else none) = _
  rw [if_pos (log2_small h)]
theorem Tj.str {x : Str} {m : Nat} (h : Tx m x) : Tj 1 (42 * m + 40) (.str x) := by
  refine ⟨reprText x, 0, fun S k => rfl, Nat.zero_le _, ?_⟩
  have l1 : PyData.canLay0 (.str x) = true := by
    have h1 : PyData.strOk x = true := by
      unfold PyData.strOk
      rw [← Array.all_toList, List.all_eq_true]
      intro c hc
      exact decide_eq_true (h.2 c hc)
    simp only [PyData.canLay0, h1]
  have l2 : PyData.intsShort 40 (.str x) = true := rfl
  have q := PyData.shown_le 40 (by decide) (.str x) (PyData.leavesShort_of_canLay0 40 _ l1 l2)
  rw [show PyData.weight (.str x) = x.length from rfl, show PyData.shown (.str x) = reprText x from rfl] at q
  have := h.1
  omega
def okT (j B : Nat) (d : D) : Bool := match txF NS [] j d with
  | some (t, n) => decide (n ≤ j) && decide (t.length ≤ B)
  | none => false
theorem Tj.of {j B : Nat} {d : D} (h : ∀ S k, txF NS S (k + j) d = txF NS [] j d) (hk : okT j B d = true) : Tj j B d := by
  unfold okT at hk
  split at hk
  · rename_i t n e
    simp only [Bool.and_eq_true, decide_eq_true_eq] at hk
    exact ⟨t, n, fun S k => (h S k).trans e, hk.1, hk.2⟩
  · cases hk
/-- a thing of the list -/
structure Gd (d : D) : Prop where
  et : Et d = true
  st : ∀ x, d = .str x → x.length ≤ 1000
  sq : ∀ ds, d = .lst ds ∨ d = .tup ds → (∀ e ∈ ds, Et e = true) ∧ ds.length ≤ 1000
/-- things of other kinds -/
def odds : List D := [D.non, .bl true, .bl false, .int (-1), .int 100000000000000000000000000000, .str "", .str "no", .str "a b", .lst [], .lst [.str "a"], .tup [.str "a"], .tup [], .dic [], .dic [(Sum.inr (Str.ofString "a"), .int 1)], .lst [.lst [.int 1]],
  .exc "NoList" "no such list" [("found", .str "a")], .exc "NoState" "no state of the rules" [("found", .int 7)]]
theorem odds_gd : ∀ d ∈ odds, Gd d ∧ Tj 3 200 d := by
  intro d hd
  have one : ∀ e : D, Et e = true → ∀ x ∈ [e], Et x = true := fun e h x hx => by rw [List.mem_singleton.mp hx]; exact h
  simp only [odds, List.mem_cons, List.not_mem_nil, or_false] at hd
  rcases hd with rfl | rfl | rfl | rfl | rfl | rfl | rfl | rfl | rfl | rfl | rfl | rfl | rfl | rfl | rfl | rfl | rfl
  · exact ⟨⟨rfl, nofun, fun ds h => by rcases h with h | h <;> cases h⟩, .of (fun _ _ => rfl) (by decide +kernel)⟩
  · exact ⟨⟨rfl, nofun, fun ds h => by rcases h with h | h <;> cases h⟩, .of (fun _ _ => rfl) (by decide +kernel)⟩
  · exact ⟨⟨rfl, nofun, fun ds h => by rcases h with h | h <;> cases h⟩, .of (fun _ _ => rfl) (by decide +kernel)⟩
  · exact ⟨⟨rfl, nofun, fun ds h => by rcases h with h | h <;> cases h⟩, (Tj.int (by decide)).mono (by decide) (by decide)⟩
  · exact ⟨⟨rfl, nofun, fun ds h => by rcases h with h | h <;> cases h⟩, (Tj.int (by decide)).mono (by decide) (by decide)⟩
  · exact ⟨⟨rfl, fun x h => by cases h; decide +kernel, fun ds h => by rcases h with h | h <;> cases h⟩, .of (fun _ _ => rfl) (by decide +kernel)⟩
  · exact ⟨⟨rfl, fun x h => by cases h; decide +kernel, fun ds h => by rcases h with h | h <;> cases h⟩, .of (fun _ _ => rfl) (by decide +kernel)⟩
  · exact ⟨⟨rfl, fun x h => by cases h; decide +kernel, fun ds h => by rcases h with h | h <;> cases h⟩, .of (fun _ _ => rfl) (by decide +kernel)⟩
  · exact ⟨⟨rfl, nofun, fun ds h => by rcases h with h | h <;> cases h; exact ⟨nofun, by decide⟩⟩, .of (fun _ _ => rfl) (by decide +kernel)⟩
  · exact ⟨⟨rfl, nofun, fun ds h => by rcases h with h | h <;> cases h; exact ⟨one _ rfl, by decide⟩⟩, .of (fun _ _ => rfl) (by decide +kernel)⟩
  · exact ⟨⟨rfl, nofun, fun ds h => by rcases h with h | h <;> cases h; exact ⟨one _ rfl, by decide⟩⟩, .of (fun _ _ => rfl) (by decide +kernel)⟩
  · exact ⟨⟨rfl, nofun, fun ds h => by rcases h with h | h <;> cases h; exact ⟨nofun, by decide⟩⟩, .of (fun _ _ => rfl) (by decide +kernel)⟩
  · exact ⟨⟨rfl, nofun, fun ds h => by rcases h with h | h <;> cases h⟩, .of (fun _ _ => rfl) (by decide +kernel)⟩
  · exact ⟨⟨rfl, nofun, fun ds h => by rcases h with h | h <;> cases h⟩, .of (fun _ _ => rfl) (by decide +kernel)⟩
  · exact ⟨⟨rfl, nofun, fun ds h => by rcases h with h | h <;> cases h; exact ⟨one _ rfl, by decide⟩⟩, .of (fun _ _ => rfl) (by decide +kernel)⟩
  · exact ⟨⟨by decide +kernel, nofun, fun ds h => by rcases h with h | h <;> cases h⟩, .of (fun _ _ => by kernel_rfl) (by decide +kernel)⟩
  · exact ⟨⟨by decide +kernel, nofun, fun ds h => by rcases h with h | h <;> cases h⟩, .of (fun _ _ => by kernel_rfl) (by decide +kernel)⟩
end W01

set_option Elab.async false
set_option linter.all false
set_option maxRecDepth 100000
set_option maxHeartbeats 4000000
namespace W01
open PySem L2 U TL
/-! the draws -/
theorem bag_mono {n c c' : Nat} {S : ST} (B : Bag n c S) (h : c ≤ c') : Bag n c' S := by
  obtain ⟨a, b, k, e, h1, h2, h3, h4⟩ := B
  exact ⟨a, b, k, e, h1, h2, h3, Nat.le_trans h4 h⟩
theorem okI_small {i : Int} (h1 : -1000 ≤ i) (h2 : i ≤ 1000) : okI i = true := by
  unfold okI
  rw [Bool.and_eq_true, decide_eq_true_eq, decide_eq_true_eq]
  omega
theorem rngD_len {a b : Int} : (rngD a b).length = (b - a).toNat := by simp [rngD]
theorem any_ok {n c : Nat} {S : ST} (B : Bag n c S) (hc : c < 900) : ∃ d S', d__law_any [.ptr n] S = some (.ok d, S') ∧ d ∈ odds ∧ Bag n (c + 1) S' := by
  obtain ⟨r1, S1, e1, l1, h1, B1⟩ := take_ok (m := 15) B (by omega) (by decide) (by decide)
  obtain ⟨d, hd, e⟩ := at_mem (xs := [D.non, .bl true, .bl false, .int (-1), .int 100000000000000000000000000000, .str "", .str "no", .str "a b", .lst [], .lst [.str "a"], .tup [.str "a"], .tup [], .dic [], .dic [(Sum.inr (Str.ofString "a"), .int 1)], .lst [.lst [.int 1]]]) l1 (by simpa using h1)
  refine ⟨d, S1, ?_, ?_, B1⟩
  · have k1 : keyD (.str "a") = some (Sum.inr (Str.ofString "a")) := rfl
    simp (config := { decide := true }) only [bd_1, bd_2, bs_1, bs_2, sq_1, sq_2, sq_3, sq_4, sq_5, vr_1, ga_1, lcE_1, sSeq_e, sAsg_e, cAsg_1, sRet_e, cRt_1, sDrop_e, cDr_1, sIf_e, cIf_t, cIf_f, sSkip_e, sBrk_e, sCnt_e, sPar_e, cPar_1, cPar2_1, sFor_e, cFor_1, gVar_e, eVar_e, eC_e, eOp_e, cOp_1, eUn_e, aNil_e, aCons_e, cA_1, cA2_1, eCall_e, oCall_e, iCall_e, iVal_e, toB_1, bVal_e, bAnd_e, cAnd_1, bOr_e, cOr_1, bNot_e, cNot_1, eAnd_e, cEAnd_1, cEAnd2_1, eOr_e, cEOr_1, cEOr2_1, eNot_e, cENot_1, cENot2_1, eIf_e, cEIf_1, eChain_e, cCh_1, cCh1_1, cCh2_1, cCh3_1, eTup_e, cTup_1, oLst_e, cLst_1, eFz_e, cFz_1, ePtr_e, cPtr_1, oLc_e, cLc_1, eSh_e, itF_1, itF_2, itF_3, addF_1, addF_2, addF_3, intF_1, subF_1, modF_1, fdvF_1, powF_1, mulF_1, mulF_2, negF_1, ltF_1, leF_1, gtF_1, geF_1, atE_1, ixF_1, ixF_2, ixF_3, pxE_1, ixF_4, plE_1, lenF_4, eMt_e, cMt_1, eCut_e, cCut_1, cCut2_1, qNone_e, qSome_e, toI_1, cutF_1, cutF_2, cutF_3, cutF_4, eCallK_e, cK_1, cK2_1, eDic0_e, oCat_e, cCat_1, cCat2_1, cCat3_1, lsT_1, lsT_2, rcv_p, apE_1, appF_1, stL_app, set_app, stL_0, stL_k, stL_c, stL_s, set_0, set_k, shE_1, shF_1, lenF_1, lenF_2, lenF_3, absF_1, intOfF_1, intOfF_2, rng1F_1, rng2F_1, Ar_e, mkD_e, fin_1, fin_2, fin_3, few_e, tupOfF_1, tupOfF_2, tupOfF_3, lstOfF_1, lstOfF_2, lstOfF_3, isF_1, gStar_1, cIf_1, Option.isSome_some, List.length_map, List.length_append, List.append_assoc, Nat.add_assoc, slots, wpD, List.map_cons, List.map_nil, List.cons_append, List.nil_append, List.length_cons, List.length_nil, List.replicate, List.set_cons_succ, List.set_cons_zero, List.getElem?_cons_zero, List.getElem?_cons_succ, if_true, if_false, ite_true, ite_false, reduceIte, Nat.reduceAdd, Nat.reduceSub, Nat.reduceLeDiff, Nat.zero_add, Nat.sub_zero, Nat.sub_self, Bool.not_true, Bool.not_false, Bool.false_eq_true, decide_true, decide_false, Bool.true_and, Bool.and_true, Bool.or_true, Bool.true_or, Bool.false_and, Bool.and_false, Bool.or_false, Bool.false_or, decide_eq_true_eq, id_eq, Int.reduceLT, Int.reduceLE, Int.reduceNeg, Int.reduceAdd, Int.reduceSub, Int.reduceMul, Int.reduceMod, Int.reduceDiv, Int.reducePow, Int.reduceToNat, and_self, true_and, and_true, gStar_1, eqF_int, isiF_tup, isiF_lst, isiF_int, isiF_str, isiF_bl, at_0, gSet_e, seO_1, seI_1, lenF_5, addF_4, sxE_1, ixF_5, itF_4, max2F_e, min2F_e, eM1_c, cM1_1, oM1_c, cN1_1, intAnyF_b, intAnyF_s, strOfF_1, eqF_str, eqH_int, eqH_str, dvmF_1, gTwo_1, eIf_e, d__law_any, b__law_any, e1, e, eDic1, k1]
  · unfold odds
    simp only [List.mem_cons, List.not_mem_nil, or_false] at hd ⊢
    rcases hd with h | h | h | h | h | h | h | h | h | h | h | h | h | h | h <;> simp only [h, true_or, or_true]
theorem number_ok {n c : Nat} {S : ST} (B : Bag n c S) (hc : c < 900) : ∃ (i : Int) (S' : ST), d__law_number [.ptr n] S = some (.ok (.int i), S') ∧ i.natAbs < 10 ^ 31 ∧ Bag n (c + 3) S' := by
  obtain ⟨r1, S1, e1, l1, h1, B⟩ := take_ok (m := 999999999999999999999999999999) B (by omega) (by decide) (by decide +kernel)
  obtain ⟨r2, S2, e2, l2, h2, B⟩ := take_ok (m := 999999999999999999999999999999) B (by omega) (by decide) (by decide +kernel)
  obtain ⟨r3, S3, e3, l3, h3, B⟩ := take_ok (m := 9) B (by omega) (by decide) (by decide)
  obtain ⟨d, hd, e⟩ := at_mem (xs := [D.int 0, .int 1, .int 9, .int 10, .int (-1), .int (-10), .int 20, .int r1, .int (1 - r2)]) l3 (by simpa using h3)
  have ex : (10 : Nat) ^ 31 = 10000000000000000000000000000000 := by decide
  obtain ⟨i, rfl, hi⟩ : ∃ i : Int, d = .int i ∧ i.natAbs < 10 ^ 31 := by
    simp only [List.mem_cons, List.not_mem_nil, or_false] at hd
    rcases hd with rfl | rfl | rfl | rfl | rfl | rfl | rfl | rfl | rfl <;> exact ⟨_, rfl, by omega⟩
  refine ⟨i, S3, ?_, hi, B⟩
  simp (config := { decide := true }) only [bd_1, bd_2, bs_1, bs_2, sq_1, sq_2, sq_3, sq_4, sq_5, vr_1, ga_1, lcE_1, sSeq_e, sAsg_e, cAsg_1, sRet_e, cRt_1, sDrop_e, cDr_1, sIf_e, cIf_t, cIf_f, sSkip_e, sBrk_e, sCnt_e, sPar_e, cPar_1, cPar2_1, sFor_e, cFor_1, gVar_e, eVar_e, eC_e, eOp_e, cOp_1, eUn_e, aNil_e, aCons_e, cA_1, cA2_1, eCall_e, oCall_e, iCall_e, iVal_e, toB_1, bVal_e, bAnd_e, cAnd_1, bOr_e, cOr_1, bNot_e, cNot_1, eAnd_e, cEAnd_1, cEAnd2_1, eOr_e, cEOr_1, cEOr2_1, eNot_e, cENot_1, cENot2_1, eIf_e, cEIf_1, eChain_e, cCh_1, cCh1_1, cCh2_1, cCh3_1, eTup_e, cTup_1, oLst_e, cLst_1, eFz_e, cFz_1, ePtr_e, cPtr_1, oLc_e, cLc_1, eSh_e, itF_1, itF_2, itF_3, addF_1, addF_2, addF_3, intF_1, subF_1, modF_1, fdvF_1, powF_1, mulF_1, mulF_2, negF_1, ltF_1, leF_1, gtF_1, geF_1, atE_1, ixF_1, ixF_2, ixF_3, pxE_1, ixF_4, plE_1, lenF_4, eMt_e, cMt_1, eCut_e, cCut_1, cCut2_1, qNone_e, qSome_e, toI_1, cutF_1, cutF_2, cutF_3, cutF_4, eCallK_e, cK_1, cK2_1, eDic0_e, oCat_e, cCat_1, cCat2_1, cCat3_1, lsT_1, lsT_2, rcv_p, apE_1, appF_1, stL_app, set_app, stL_0, stL_k, stL_c, stL_s, set_0, set_k, shE_1, shF_1, lenF_1, lenF_2, lenF_3, absF_1, intOfF_1, intOfF_2, rng1F_1, rng2F_1, Ar_e, mkD_e, fin_1, fin_2, fin_3, few_e, tupOfF_1, tupOfF_2, tupOfF_3, lstOfF_1, lstOfF_2, lstOfF_3, isF_1, gStar_1, cIf_1, Option.isSome_some, List.length_map, List.length_append, List.append_assoc, Nat.add_assoc, slots, wpD, List.map_cons, List.map_nil, List.cons_append, List.nil_append, List.length_cons, List.length_nil, List.replicate, List.set_cons_succ, List.set_cons_zero, List.getElem?_cons_zero, List.getElem?_cons_succ, if_true, if_false, ite_true, ite_false, reduceIte, Nat.reduceAdd, Nat.reduceSub, Nat.reduceLeDiff, Nat.zero_add, Nat.sub_zero, Nat.sub_self, Bool.not_true, Bool.not_false, Bool.false_eq_true, decide_true, decide_false, Bool.true_and, Bool.and_true, Bool.or_true, Bool.true_or, Bool.false_and, Bool.and_false, Bool.or_false, Bool.false_or, decide_eq_true_eq, id_eq, Int.reduceLT, Int.reduceLE, Int.reduceNeg, Int.reduceAdd, Int.reduceSub, Int.reduceMul, Int.reduceMod, Int.reduceDiv, Int.reducePow, Int.reduceToNat, and_self, true_and, and_true, gStar_1, eqF_int, isiF_tup, isiF_lst, isiF_int, isiF_str, isiF_bl, at_0, gSet_e, seO_1, seI_1, lenF_5, addF_4, sxE_1, ixF_5, itF_4, max2F_e, min2F_e, eM1_c, cM1_1, oM1_c, cN1_1, intAnyF_b, intAnyF_s, strOfF_1, eqF_str, eqH_int, eqH_str, dvmF_1, gTwo_1, eIf_e, d__law_number, b__law_number, e1, e2, e3, e]
theorem named_ok {n c : Nat} {S : ST} (B : Bag n c S) (hc : c < 800) : ∃ (t : Str) (S' : ST), d__law_named [.ptr n] S = some (.ok (.str t), S') ∧ Tx 40 t ∧ Bag n (c + 13) S' := by
  obtain ⟨r1, S1, e1, l1, h1, B⟩ := take_ok (m := 9) B (by omega) (by decide) (by decide)
  have hlen : (rngD 0 (1 + r1)).length ≤ 9 := by
    rw [rngD_len]
    omega
  obtain ⟨xs, S2, e2, hl, hP, B⟩ := cm_inv (tg := gVar 2) (el := ce__law_named_1) (g := [some (.ptr n), some (.str "abcdefghijklmnopqrstuvwxyz"), none]) (fun i S => Bag n (c + 1 + i) S) (fun x => ∃ w, x = .str w ∧ Tx 1 w) (rngD 0 (1 + r1)) 0 S1 (by
    intro i d S h B
    obtain ⟨r, S2, e, l, h2, B⟩ := take_ok (m := 26) B (by omega) (by decide) (by decide)
    have f0 : (Str.ofString "abcdefghijklmnopqrstuvwxyz").length ≤ 100000 := by decide +kernel
    obtain ⟨g, gm, ge⟩ := at_mem (xs := tl "abcdefghijklmnopqrstuvwxyz") l (by
      have : (tl "abcdefghijklmnopqrstuvwxyz").length = 26 := by decide +kernel
      rw [this]
      exact h2)
    have gs : g < 1114112 := (by decide +kernel : ∀ g ∈ tl "abcdefghijklmnopqrstuvwxyz", g < 1114112) g gm
    refine ⟨_, S, .str ⟨#[g]⟩, S2, rfl, ?_, ⟨_, rfl, Tx.one gs⟩, B⟩
    simp (config := { decide := true }) only [bd_1, bd_2, bs_1, bs_2, sq_1, sq_2, sq_3, sq_4, sq_5, vr_1, ga_1, lcE_1, sSeq_e, sAsg_e, cAsg_1, sRet_e, cRt_1, sDrop_e, cDr_1, sIf_e, cIf_t, cIf_f, sSkip_e, sBrk_e, sCnt_e, sPar_e, cPar_1, cPar2_1, sFor_e, cFor_1, gVar_e, eVar_e, eC_e, eOp_e, cOp_1, eUn_e, aNil_e, aCons_e, cA_1, cA2_1, eCall_e, oCall_e, iCall_e, iVal_e, toB_1, bVal_e, bAnd_e, cAnd_1, bOr_e, cOr_1, bNot_e, cNot_1, eAnd_e, cEAnd_1, cEAnd2_1, eOr_e, cEOr_1, cEOr2_1, eNot_e, cENot_1, cENot2_1, eIf_e, cEIf_1, eChain_e, cCh_1, cCh1_1, cCh2_1, cCh3_1, eTup_e, cTup_1, oLst_e, cLst_1, eFz_e, cFz_1, ePtr_e, cPtr_1, oLc_e, cLc_1, eSh_e, itF_1, itF_2, itF_3, addF_1, addF_2, addF_3, intF_1, subF_1, modF_1, fdvF_1, powF_1, mulF_1, mulF_2, negF_1, ltF_1, leF_1, gtF_1, geF_1, atE_1, ixF_1, ixF_2, ixF_3, pxE_1, ixF_4, plE_1, lenF_4, eMt_e, cMt_1, eCut_e, cCut_1, cCut2_1, qNone_e, qSome_e, toI_1, cutF_1, cutF_2, cutF_3, cutF_4, eCallK_e, cK_1, cK2_1, eDic0_e, oCat_e, cCat_1, cCat2_1, cCat3_1, lsT_1, lsT_2, rcv_p, apE_1, appF_1, stL_app, set_app, stL_0, stL_k, stL_c, stL_s, set_0, set_k, shE_1, shF_1, lenF_1, lenF_2, lenF_3, absF_1, intOfF_1, intOfF_2, rng1F_1, rng2F_1, Ar_e, mkD_e, fin_1, fin_2, fin_3, few_e, tupOfF_1, tupOfF_2, tupOfF_3, lstOfF_1, lstOfF_2, lstOfF_3, isF_1, gStar_1, cIf_1, Option.isSome_some, List.length_map, List.length_append, List.append_assoc, Nat.add_assoc, slots, wpD, List.map_cons, List.map_nil, List.cons_append, List.nil_append, List.length_cons, List.length_nil, List.replicate, List.set_cons_succ, List.set_cons_zero, List.getElem?_cons_zero, List.getElem?_cons_succ, if_true, if_false, ite_true, ite_false, reduceIte, Nat.reduceAdd, Nat.reduceSub, Nat.reduceLeDiff, Nat.zero_add, Nat.sub_zero, Nat.sub_self, Bool.not_true, Bool.not_false, Bool.false_eq_true, decide_true, decide_false, Bool.true_and, Bool.and_true, Bool.or_true, Bool.true_or, Bool.false_and, Bool.and_false, Bool.or_false, Bool.false_or, decide_eq_true_eq, id_eq, Int.reduceLT, Int.reduceLE, Int.reduceNeg, Int.reduceAdd, Int.reduceSub, Int.reduceMul, Int.reduceMod, Int.reduceDiv, Int.reducePow, Int.reduceToNat, and_self, true_and, and_true, gStar_1, eqF_int, isiF_tup, isiF_lst, isiF_int, isiF_str, isiF_bl, at_0, gSet_e, seO_1, seI_1, lenF_5, addF_4, sxE_1, ixF_5, itF_4, max2F_e, min2F_e, eM1_c, cM1_1, oM1_c, cN1_1, intAnyF_b, intAnyF_s, strOfF_1, eqF_str, eqH_int, eqH_str, dvmF_1, gTwo_1, eIf_e, ce__law_named_1, e, f0, ge]) (by simpa using B)
  obtain ⟨ws, rfl, hws⟩ := strs_of xs hP
  rw [List.length_map] at hl
  have hy : Tx 1 (Str.ofString "") := ⟨by decide +kernel, by decide +kernel⟩
  have ej : joinF (.str "") (.lst (ws.map D.str)) S2 = some (.ok (.str (Txt.join "" ws)), S2) := join_ok hy hws (by omega) (by decide)
  have htx : Tx 18 (Txt.join "" ws) := (join_tx hy hws).mono (by
    have : ws.length * (1 + 1) ≤ 9 * 2 := Nat.mul_le_mul (by omega) (by decide)
    omega)
  obtain ⟨c2, hc2, B⟩ : ∃ c2, c2 ≤ c + 10 ∧ Bag n c2 S2 := ⟨_, by omega, B⟩
  obtain ⟨t, S3, e3, ht, B⟩ := spoilt_ok B (by omega) htx (by omega)
  have o1 : okI (1 + r1) = true := okI_small (by omega) (by omega)
  have f1 : ws.length ≤ 100000 := by omega
  refine ⟨t, S3, ?_, ht.mono (by omega), bag_mono B (by omega)⟩
  simp (config := { decide := true }) only [bd_1, bd_2, bs_1, bs_2, sq_1, sq_2, sq_3, sq_4, sq_5, vr_1, ga_1, lcE_1, sSeq_e, sAsg_e, cAsg_1, sRet_e, cRt_1, sDrop_e, cDr_1, sIf_e, cIf_t, cIf_f, sSkip_e, sBrk_e, sCnt_e, sPar_e, cPar_1, cPar2_1, sFor_e, cFor_1, gVar_e, eVar_e, eC_e, eOp_e, cOp_1, eUn_e, aNil_e, aCons_e, cA_1, cA2_1, eCall_e, oCall_e, iCall_e, iVal_e, toB_1, bVal_e, bAnd_e, cAnd_1, bOr_e, cOr_1, bNot_e, cNot_1, eAnd_e, cEAnd_1, cEAnd2_1, eOr_e, cEOr_1, cEOr2_1, eNot_e, cENot_1, cENot2_1, eIf_e, cEIf_1, eChain_e, cCh_1, cCh1_1, cCh2_1, cCh3_1, eTup_e, cTup_1, oLst_e, cLst_1, eFz_e, cFz_1, ePtr_e, cPtr_1, oLc_e, cLc_1, eSh_e, itF_1, itF_2, itF_3, addF_1, addF_2, addF_3, intF_1, subF_1, modF_1, fdvF_1, powF_1, mulF_1, mulF_2, negF_1, ltF_1, leF_1, gtF_1, geF_1, atE_1, ixF_1, ixF_2, ixF_3, pxE_1, ixF_4, plE_1, lenF_4, eMt_e, cMt_1, eCut_e, cCut_1, cCut2_1, qNone_e, qSome_e, toI_1, cutF_1, cutF_2, cutF_3, cutF_4, eCallK_e, cK_1, cK2_1, eDic0_e, oCat_e, cCat_1, cCat2_1, cCat3_1, lsT_1, lsT_2, rcv_p, apE_1, appF_1, stL_app, set_app, stL_0, stL_k, stL_c, stL_s, set_0, set_k, shE_1, shF_1, lenF_1, lenF_2, lenF_3, absF_1, intOfF_1, intOfF_2, rng1F_1, rng2F_1, Ar_e, mkD_e, fin_1, fin_2, fin_3, few_e, tupOfF_1, tupOfF_2, tupOfF_3, lstOfF_1, lstOfF_2, lstOfF_3, isF_1, gStar_1, cIf_1, Option.isSome_some, List.length_map, List.length_append, List.append_assoc, Nat.add_assoc, slots, wpD, List.map_cons, List.map_nil, List.cons_append, List.nil_append, List.length_cons, List.length_nil, List.replicate, List.set_cons_succ, List.set_cons_zero, List.getElem?_cons_zero, List.getElem?_cons_succ, if_true, if_false, ite_true, ite_false, reduceIte, Nat.reduceAdd, Nat.reduceSub, Nat.reduceLeDiff, Nat.zero_add, Nat.sub_zero, Nat.sub_self, Bool.not_true, Bool.not_false, Bool.false_eq_true, decide_true, decide_false, Bool.true_and, Bool.and_true, Bool.or_true, Bool.true_or, Bool.false_and, Bool.and_false, Bool.or_false, Bool.false_or, decide_eq_true_eq, id_eq, Int.reduceLT, Int.reduceLE, Int.reduceNeg, Int.reduceAdd, Int.reduceSub, Int.reduceMul, Int.reduceMod, Int.reduceDiv, Int.reducePow, Int.reduceToNat, and_self, true_and, and_true, gStar_1, eqF_int, isiF_tup, isiF_lst, isiF_int, isiF_str, isiF_bl, at_0, gSet_e, seO_1, seI_1, lenF_5, addF_4, sxE_1, ixF_5, itF_4, max2F_e, min2F_e, eM1_c, cM1_1, oM1_c, cN1_1, intAnyF_b, intAnyF_s, strOfF_1, eqF_str, eqH_int, eqH_str, dvmF_1, gTwo_1, eIf_e, d__law_named, b__law_named, e1, o1, e2, f1, ej, e3]
end W01

set_option Elab.async false
set_option linter.all false
set_option maxRecDepth 100000
set_option maxHeartbeats 4000000
namespace W01
open PySem L2 U TL
def It (x : D) : Prop := Et x = true ∧ Tj 2 100 x
theorem tupOf_p {S : ST} {m : Nat} {ds : List D} (h : stL S m = some ds) : tupOfF [.ptr m] S = some (.ok (.tup ds), S) := by
  have e : sqS S (.ptr m) = some ds := h
  unfold tupOfF
  simp only [e]
theorem eqH_p {S : ST} {m : Nat} {ds : List D} (h : stL S m = some ds) (hd : ∀ d ∈ ds, ∃ i : Int, d = .int i) : eqH not (.ptr m) (.lst []) S = some (.ok (.bl (!ds.isEmpty)), S) := by
  have key : ∀ es : List D, (∀ d ∈ es, ∃ i : Int, d = .int i) → ∃ ps, mapO (pyF S 11) es = some ps ∧ ps.isEmpty = es.isEmpty ∧ PyData.canLayAll0 ps = true ∧ PyData.depthAll ps = 0 := by
    intro es
    induction es with
    | nil => exact fun _ => ⟨[], rfl, rfl, rfl, rfl⟩
    | cons e es ih =>
      intro h
      obtain ⟨i, rfl⟩ := h e (List.mem_cons_self ..)
      obtain ⟨ps, h1, _, h3, h4⟩ := ih fun d hd => h d (List.mem_cons_of_mem _ hd)
      have p1 : pyF S 11 (.int i) = some (.int i) := rfl
      have p2 : PyData.canLay0 (.int i) = true := rfl
      refine ⟨.int i :: ps, by simp only [mapO, p1, h1], rfl, by simp only [PyData.canLayAll0, p2, h3, Bool.and_self], by simp [PyData.depthAll, PyData.depth, h4]⟩
  obtain ⟨ps, e1, e2, e3, e4⟩ := key ds hd
  have e : eqH not (.ptr m) (.lst []) S = eqG not (match stL S m with | some ds => (mapO (pyF S 11) ds).map .list | none => none) (some (.list [])) S := rfl
  rw [e, h]
  simp only [e1, Option.map_some]
  have s1 : SeqAt.shaped (.list ps) = true := by
    show (PyData.canLayAll0 ps && decide (PyData.depthAll ps + 1 ≤ 64)) = true
    rw [e3, e4]
    rfl
  show (if (SeqAt.shaped (.list ps) && SeqAt.shaped (.list [])) = true then some (Rs.ok (D.bl (not (PyData.eqv (.list ps) (.list [])))), S) else none) = _
  rw [s1, if_pos (show (true && SeqAt.shaped (.list [])) = true from by decide), ← e2]
  cases ps <;> rfl
theorem bag_ne {n c m : Nat} {S : ST} {o : MO} (B : Bag n c S) (h : m ≠ n) : Bag n c (S.set m o) := by
  obtain ⟨a, b, k, e, r⟩ := B
  exact ⟨a, b, k, by rw [stL_set_ne h]; exact e, r⟩
theorem bag_app {n c : Nat} {S : ST} {l : List MO} (B : Bag n c S) : Bag n c (S ++ l) := by
  obtain ⟨a, b, k, e, r⟩ := B
  refine ⟨a, b, k, ?_, r⟩
  have := stL_lt e
  unfold stL at e ⊢
  rw [List.getElem?_append_left this]
  exact e
theorem bag_lt {n c : Nat} {S : ST} (B : Bag n c S) : n < S.length := by
  obtain ⟨a, b, k, e, r⟩ := B
  exact stL_lt e
def lotsX : List D := [.int 10, .int (-1), .non, .bl true, .str "1", .lst [.int 1], .tup [.int 2], .bl false, .int 100000000000000000000000000000]
theorem lotsX_it : ∀ d ∈ lotsX, It d := by
  intro d hd
  simp only [lotsX, List.mem_cons, List.not_mem_nil, or_false] at hd
  rcases hd with rfl | rfl | rfl | rfl | rfl | rfl | rfl | rfl | rfl
  · exact ⟨rfl, (Tj.int (by decide)).mono (by decide) (by decide)⟩
  · exact ⟨rfl, (Tj.int (by decide)).mono (by decide) (by decide)⟩
  · exact ⟨rfl, .of (fun _ _ => rfl) (by decide +kernel)⟩
  · exact ⟨rfl, .of (fun _ _ => rfl) (by decide +kernel)⟩
  · exact ⟨rfl, .of (fun _ _ => rfl) (by decide +kernel)⟩
  · exact ⟨rfl, .of (fun _ _ => rfl) (by decide +kernel)⟩
  · exact ⟨rfl, .of (fun _ _ => rfl) (by decide +kernel)⟩
  · exact ⟨rfl, .of (fun _ _ => rfl) (by decide +kernel)⟩
  · exact ⟨rfl, (Tj.int (by decide)).mono (by decide) (by decide)⟩
theorem ixN_in {n : Nat} {i : Int} (h0 : 0 ≤ i) (h1 : i < n) : ixN n i = some i.toNat := by
  unfold ixN
  rw [if_pos h0, if_pos h1]
theorem row_ok {n c : Nat} {S : ST} (B : Bag n c S) (hc : c < 700) : ∃ d S' xs, d__law_row [.ptr n] S = some (.ok d, S') ∧ (d = .tup xs ∨ ∃ m, d = .ptr m ∧ m ≠ n ∧ stL S' m = some xs) ∧ xs.length ≤ 21 ∧ (∀ x ∈ xs, It x) ∧ Bag n (c + 30) S' := by
  obtain ⟨r1, S1, e1, l1, h1, B⟩ := take_ok (m := 20) B (by omega) (by decide) (by decide)
  obtain ⟨r2, S2, e2, l2, h2, B⟩ := take_ok (m := 5) B (by omega) (by decide) (by decide)
  obtain ⟨x0, hx0, a0⟩ := at_mem (xs := [D.int 0, .int 1, .int 20, .int 21, .int r1]) l2 (by simpa using h2)
  obtain ⟨k, rfl, k0, k1⟩ : ∃ i : Int, x0 = .int i ∧ 0 ≤ i ∧ i ≤ 21 := by
    simp only [List.mem_cons, List.not_mem_nil, or_false] at hx0
    rcases hx0 with rfl | rfl | rfl | rfl | rfl <;> exact ⟨_, rfl, by omega, by omega⟩
  have o1 : okI k = true := okI_small (by omega) (by omega)
  obtain ⟨xs, S3, e3, hl, hP, B⟩ := cm_inv (tg := gVar 2) (el := ce__law_row_1) (g := [some (.ptr n), none, none]) (fun i S => Bag n (c + 2 + i) S) (fun x => ∃ i : Int, x = .int i ∧ 0 ≤ i ∧ i < 10) (rngD 0 k) 0 S2 (by
    intro i d S h B
    rw [rngD_len] at h
    obtain ⟨r, S2, e, l, h2, B⟩ := take_ok (m := 10) B (by omega) (by decide) (by decide)
    refine ⟨_, S, .int r, S2, rfl, ?_, ⟨_, rfl, l, h2⟩, B⟩
    simp (config := { decide := true }) only [bd_1, bd_2, bs_1, bs_2, sq_1, sq_2, sq_3, sq_4, sq_5, vr_1, ga_1, lcE_1, sSeq_e, sAsg_e, cAsg_1, sRet_e, cRt_1, sDrop_e, cDr_1, sIf_e, cIf_t, cIf_f, sSkip_e, sBrk_e, sCnt_e, sPar_e, cPar_1, cPar2_1, sFor_e, cFor_1, gVar_e, eVar_e, eC_e, eOp_e, cOp_1, eUn_e, aNil_e, aCons_e, cA_1, cA2_1, eCall_e, oCall_e, iCall_e, iVal_e, toB_1, bVal_e, bAnd_e, cAnd_1, bOr_e, cOr_1, bNot_e, cNot_1, eAnd_e, cEAnd_1, cEAnd2_1, eOr_e, cEOr_1, cEOr2_1, eNot_e, cENot_1, cENot2_1, eIf_e, cEIf_1, eChain_e, cCh_1, cCh1_1, cCh2_1, cCh3_1, eTup_e, cTup_1, oLst_e, cLst_1, eFz_e, cFz_1, ePtr_e, cPtr_1, oLc_e, cLc_1, eSh_e, itF_1, itF_2, itF_3, addF_1, addF_2, addF_3, intF_1, subF_1, modF_1, fdvF_1, powF_1, mulF_1, mulF_2, negF_1, ltF_1, leF_1, gtF_1, geF_1, atE_1, ixF_1, ixF_2, ixF_3, pxE_1, ixF_4, plE_1, lenF_4, eMt_e, cMt_1, eCut_e, cCut_1, cCut2_1, qNone_e, qSome_e, toI_1, cutF_1, cutF_2, cutF_3, cutF_4, eCallK_e, cK_1, cK2_1, eDic0_e, oCat_e, cCat_1, cCat2_1, cCat3_1, lsT_1, lsT_2, rcv_p, apE_1, appF_1, stL_app, set_app, stL_0, stL_k, stL_c, stL_s, set_0, set_k, shE_1, shF_1, lenF_1, lenF_2, lenF_3, absF_1, intOfF_1, intOfF_2, rng1F_1, rng2F_1, Ar_e, mkD_e, fin_1, fin_2, fin_3, few_e, tupOfF_1, tupOfF_2, tupOfF_3, lstOfF_1, lstOfF_2, lstOfF_3, isF_1, gStar_1, cIf_1, Option.isSome_some, List.length_map, List.length_append, List.append_assoc, Nat.add_assoc, slots, wpD, List.map_cons, List.map_nil, List.cons_append, List.nil_append, List.length_cons, List.length_nil, List.replicate, List.set_cons_succ, List.set_cons_zero, List.getElem?_cons_zero, List.getElem?_cons_succ, if_true, if_false, ite_true, ite_false, reduceIte, Nat.reduceAdd, Nat.reduceSub, Nat.reduceLeDiff, Nat.zero_add, Nat.sub_zero, Nat.sub_self, Bool.not_true, Bool.not_false, Bool.false_eq_true, decide_true, decide_false, Bool.true_and, Bool.and_true, Bool.or_true, Bool.true_or, Bool.false_and, Bool.and_false, Bool.or_false, Bool.false_or, decide_eq_true_eq, id_eq, Int.reduceLT, Int.reduceLE, Int.reduceNeg, Int.reduceAdd, Int.reduceSub, Int.reduceMul, Int.reduceMod, Int.reduceDiv, Int.reducePow, Int.reduceToNat, and_self, true_and, and_true, gStar_1, eqF_int, isiF_tup, isiF_lst, isiF_int, isiF_str, isiF_bl, at_0, gSet_e, seO_1, seI_1, lenF_5, addF_4, sxE_1, ixF_5, itF_4, max2F_e, min2F_e, eM1_c, cM1_1, oM1_c, cN1_1, intAnyF_b, intAnyF_s, strOfF_1, eqF_str, eqH_int, eqH_str, dvmF_1, gTwo_1, eIf_e, ce__law_row_1, e]) (by simpa using B)
  rw [rngD_len] at hl
  rw [rngD_len] at B
  have hl2 : xs.length ≤ 21 := by omega
  have f1 : xs.length ≤ 100000 := by omega
  have hints : ∀ d ∈ xs, ∃ i : Int, d = .int i := fun d hd => let ⟨i, h, _⟩ := hP d hd; ⟨i, h⟩
  have hit : ∀ d ∈ xs, It d := fun d hd => by
    obtain ⟨i, rfl, h1, h2⟩ := hP d hd
    have : (10 : Nat) ^ 40 = 10000000000000000000000000000000000000000 := by decide
    exact ⟨rfl, (Tj.int (by omega)).mono (by decide) (by decide)⟩
  obtain ⟨c3, hc3, B⟩ : ∃ c3, c3 ≤ c + 23 ∧ Bag n c3 S3 := ⟨_, by omega, B⟩
  have hm : S3.length ≠ n := Nat.ne_of_gt (bag_lt B)
  have s4 : stL (S3 ++ [.lst xs]) S3.length = some xs := stL_app
  have B4 : Bag n c3 (S3 ++ [.lst xs]) := bag_app B
  have q4 := eqH_p s4 hints
  generalize hT : S3 ++ [MO.lst xs] = T at s4 B4 q4
  generalize hM : S3.length = m at hm s4 q4
  by_cases hx : xs.isEmpty = true
  · obtain ⟨r5, S5, e5, l5, h5, B5, fr5⟩ := take_fr (m := 2) B4 (by omega) (by decide) (by decide)
    obtain ⟨d, hd, a5⟩ := at_mem (xs := [D.ptr m, .tup xs]) l5 (by simpa using h5)
    refine ⟨d, S5, xs, ?_, ?_, hl2, hit, bag_mono B5 (by omega)⟩
    · simp (config := { decide := true }) only [bd_1, bd_2, bs_1, bs_2, sq_1, sq_2, sq_3, sq_4, sq_5, vr_1, ga_1, lcE_1, sSeq_e, sAsg_e, cAsg_1, sRet_e, cRt_1, sDrop_e, cDr_1, sIf_e, cIf_t, cIf_f, sSkip_e, sBrk_e, sCnt_e, sPar_e, cPar_1, cPar2_1, sFor_e, cFor_1, gVar_e, eVar_e, eC_e, eOp_e, cOp_1, eUn_e, aNil_e, aCons_e, cA_1, cA2_1, eCall_e, oCall_e, iCall_e, iVal_e, toB_1, bVal_e, bAnd_e, cAnd_1, bOr_e, cOr_1, bNot_e, cNot_1, eAnd_e, cEAnd_1, cEAnd2_1, eOr_e, cEOr_1, cEOr2_1, eNot_e, cENot_1, cENot2_1, eIf_e, cEIf_1, eChain_e, cCh_1, cCh1_1, cCh2_1, cCh3_1, eTup_e, cTup_1, oLst_e, cLst_1, eFz_e, cFz_1, ePtr_e, cPtr_1, oLc_e, cLc_1, eSh_e, itF_1, itF_2, itF_3, addF_1, addF_2, addF_3, intF_1, subF_1, modF_1, fdvF_1, powF_1, mulF_1, mulF_2, negF_1, ltF_1, leF_1, gtF_1, geF_1, atE_1, ixF_1, ixF_2, ixF_3, pxE_1, ixF_4, plE_1, lenF_4, eMt_e, cMt_1, eCut_e, cCut_1, cCut2_1, qNone_e, qSome_e, toI_1, cutF_1, cutF_2, cutF_3, cutF_4, eCallK_e, cK_1, cK2_1, eDic0_e, oCat_e, cCat_1, cCat2_1, cCat3_1, lsT_1, lsT_2, rcv_p, apE_1, appF_1, stL_app, set_app, stL_0, stL_k, stL_c, stL_s, set_0, set_k, shE_1, shF_1, lenF_1, lenF_2, lenF_3, absF_1, intOfF_1, intOfF_2, rng1F_1, rng2F_1, Ar_e, mkD_e, fin_1, fin_2, fin_3, few_e, tupOfF_1, tupOfF_2, tupOfF_3, lstOfF_1, lstOfF_2, lstOfF_3, isF_1, gStar_1, cIf_1, Option.isSome_some, List.length_map, List.length_append, List.append_assoc, Nat.add_assoc, slots, wpD, List.map_cons, List.map_nil, List.cons_append, List.nil_append, List.length_cons, List.length_nil, List.replicate, List.set_cons_succ, List.set_cons_zero, List.getElem?_cons_zero, List.getElem?_cons_succ, if_true, if_false, ite_true, ite_false, reduceIte, Nat.reduceAdd, Nat.reduceSub, Nat.reduceLeDiff, Nat.zero_add, Nat.sub_zero, Nat.sub_self, Bool.not_true, Bool.not_false, Bool.false_eq_true, decide_true, decide_false, Bool.true_and, Bool.and_true, Bool.or_true, Bool.true_or, Bool.false_and, Bool.and_false, Bool.or_false, Bool.false_or, decide_eq_true_eq, id_eq, Int.reduceLT, Int.reduceLE, Int.reduceNeg, Int.reduceAdd, Int.reduceSub, Int.reduceMul, Int.reduceMod, Int.reduceDiv, Int.reducePow, Int.reduceToNat, and_self, true_and, and_true, gStar_1, eqF_int, isiF_tup, isiF_lst, isiF_int, isiF_str, isiF_bl, at_0, gSet_e, seO_1, seI_1, lenF_5, addF_4, sxE_1, ixF_5, itF_4, max2F_e, min2F_e, eM1_c, cM1_1, oM1_c, cN1_1, intAnyF_b, intAnyF_s, strOfF_1, eqF_str, eqH_int, eqH_str, dvmF_1, gTwo_1, eIf_e, d__law_row, b__law_row, e1, e2, a0, o1, e3, f1, hT, hM, q4, hx, tupOf_p s4, e5, a5]
    · simp only [List.mem_cons, List.not_mem_nil, or_false] at hd
      rcases hd with rfl | rfl
      · exact .inr ⟨m, rfl, hm, by rw [fr5 m hm]; exact s4⟩
      · exact .inl rfl
  · have hx' : xs.isEmpty = false := Bool.eq_false_iff.mpr hx
    have hx0 : 0 < xs.length := by
      cases xs with
      | nil => exact absurd rfl hx
      | cons => simp
    obtain ⟨r4, S5, e4, l4, h4, B5, fr4⟩ := take_fr (m := 2) B4 (by omega) (by decide) (by decide)
    have s5 : stL S5 m = some xs := by rw [fr4 m hm]; exact s4
    by_cases c0 : (r4 == 0) = true
    · obtain ⟨r6, S6, e6, l6, h6, B6, fr6⟩ := take_fr (m := 9) B5 (by omega) (by decide) (by decide)
      have s6 : stL S6 m = some xs := by rw [fr6 m hm]; exact s5
      obtain ⟨x, hxx, a6⟩ := at_mem (xs := lotsX) l6 (by simpa [lotsX] using h6)
      obtain ⟨r7, S7, e7, l7, h7, B7, fr7⟩ := take_fr (m := (xs.length : Int)) B6 (by omega) (by omega) (by
        have : (xs.length : Int).natAbs ≠ 0 := by omega
        exact Nat.lt_trans ((Nat.log2_lt this).mpr (by have : (2 : Nat) ^ 20 = 1048576 := by decide
                                                       omega : (xs.length : Int).natAbs < 2 ^ 20)) (by decide))
      have s7 : stL S7 m = some xs := by rw [fr7 m hm]; exact s6
      have x7 := ixN_in l7 h7
      have B8 : Bag n _ (S7.set m (.lst (xs.set r7.toNat x))) := bag_ne B7 hm
      have s8 : stL (S7.set m (.lst (xs.set r7.toNat x))) m = some (xs.set r7.toNat x) := stL_set (stL_lt s7)
      obtain ⟨r9, S9, e9, l9, h9, B9, fr9⟩ := take_fr (m := 2) B8 (by omega) (by decide) (by decide)
      obtain ⟨d, hd, a9⟩ := at_mem (xs := [D.ptr m, .tup (xs.set r7.toNat x)]) l9 (by simpa using h9)
      refine ⟨d, S9, xs.set r7.toNat x, ?_, ?_, by rw [List.length_set]; exact hl2, fun y hy => ?_, bag_mono B9 (by omega)⟩
      · unfold lotsX at a6
        simp (config := { decide := true }) only [bd_1, bd_2, bs_1, bs_2, sq_1, sq_2, sq_3, sq_4, sq_5, vr_1, ga_1, lcE_1, sSeq_e, sAsg_e, cAsg_1, sRet_e, cRt_1, sDrop_e, cDr_1, sIf_e, cIf_t, cIf_f, sSkip_e, sBrk_e, sCnt_e, sPar_e, cPar_1, cPar2_1, sFor_e, cFor_1, gVar_e, eVar_e, eC_e, eOp_e, cOp_1, eUn_e, aNil_e, aCons_e, cA_1, cA2_1, eCall_e, oCall_e, iCall_e, iVal_e, toB_1, bVal_e, bAnd_e, cAnd_1, bOr_e, cOr_1, bNot_e, cNot_1, eAnd_e, cEAnd_1, cEAnd2_1, eOr_e, cEOr_1, cEOr2_1, eNot_e, cENot_1, cENot2_1, eIf_e, cEIf_1, eChain_e, cCh_1, cCh1_1, cCh2_1, cCh3_1, eTup_e, cTup_1, oLst_e, cLst_1, eFz_e, cFz_1, ePtr_e, cPtr_1, oLc_e, cLc_1, eSh_e, itF_1, itF_2, itF_3, addF_1, addF_2, addF_3, intF_1, subF_1, modF_1, fdvF_1, powF_1, mulF_1, mulF_2, negF_1, ltF_1, leF_1, gtF_1, geF_1, atE_1, ixF_1, ixF_2, ixF_3, pxE_1, ixF_4, plE_1, lenF_4, eMt_e, cMt_1, eCut_e, cCut_1, cCut2_1, qNone_e, qSome_e, toI_1, cutF_1, cutF_2, cutF_3, cutF_4, eCallK_e, cK_1, cK2_1, eDic0_e, oCat_e, cCat_1, cCat2_1, cCat3_1, lsT_1, lsT_2, rcv_p, apE_1, appF_1, stL_app, set_app, stL_0, stL_k, stL_c, stL_s, set_0, set_k, shE_1, shF_1, lenF_1, lenF_2, lenF_3, absF_1, intOfF_1, intOfF_2, rng1F_1, rng2F_1, Ar_e, mkD_e, fin_1, fin_2, fin_3, few_e, tupOfF_1, tupOfF_2, tupOfF_3, lstOfF_1, lstOfF_2, lstOfF_3, isF_1, gStar_1, cIf_1, Option.isSome_some, List.length_map, List.length_append, List.append_assoc, Nat.add_assoc, slots, wpD, List.map_cons, List.map_nil, List.cons_append, List.nil_append, List.length_cons, List.length_nil, List.replicate, List.set_cons_succ, List.set_cons_zero, List.getElem?_cons_zero, List.getElem?_cons_succ, if_true, if_false, ite_true, ite_false, reduceIte, Nat.reduceAdd, Nat.reduceSub, Nat.reduceLeDiff, Nat.zero_add, Nat.sub_zero, Nat.sub_self, Bool.not_true, Bool.not_false, Bool.false_eq_true, decide_true, decide_false, Bool.true_and, Bool.and_true, Bool.or_true, Bool.true_or, Bool.false_and, Bool.and_false, Bool.or_false, Bool.false_or, decide_eq_true_eq, id_eq, Int.reduceLT, Int.reduceLE, Int.reduceNeg, Int.reduceAdd, Int.reduceSub, Int.reduceMul, Int.reduceMod, Int.reduceDiv, Int.reducePow, Int.reduceToNat, and_self, true_and, and_true, gStar_1, eqF_int, isiF_tup, isiF_lst, isiF_int, isiF_str, isiF_bl, at_0, gSet_e, seO_1, seI_1, lenF_5, addF_4, sxE_1, ixF_5, itF_4, max2F_e, min2F_e, eM1_c, cM1_1, oM1_c, cN1_1, intAnyF_b, intAnyF_s, strOfF_1, eqF_str, eqH_int, eqH_str, dvmF_1, gTwo_1, eIf_e, d__law_row, b__law_row, e1, e2, a0, o1, e3, f1, hT, hM, q4, hx', e4, eqH_int, c0, e6, a6, s6, e7, gSet_e, seO_1, seI_1, s7, seE_1, x7, tupOf_p s8, e9, a9]
      · simp only [List.mem_cons, List.not_mem_nil, or_false] at hd
        rcases hd with rfl | rfl
        · exact .inr ⟨m, rfl, hm, by rw [fr9 m hm]; exact s8⟩
        · exact .inl rfl
      · rcases List.mem_or_eq_of_mem_set hy with h | h
        · exact hit y h
        · rw [h]; exact lotsX_it x hxx
    · obtain ⟨r9, S9, e9, l9, h9, B9, fr9⟩ := take_fr (m := 2) B5 (by omega) (by decide) (by decide)
      obtain ⟨d, hd, a9⟩ := at_mem (xs := [D.ptr m, .tup xs]) l9 (by simpa using h9)
      refine ⟨d, S9, xs, ?_, ?_, hl2, hit, bag_mono B9 (by omega)⟩
      · simp (config := { decide := true }) only [bd_1, bd_2, bs_1, bs_2, sq_1, sq_2, sq_3, sq_4, sq_5, vr_1, ga_1, lcE_1, sSeq_e, sAsg_e, cAsg_1, sRet_e, cRt_1, sDrop_e, cDr_1, sIf_e, cIf_t, cIf_f, sSkip_e, sBrk_e, sCnt_e, sPar_e, cPar_1, cPar2_1, sFor_e, cFor_1, gVar_e, eVar_e, eC_e, eOp_e, cOp_1, eUn_e, aNil_e, aCons_e, cA_1, cA2_1, eCall_e, oCall_e, iCall_e, iVal_e, toB_1, bVal_e, bAnd_e, cAnd_1, bOr_e, cOr_1, bNot_e, cNot_1, eAnd_e, cEAnd_1, cEAnd2_1, eOr_e, cEOr_1, cEOr2_1, eNot_e, cENot_1, cENot2_1, eIf_e, cEIf_1, eChain_e, cCh_1, cCh1_1, cCh2_1, cCh3_1, eTup_e, cTup_1, oLst_e, cLst_1, eFz_e, cFz_1, ePtr_e, cPtr_1, oLc_e, cLc_1, eSh_e, itF_1, itF_2, itF_3, addF_1, addF_2, addF_3, intF_1, subF_1, modF_1, fdvF_1, powF_1, mulF_1, mulF_2, negF_1, ltF_1, leF_1, gtF_1, geF_1, atE_1, ixF_1, ixF_2, ixF_3, pxE_1, ixF_4, plE_1, lenF_4, eMt_e, cMt_1, eCut_e, cCut_1, cCut2_1, qNone_e, qSome_e, toI_1, cutF_1, cutF_2, cutF_3, cutF_4, eCallK_e, cK_1, cK2_1, eDic0_e, oCat_e, cCat_1, cCat2_1, cCat3_1, lsT_1, lsT_2, rcv_p, apE_1, appF_1, stL_app, set_app, stL_0, stL_k, stL_c, stL_s, set_0, set_k, shE_1, shF_1, lenF_1, lenF_2, lenF_3, absF_1, intOfF_1, intOfF_2, rng1F_1, rng2F_1, Ar_e, mkD_e, fin_1, fin_2, fin_3, few_e, tupOfF_1, tupOfF_2, tupOfF_3, lstOfF_1, lstOfF_2, lstOfF_3, isF_1, gStar_1, cIf_1, Option.isSome_some, List.length_map, List.length_append, List.append_assoc, Nat.add_assoc, slots, wpD, List.map_cons, List.map_nil, List.cons_append, List.nil_append, List.length_cons, List.length_nil, List.replicate, List.set_cons_succ, List.set_cons_zero, List.getElem?_cons_zero, List.getElem?_cons_succ, if_true, if_false, ite_true, ite_false, reduceIte, Nat.reduceAdd, Nat.reduceSub, Nat.reduceLeDiff, Nat.zero_add, Nat.sub_zero, Nat.sub_self, Bool.not_true, Bool.not_false, Bool.false_eq_true, decide_true, decide_false, Bool.true_and, Bool.and_true, Bool.or_true, Bool.true_or, Bool.false_and, Bool.and_false, Bool.or_false, Bool.false_or, decide_eq_true_eq, id_eq, Int.reduceLT, Int.reduceLE, Int.reduceNeg, Int.reduceAdd, Int.reduceSub, Int.reduceMul, Int.reduceMod, Int.reduceDiv, Int.reducePow, Int.reduceToNat, and_self, true_and, and_true, gStar_1, eqF_int, isiF_tup, isiF_lst, isiF_int, isiF_str, isiF_bl, at_0, gSet_e, seO_1, seI_1, lenF_5, addF_4, sxE_1, ixF_5, itF_4, max2F_e, min2F_e, eM1_c, cM1_1, oM1_c, cN1_1, intAnyF_b, intAnyF_s, strOfF_1, eqF_str, eqH_int, eqH_str, dvmF_1, gTwo_1, eIf_e, d__law_row, b__law_row, e1, e2, a0, o1, e3, f1, hT, hM, q4, hx', e4, eqH_int, c0, tupOf_p s5, e9, a9]
      · simp only [List.mem_cons, List.not_mem_nil, or_false] at hd
        rcases hd with rfl | rfl
        · exact .inr ⟨m, rfl, hm, by rw [fr9 m hm]; exact s5⟩
        · exact .inl rfl
end W01

set_option Elab.async false
set_option linter.all false
set_option maxRecDepth 100000
set_option maxHeartbeats 4000000
namespace W01
open PySem L2 U TL
theorem mkX_1 {c x f : Str} {d : D} {S : ST} : mkX c x f [d] S = some (.ok (.exc c x [(f, d)]), S) := rfl
theorem is_ok (b : Bool) (S : ST) : d__law_is [.bl b, .bl b] S = some (.ok (.bl true), S) := by
  have e : ∀ b, eqH id (.bl b) (.bl b) S = some (.ok (.bl true), S) := fun b => by cases b <;> rfl
  simp (config := { decide := true }) only [bd_1, bd_2, bs_1, bs_2, sq_1, sq_2, sq_3, sq_4, sq_5, vr_1, ga_1, lcE_1, sSeq_e, sAsg_e, cAsg_1, sRet_e, cRt_1, sDrop_e, cDr_1, sIf_e, cIf_t, cIf_f, sSkip_e, sBrk_e, sCnt_e, sPar_e, cPar_1, cPar2_1, sFor_e, cFor_1, gVar_e, eVar_e, eC_e, eOp_e, cOp_1, eUn_e, aNil_e, aCons_e, cA_1, cA2_1, eCall_e, oCall_e, iCall_e, iVal_e, toB_1, bVal_e, bAnd_e, cAnd_1, bOr_e, cOr_1, bNot_e, cNot_1, eAnd_e, cEAnd_1, cEAnd2_1, eOr_e, cEOr_1, cEOr2_1, eNot_e, cENot_1, cENot2_1, eIf_e, cEIf_1, eChain_e, cCh_1, cCh1_1, cCh2_1, cCh3_1, eTup_e, cTup_1, oLst_e, cLst_1, eFz_e, cFz_1, ePtr_e, cPtr_1, oLc_e, cLc_1, eSh_e, itF_1, itF_2, itF_3, addF_1, addF_2, addF_3, intF_1, subF_1, modF_1, fdvF_1, powF_1, mulF_1, mulF_2, negF_1, ltF_1, leF_1, gtF_1, geF_1, atE_1, ixF_1, ixF_2, ixF_3, pxE_1, ixF_4, plE_1, lenF_4, eMt_e, cMt_1, eCut_e, cCut_1, cCut2_1, qNone_e, qSome_e, toI_1, cutF_1, cutF_2, cutF_3, cutF_4, eCallK_e, cK_1, cK2_1, eDic0_e, oCat_e, cCat_1, cCat2_1, cCat3_1, lsT_1, lsT_2, rcv_p, apE_1, appF_1, stL_app, set_app, stL_0, stL_k, stL_c, stL_s, set_0, set_k, shE_1, shF_1, lenF_1, lenF_2, lenF_3, absF_1, intOfF_1, intOfF_2, rng1F_1, rng2F_1, Ar_e, mkD_e, fin_1, fin_2, fin_3, few_e, tupOfF_1, tupOfF_2, tupOfF_3, lstOfF_1, lstOfF_2, lstOfF_3, isF_1, gStar_1, cIf_1, Option.isSome_some, List.length_map, List.length_append, List.append_assoc, Nat.add_assoc, slots, wpD, List.map_cons, List.map_nil, List.cons_append, List.nil_append, List.length_cons, List.length_nil, List.replicate, List.set_cons_succ, List.set_cons_zero, List.getElem?_cons_zero, List.getElem?_cons_succ, if_true, if_false, ite_true, ite_false, reduceIte, Nat.reduceAdd, Nat.reduceSub, Nat.reduceLeDiff, Nat.zero_add, Nat.sub_zero, Nat.sub_self, Bool.not_true, Bool.not_false, Bool.false_eq_true, decide_true, decide_false, Bool.true_and, Bool.and_true, Bool.or_true, Bool.true_or, Bool.false_and, Bool.and_false, Bool.or_false, Bool.false_or, decide_eq_true_eq, id_eq, Int.reduceLT, Int.reduceLE, Int.reduceNeg, Int.reduceAdd, Int.reduceSub, Int.reduceMul, Int.reduceMod, Int.reduceDiv, Int.reducePow, Int.reduceToNat, and_self, true_and, and_true, gStar_1, eqF_int, isiF_tup, isiF_lst, isiF_int, isiF_str, isiF_bl, at_0, gSet_e, seO_1, seI_1, lenF_5, addF_4, sxE_1, ixF_5, itF_4, max2F_e, min2F_e, eM1_c, cM1_1, oM1_c, cN1_1, intAnyF_b, intAnyF_s, strOfF_1, eqF_str, eqH_int, eqH_str, dvmF_1, gTwo_1, eIf_e, d__law_is, b__law_is, isx_bl, isaB, e]
theorem due_ok {d : D} (h : Et d = true) (lo hi : Int) (a0 a1 a2 a3 a4 a5 a8 a9 a10 : Option D) (S : ST) : (eAnd (eCall (Ar 1 d__law_whole) (aCons (eVar 11) aNil)) (eChain leF leF (eVar 6) (eVar 11) (eVar 7))) [a0, a1, a2, a3, a4, a5, some (.int lo), some (.int hi), a8, a9, a10, some d] S = some (.ok (.bl (inB lo hi d)), S) := by
  cases d with
  | int i =>
    by_cases h1 : lo ≤ i
    · by_cases h2 : i ≤ hi
      · simp (config := { decide := true }) only [bd_1, bd_2, bs_1, bs_2, sq_1, sq_2, sq_3, sq_4, sq_5, vr_1, ga_1, lcE_1, sSeq_e, sAsg_e, cAsg_1, sRet_e, cRt_1, sDrop_e, cDr_1, sIf_e, cIf_t, cIf_f, sSkip_e, sBrk_e, sCnt_e, sPar_e, cPar_1, cPar2_1, sFor_e, cFor_1, gVar_e, eVar_e, eC_e, eOp_e, cOp_1, eUn_e, aNil_e, aCons_e, cA_1, cA2_1, eCall_e, oCall_e, iCall_e, iVal_e, toB_1, bVal_e, bAnd_e, cAnd_1, bOr_e, cOr_1, bNot_e, cNot_1, eAnd_e, cEAnd_1, cEAnd2_1, eOr_e, cEOr_1, cEOr2_1, eNot_e, cENot_1, cENot2_1, eIf_e, cEIf_1, eChain_e, cCh_1, cCh1_1, cCh2_1, cCh3_1, eTup_e, cTup_1, oLst_e, cLst_1, eFz_e, cFz_1, ePtr_e, cPtr_1, oLc_e, cLc_1, eSh_e, itF_1, itF_2, itF_3, addF_1, addF_2, addF_3, intF_1, subF_1, modF_1, fdvF_1, powF_1, mulF_1, mulF_2, negF_1, ltF_1, leF_1, gtF_1, geF_1, atE_1, ixF_1, ixF_2, ixF_3, pxE_1, ixF_4, plE_1, lenF_4, eMt_e, cMt_1, eCut_e, cCut_1, cCut2_1, qNone_e, qSome_e, toI_1, cutF_1, cutF_2, cutF_3, cutF_4, eCallK_e, cK_1, cK2_1, eDic0_e, oCat_e, cCat_1, cCat2_1, cCat3_1, lsT_1, lsT_2, rcv_p, apE_1, appF_1, stL_app, set_app, stL_0, stL_k, stL_c, stL_s, set_0, set_k, shE_1, shF_1, lenF_1, lenF_2, lenF_3, absF_1, intOfF_1, intOfF_2, rng1F_1, rng2F_1, Ar_e, mkD_e, fin_1, fin_2, fin_3, few_e, tupOfF_1, tupOfF_2, tupOfF_3, lstOfF_1, lstOfF_2, lstOfF_3, isF_1, gStar_1, cIf_1, Option.isSome_some, List.length_map, List.length_append, List.append_assoc, Nat.add_assoc, slots, wpD, List.map_cons, List.map_nil, List.cons_append, List.nil_append, List.length_cons, List.length_nil, List.replicate, List.set_cons_succ, List.set_cons_zero, List.getElem?_cons_zero, List.getElem?_cons_succ, if_true, if_false, ite_true, ite_false, reduceIte, Nat.reduceAdd, Nat.reduceSub, Nat.reduceLeDiff, Nat.zero_add, Nat.sub_zero, Nat.sub_self, Bool.not_true, Bool.not_false, Bool.false_eq_true, decide_true, decide_false, Bool.true_and, Bool.and_true, Bool.or_true, Bool.true_or, Bool.false_and, Bool.and_false, Bool.or_false, Bool.false_or, decide_eq_true_eq, id_eq, Int.reduceLT, Int.reduceLE, Int.reduceNeg, Int.reduceAdd, Int.reduceSub, Int.reduceMul, Int.reduceMod, Int.reduceDiv, Int.reducePow, Int.reduceToNat, and_self, true_and, and_true, gStar_1, eqF_int, isiF_tup, isiF_lst, isiF_int, isiF_str, isiF_bl, at_0, gSet_e, seO_1, seI_1, lenF_5, addF_4, sxE_1, ixF_5, itF_4, max2F_e, min2F_e, eM1_c, cM1_1, oM1_c, cN1_1, intAnyF_b, intAnyF_s, strOfF_1, eqF_str, eqH_int, eqH_str, dvmF_1, gTwo_1, eIf_e, whole_ok h, isI, inB, h1, h2]
      · simp (config := { decide := true }) only [bd_1, bd_2, bs_1, bs_2, sq_1, sq_2, sq_3, sq_4, sq_5, vr_1, ga_1, lcE_1, sSeq_e, sAsg_e, cAsg_1, sRet_e, cRt_1, sDrop_e, cDr_1, sIf_e, cIf_t, cIf_f, sSkip_e, sBrk_e, sCnt_e, sPar_e, cPar_1, cPar2_1, sFor_e, cFor_1, gVar_e, eVar_e, eC_e, eOp_e, cOp_1, eUn_e, aNil_e, aCons_e, cA_1, cA2_1, eCall_e, oCall_e, iCall_e, iVal_e, toB_1, bVal_e, bAnd_e, cAnd_1, bOr_e, cOr_1, bNot_e, cNot_1, eAnd_e, cEAnd_1, cEAnd2_1, eOr_e, cEOr_1, cEOr2_1, eNot_e, cENot_1, cENot2_1, eIf_e, cEIf_1, eChain_e, cCh_1, cCh1_1, cCh2_1, cCh3_1, eTup_e, cTup_1, oLst_e, cLst_1, eFz_e, cFz_1, ePtr_e, cPtr_1, oLc_e, cLc_1, eSh_e, itF_1, itF_2, itF_3, addF_1, addF_2, addF_3, intF_1, subF_1, modF_1, fdvF_1, powF_1, mulF_1, mulF_2, negF_1, ltF_1, leF_1, gtF_1, geF_1, atE_1, ixF_1, ixF_2, ixF_3, pxE_1, ixF_4, plE_1, lenF_4, eMt_e, cMt_1, eCut_e, cCut_1, cCut2_1, qNone_e, qSome_e, toI_1, cutF_1, cutF_2, cutF_3, cutF_4, eCallK_e, cK_1, cK2_1, eDic0_e, oCat_e, cCat_1, cCat2_1, cCat3_1, lsT_1, lsT_2, rcv_p, apE_1, appF_1, stL_app, set_app, stL_0, stL_k, stL_c, stL_s, set_0, set_k, shE_1, shF_1, lenF_1, lenF_2, lenF_3, absF_1, intOfF_1, intOfF_2, rng1F_1, rng2F_1, Ar_e, mkD_e, fin_1, fin_2, fin_3, few_e, tupOfF_1, tupOfF_2, tupOfF_3, lstOfF_1, lstOfF_2, lstOfF_3, isF_1, gStar_1, cIf_1, Option.isSome_some, List.length_map, List.length_append, List.append_assoc, Nat.add_assoc, slots, wpD, List.map_cons, List.map_nil, List.cons_append, List.nil_append, List.length_cons, List.length_nil, List.replicate, List.set_cons_succ, List.set_cons_zero, List.getElem?_cons_zero, List.getElem?_cons_succ, if_true, if_false, ite_true, ite_false, reduceIte, Nat.reduceAdd, Nat.reduceSub, Nat.reduceLeDiff, Nat.zero_add, Nat.sub_zero, Nat.sub_self, Bool.not_true, Bool.not_false, Bool.false_eq_true, decide_true, decide_false, Bool.true_and, Bool.and_true, Bool.or_true, Bool.true_or, Bool.false_and, Bool.and_false, Bool.or_false, Bool.false_or, decide_eq_true_eq, id_eq, Int.reduceLT, Int.reduceLE, Int.reduceNeg, Int.reduceAdd, Int.reduceSub, Int.reduceMul, Int.reduceMod, Int.reduceDiv, Int.reducePow, Int.reduceToNat, and_self, true_and, and_true, gStar_1, eqF_int, isiF_tup, isiF_lst, isiF_int, isiF_str, isiF_bl, at_0, gSet_e, seO_1, seI_1, lenF_5, addF_4, sxE_1, ixF_5, itF_4, max2F_e, min2F_e, eM1_c, cM1_1, oM1_c, cN1_1, intAnyF_b, intAnyF_s, strOfF_1, eqF_str, eqH_int, eqH_str, dvmF_1, gTwo_1, eIf_e, whole_ok h, isI, inB, h1, h2]
    · simp (config := { decide := true }) only [bd_1, bd_2, bs_1, bs_2, sq_1, sq_2, sq_3, sq_4, sq_5, vr_1, ga_1, lcE_1, sSeq_e, sAsg_e, cAsg_1, sRet_e, cRt_1, sDrop_e, cDr_1, sIf_e, cIf_t, cIf_f, sSkip_e, sBrk_e, sCnt_e, sPar_e, cPar_1, cPar2_1, sFor_e, cFor_1, gVar_e, eVar_e, eC_e, eOp_e, cOp_1, eUn_e, aNil_e, aCons_e, cA_1, cA2_1, eCall_e, oCall_e, iCall_e, iVal_e, toB_1, bVal_e, bAnd_e, cAnd_1, bOr_e, cOr_1, bNot_e, cNot_1, eAnd_e, cEAnd_1, cEAnd2_1, eOr_e, cEOr_1, cEOr2_1, eNot_e, cENot_1, cENot2_1, eIf_e, cEIf_1, eChain_e, cCh_1, cCh1_1, cCh2_1, cCh3_1, eTup_e, cTup_1, oLst_e, cLst_1, eFz_e, cFz_1, ePtr_e, cPtr_1, oLc_e, cLc_1, eSh_e, itF_1, itF_2, itF_3, addF_1, addF_2, addF_3, intF_1, subF_1, modF_1, fdvF_1, powF_1, mulF_1, mulF_2, negF_1, ltF_1, leF_1, gtF_1, geF_1, atE_1, ixF_1, ixF_2, ixF_3, pxE_1, ixF_4, plE_1, lenF_4, eMt_e, cMt_1, eCut_e, cCut_1, cCut2_1, qNone_e, qSome_e, toI_1, cutF_1, cutF_2, cutF_3, cutF_4, eCallK_e, cK_1, cK2_1, eDic0_e, oCat_e, cCat_1, cCat2_1, cCat3_1, lsT_1, lsT_2, rcv_p, apE_1, appF_1, stL_app, set_app, stL_0, stL_k, stL_c, stL_s, set_0, set_k, shE_1, shF_1, lenF_1, lenF_2, lenF_3, absF_1, intOfF_1, intOfF_2, rng1F_1, rng2F_1, Ar_e, mkD_e, fin_1, fin_2, fin_3, few_e, tupOfF_1, tupOfF_2, tupOfF_3, lstOfF_1, lstOfF_2, lstOfF_3, isF_1, gStar_1, cIf_1, Option.isSome_some, List.length_map, List.length_append, List.append_assoc, Nat.add_assoc, slots, wpD, List.map_cons, List.map_nil, List.cons_append, List.nil_append, List.length_cons, List.length_nil, List.replicate, List.set_cons_succ, List.set_cons_zero, List.getElem?_cons_zero, List.getElem?_cons_succ, if_true, if_false, ite_true, ite_false, reduceIte, Nat.reduceAdd, Nat.reduceSub, Nat.reduceLeDiff, Nat.zero_add, Nat.sub_zero, Nat.sub_self, Bool.not_true, Bool.not_false, Bool.false_eq_true, decide_true, decide_false, Bool.true_and, Bool.and_true, Bool.or_true, Bool.true_or, Bool.false_and, Bool.and_false, Bool.or_false, Bool.false_or, decide_eq_true_eq, id_eq, Int.reduceLT, Int.reduceLE, Int.reduceNeg, Int.reduceAdd, Int.reduceSub, Int.reduceMul, Int.reduceMod, Int.reduceDiv, Int.reducePow, Int.reduceToNat, and_self, true_and, and_true, gStar_1, eqF_int, isiF_tup, isiF_lst, isiF_int, isiF_str, isiF_bl, at_0, gSet_e, seO_1, seI_1, lenF_5, addF_4, sxE_1, ixF_5, itF_4, max2F_e, min2F_e, eM1_c, cM1_1, oM1_c, cN1_1, intAnyF_b, intAnyF_s, strOfF_1, eqF_str, eqH_int, eqH_str, dvmF_1, gTwo_1, eIf_e, whole_ok h, isI, inB, h1]
  | _ => simp (config := { decide := true }) only [bd_1, bd_2, bs_1, bs_2, sq_1, sq_2, sq_3, sq_4, sq_5, vr_1, ga_1, lcE_1, sSeq_e, sAsg_e, cAsg_1, sRet_e, cRt_1, sDrop_e, cDr_1, sIf_e, cIf_t, cIf_f, sSkip_e, sBrk_e, sCnt_e, sPar_e, cPar_1, cPar2_1, sFor_e, cFor_1, gVar_e, eVar_e, eC_e, eOp_e, cOp_1, eUn_e, aNil_e, aCons_e, cA_1, cA2_1, eCall_e, oCall_e, iCall_e, iVal_e, toB_1, bVal_e, bAnd_e, cAnd_1, bOr_e, cOr_1, bNot_e, cNot_1, eAnd_e, cEAnd_1, cEAnd2_1, eOr_e, cEOr_1, cEOr2_1, eNot_e, cENot_1, cENot2_1, eIf_e, cEIf_1, eChain_e, cCh_1, cCh1_1, cCh2_1, cCh3_1, eTup_e, cTup_1, oLst_e, cLst_1, eFz_e, cFz_1, ePtr_e, cPtr_1, oLc_e, cLc_1, eSh_e, itF_1, itF_2, itF_3, addF_1, addF_2, addF_3, intF_1, subF_1, modF_1, fdvF_1, powF_1, mulF_1, mulF_2, negF_1, ltF_1, leF_1, gtF_1, geF_1, atE_1, ixF_1, ixF_2, ixF_3, pxE_1, ixF_4, plE_1, lenF_4, eMt_e, cMt_1, eCut_e, cCut_1, cCut2_1, qNone_e, qSome_e, toI_1, cutF_1, cutF_2, cutF_3, cutF_4, eCallK_e, cK_1, cK2_1, eDic0_e, oCat_e, cCat_1, cCat2_1, cCat3_1, lsT_1, lsT_2, rcv_p, apE_1, appF_1, stL_app, set_app, stL_0, stL_k, stL_c, stL_s, set_0, set_k, shE_1, shF_1, lenF_1, lenF_2, lenF_3, absF_1, intOfF_1, intOfF_2, rng1F_1, rng2F_1, Ar_e, mkD_e, fin_1, fin_2, fin_3, few_e, tupOfF_1, tupOfF_2, tupOfF_3, lstOfF_1, lstOfF_2, lstOfF_3, isF_1, gStar_1, cIf_1, Option.isSome_some, List.length_map, List.length_append, List.append_assoc, Nat.add_assoc, slots, wpD, List.map_cons, List.map_nil, List.cons_append, List.nil_append, List.length_cons, List.length_nil, List.replicate, List.set_cons_succ, List.set_cons_zero, List.getElem?_cons_zero, List.getElem?_cons_succ, if_true, if_false, ite_true, ite_false, reduceIte, Nat.reduceAdd, Nat.reduceSub, Nat.reduceLeDiff, Nat.zero_add, Nat.sub_zero, Nat.sub_self, Bool.not_true, Bool.not_false, Bool.false_eq_true, decide_true, decide_false, Bool.true_and, Bool.and_true, Bool.or_true, Bool.true_or, Bool.false_and, Bool.and_false, Bool.or_false, Bool.false_or, decide_eq_true_eq, id_eq, Int.reduceLT, Int.reduceLE, Int.reduceNeg, Int.reduceAdd, Int.reduceSub, Int.reduceMul, Int.reduceMod, Int.reduceDiv, Int.reducePow, Int.reduceToNat, and_self, true_and, and_true, gStar_1, eqF_int, isiF_tup, isiF_lst, isiF_int, isiF_str, isiF_bl, at_0, gSet_e, seO_1, seI_1, lenF_5, addF_4, sxE_1, ixF_5, itF_4, max2F_e, min2F_e, eM1_c, cM1_1, oM1_c, cN1_1, intAnyF_b, intAnyF_s, strOfF_1, eqF_str, eqH_int, eqH_str, dvmF_1, gTwo_1, eIf_e, whole_ok h, isI, inB]
theorem one_ok {d : D} (h : Gd d) (lo hi : Int) (a0 a1 a2 a3 a4 a5 a8 a9 a10 : Option D) (S : ST) : lp__law_right_1 [a0, a1, a2, a3, a4, a5, some (.int lo), some (.int hi), a8, a9, a10, some d] S = some (.nx [a0, a1, a2, a3, a4, a5, some (.int lo), some (.int hi), a8, a9, a10, some d], S) := by
  have e1 := isw_ok h.et lo hi S
  have e2 := due_ok h.et lo hi a0 a1 a2 a3 a4 a5 a8 a9 a10 S
  obtain ⟨b1, n1, n2⟩ := name_ok h.et h.st S
  obtain ⟨b2, l1, l2⟩ := lots_ok h.et h.sq S
  unfold lp__law_right_1
  generalize (eAnd (eCall (Ar 1 d__law_whole) (aCons (eVar 11) aNil)) (eChain leF leF (eVar 6) (eVar 11) (eVar 7))) = due at e2 ⊢
  simp (config := { decide := true }) only [bd_1, bd_2, bs_1, bs_2, sq_1, sq_2, sq_3, sq_4, sq_5, vr_1, ga_1, lcE_1, sSeq_e, sAsg_e, cAsg_1, sRet_e, cRt_1, sDrop_e, cDr_1, sIf_e, cIf_t, cIf_f, sSkip_e, sBrk_e, sCnt_e, sPar_e, cPar_1, cPar2_1, sFor_e, cFor_1, gVar_e, eVar_e, eC_e, eOp_e, cOp_1, eUn_e, aNil_e, aCons_e, cA_1, cA2_1, eCall_e, oCall_e, iCall_e, iVal_e, toB_1, bVal_e, bAnd_e, cAnd_1, bOr_e, cOr_1, bNot_e, cNot_1, eAnd_e, cEAnd_1, cEAnd2_1, eOr_e, cEOr_1, cEOr2_1, eNot_e, cENot_1, cENot2_1, eIf_e, cEIf_1, eChain_e, cCh_1, cCh1_1, cCh2_1, cCh3_1, eTup_e, cTup_1, oLst_e, cLst_1, eFz_e, cFz_1, ePtr_e, cPtr_1, oLc_e, cLc_1, eSh_e, itF_1, itF_2, itF_3, addF_1, addF_2, addF_3, intF_1, subF_1, modF_1, fdvF_1, powF_1, mulF_1, mulF_2, negF_1, ltF_1, leF_1, gtF_1, geF_1, atE_1, ixF_1, ixF_2, ixF_3, pxE_1, ixF_4, plE_1, lenF_4, eMt_e, cMt_1, eCut_e, cCut_1, cCut2_1, qNone_e, qSome_e, toI_1, cutF_1, cutF_2, cutF_3, cutF_4, eCallK_e, cK_1, cK2_1, eDic0_e, oCat_e, cCat_1, cCat2_1, cCat3_1, lsT_1, lsT_2, rcv_p, apE_1, appF_1, stL_app, set_app, stL_0, stL_k, stL_c, stL_s, set_0, set_k, shE_1, shF_1, lenF_1, lenF_2, lenF_3, absF_1, intOfF_1, intOfF_2, rng1F_1, rng2F_1, Ar_e, mkD_e, fin_1, fin_2, fin_3, few_e, tupOfF_1, tupOfF_2, tupOfF_3, lstOfF_1, lstOfF_2, lstOfF_3, isF_1, gStar_1, cIf_1, Option.isSome_some, List.length_map, List.length_append, List.append_assoc, Nat.add_assoc, slots, wpD, List.map_cons, List.map_nil, List.cons_append, List.nil_append, List.length_cons, List.length_nil, List.replicate, List.set_cons_succ, List.set_cons_zero, List.getElem?_cons_zero, List.getElem?_cons_succ, if_true, if_false, ite_true, ite_false, reduceIte, Nat.reduceAdd, Nat.reduceSub, Nat.reduceLeDiff, Nat.zero_add, Nat.sub_zero, Nat.sub_self, Bool.not_true, Bool.not_false, Bool.false_eq_true, decide_true, decide_false, Bool.true_and, Bool.and_true, Bool.or_true, Bool.true_or, Bool.false_and, Bool.and_false, Bool.or_false, Bool.false_or, decide_eq_true_eq, id_eq, Int.reduceLT, Int.reduceLE, Int.reduceNeg, Int.reduceAdd, Int.reduceSub, Int.reduceMul, Int.reduceMod, Int.reduceDiv, Int.reducePow, Int.reduceToNat, and_self, true_and, and_true, gStar_1, eqF_int, isiF_tup, isiF_lst, isiF_int, isiF_str, isiF_bl, at_0, gSet_e, seO_1, seI_1, lenF_5, addF_4, sxE_1, ixF_5, itF_4, max2F_e, min2F_e, eM1_c, cM1_1, oM1_c, cN1_1, intAnyF_b, intAnyF_s, strOfF_1, eqF_str, eqH_int, eqH_str, dvmF_1, gTwo_1, eIf_e, e1, e2, n1, n2, l1, l2, is_ok]
theorem repY_ok {ds : List D} {B : Nat} (h : Tj 5 B (.lst ds)) (hB : B ≤ 100000) : ∃ t, ∀ S, repY [("NoList", "NoList"), ("NoState", "NoState")] [.lst ds] S = some (.ok (.str t), S) := by
  obtain ⟨t, n, e, h1, h2⟩ := h
  refine ⟨t, fun S => ?_⟩
  have e1 : txF [("NoList", "NoList"), ("NoState", "NoState")] S 12 (.lst ds) = some (t, n) := e S 7
  unfold repY
  simp only [e1]
  rw [if_pos]
  simp only [isL, Bool.true_and, Bool.and_eq_true, decide_eq_true_eq]
  omega
theorem gd_int (i : Int) : Gd (.int i) := ⟨rfl, nofun, fun ds h => by rcases h with h | h <;> cases h⟩
theorem gd_sq {d : D} {ds : List D} (hd : d = .lst ds ∨ d = .tup ds) (h : ∀ e ∈ ds, Et e = true) (hl : ds.length ≤ 1000) : Gd d := by
  rcases hd with rfl | rfl
  · exact ⟨rfl, nofun, fun es z => by rcases z with z | z <;> cases z; exact ⟨h, hl⟩⟩
  · exact ⟨rfl, nofun, fun es z => by rcases z with z | z <;> cases z; exact ⟨h, hl⟩⟩
theorem right_ok {n : Nat} {S : ST} (B : Bag n 0 S) : ∃ S', d__law_right [.ptr n] S = some (.ok (.bl true), S') := by
  obtain ⟨d1, S1, e1, hd1, B⟩ := any_ok B (by omega)
  obtain ⟨r2, S2, e2, l2, h2, B⟩ := take_ok (m := 3) B (by omega) (by decide) (by decide)
  obtain ⟨od, hod, a2⟩ := at_mem (xs := [d1, .exc "NoList" "no such list" [("found", .str "a")], .exc "NoState" "no state of the rules" [("found", .int 7)]]) l2 (by simpa using h2)
  have hod2 : od ∈ odds := by
    simp only [List.mem_cons, List.not_mem_nil, or_false] at hod
    rcases hod with rfl | rfl | rfl
    · exact hd1
    · unfold odds; simp only [List.mem_cons, true_or, or_true]
    · unfold odds; simp only [List.mem_cons, true_or, or_true]
  obtain ⟨gO, tO⟩ := odds_gd od hod2
  obtain ⟨i, S3, e3, hi3, B⟩ := number_ok B (by omega)
  obtain ⟨j, S4, e4, hj4, B⟩ := number_ok B (by omega)
  obtain ⟨tx, S5, e5, ht5, B⟩ := named_ok B (by omega)
  obtain ⟨d6, S6, xs, e6, hd6, hx1, hx2, B⟩ := row_ok B (by omega)
  obtain ⟨row, S7, e7, hrow, B⟩ : ∃ row S7, shF d6 S6 = some (.ok row, S7) ∧ (row = .lst xs ∨ row = .tup xs) ∧ Bag n (0 + 1 + 1 + 3 + 3 + 13 + 30) S7 := by
    rcases hd6 with rfl | ⟨m, rfl, hm, hs⟩
    · exact ⟨.tup xs, S6, rfl, .inr rfl, B⟩
    · refine ⟨.lst xs, S6.set m .dead, ?_, .inl rfl, bag_ne B hm⟩
      unfold shF
      simp only [hs]
  obtain ⟨r8, S8, e8, l8, h8, B⟩ := take_ok (m := 2) B (by omega) (by decide) (by decide)
  obtain ⟨x8, hx8, a8⟩ := at_mem (xs := [D.int i, .int j]) l8 (by simpa using h8)
  obtain ⟨lo0, rfl⟩ : ∃ z : Int, x8 = .int z := by
    simp only [List.mem_cons, List.not_mem_nil, or_false] at hx8
    rcases hx8 with rfl | rfl <;> exact ⟨_, rfl⟩
  obtain ⟨r9, S9, e9, l9, h9, B⟩ := take_ok (m := 3) B (by omega) (by decide) (by decide)
  obtain ⟨r10, S10, e10, l10, h10, B⟩ := take_ok (m := 2) B (by omega) (by decide) (by decide)
  obtain ⟨x10, hx10, a10⟩ := at_mem (xs := [D.int i, .int j]) l10 (by simpa using h10)
  obtain ⟨hi0, rfl⟩ : ∃ z : Int, x10 = .int z := by
    simp only [List.mem_cons, List.not_mem_nil, or_false] at hx10
    rcases hx10 with rfl | rfl <;> exact ⟨_, rfl⟩
  obtain ⟨r11, S11, e11, l11, h11, B⟩ := take_ok (m := 3) B (by omega) (by decide) (by decide)
  have p31 : (10 : Nat) ^ 31 = 10000000000000000000000000000000 := by decide
  have p40 : (10 : Nat) ^ 40 = 10000000000000000000000000000000000000000 := by decide
  have hi40 : i.natAbs < 10 ^ 40 := by omega
  have one : ∀ {P : D → Prop} {e : D}, P e → ∀ x ∈ [e], P x := fun {P e} h x hx => by rw [List.mem_singleton.mp hx]; exact h
  have two : ∀ {P : D → Prop} {e f : D}, P e → P f → ∀ x ∈ [e, f], P x := fun {P e f} h1 h2 x hx => by
    simp only [List.mem_cons, List.not_mem_nil, or_false] at hx
    rcases hx with rfl | rfl
    · exact h1
    · exact h2
  have tRow : Tj 4 3000 row := by
    have : xs.length * 100 ≤ 21 * 100 := Nat.mul_le_mul hx1 (by decide)
    rcases hrow with rfl | rfl
    · exact (Tj.lst fun d hd => (hx2 d hd).2).mono (by decide) (by omega)
    · exact (Tj.tup fun d hd => (hx2 d hd).2).mono (by decide) (by omega)
  have gRow : Gd row := gd_sq hrow (fun e he => (hx2 e he).1) (by omega)
  have all : ∀ d ∈ [od, .int i, .str tx, row, .lst [od], .tup [.int 1, .int i], .lst [], .tup [], .str "", .bl true, .dic [(Sum.inr (Str.ofString "a"), .int 1)]], Gd d ∧ Tj 4 3000 d := by
    intro d hd
    simp only [List.mem_cons, List.not_mem_nil, or_false] at hd
    rcases hd with rfl | rfl | rfl | rfl | rfl | rfl | rfl | rfl | rfl | rfl | rfl
    · exact ⟨gO, tO.mono (by decide) (by decide)⟩
    · exact ⟨gd_int i, (Tj.int hi40).mono (by decide) (by decide)⟩
    · exact ⟨⟨rfl, fun x h => by cases h; exact Nat.le_trans ht5.1 (by decide), fun ds h => by rcases h with h | h <;> cases h⟩, (Tj.str ht5).mono (by decide) (by decide)⟩
    · exact ⟨gRow, tRow⟩
    · exact ⟨gd_sq (.inl rfl) (one gO.et) (by simp), (Tj.lst (one tO)).mono (by decide) (by simp)⟩
    · exact ⟨gd_sq (.inr rfl) (two rfl rfl) (by simp), (Tj.tup (two (Tj.int (i := 1) (by decide)) (Tj.int hi40))).mono (by decide) (by simp)⟩
    · exact ⟨gd_sq (.inl rfl) nofun (by decide), .of (fun _ _ => rfl) (by decide +kernel)⟩
    · exact ⟨gd_sq (.inr rfl) nofun (by decide), .of (fun _ _ => rfl) (by decide +kernel)⟩
    · exact ⟨⟨rfl, fun x h => by cases h; decide +kernel, fun ds h => by rcases h with h | h <;> cases h⟩, .of (fun _ _ => rfl) (by decide +kernel)⟩
    · exact ⟨⟨rfl, nofun, fun ds h => by rcases h with h | h <;> cases h⟩, .of (fun _ _ => rfl) (by decide +kernel)⟩
    · exact ⟨⟨rfl, nofun, fun ds h => by rcases h with h | h <;> cases h⟩, .of (fun _ _ => rfl) (by decide +kernel)⟩
  generalize hL : [od, D.int i, .str tx, row, .lst [od], .tup [.int 1, .int i], .lst [], .tup [], .str "", .bl true, .dic [(Sum.inr (Str.ofString "a"), .int 1)]] = L at all
  have hLl : L.length = 11 := by rw [← hL]; rfl
  obtain ⟨t, eR⟩ := repY_ok (Tj.lst fun d hd => (all d hd).2) (by rw [hLl]; decide)
  have inner : ∀ (x10 x11 : Option D) (S : ST), ∃ y, forD (gVar 11) lp__law_right_1 L [some (.ptr n), some od, some (.int i), some (.int j), some (.str tx), some row, some (.int (lo0 + r9 - 1)), some (.int (hi0 + r11 - 1)), some (.lst L), some (.str t), x10, x11] S = some (.nx [some (.ptr n), some od, some (.int i), some (.int j), some (.str tx), some row, some (.int (lo0 + r9 - 1)), some (.int (hi0 + r11 - 1)), some (.lst L), some (.str t), x10, y], S) := by
    intro x10 x11 S
    obtain ⟨g', S', e, hS, y, hg⟩ := for_inv (tg := gVar 11) (body := lp__law_right_1) (fun g T => T = S ∧ ∃ y, g = [some (.ptr n), some od, some (.int i), some (.int j), some (.str tx), some row, some (.int (lo0 + r9 - 1)), some (.int (hi0 + r11 - 1)), some (.lst L), some (.str t), x10, y]) L _ S (by
      intro d hd g T hg
      obtain ⟨rfl, y, rfl⟩ := hg
      exact ⟨_, T, _, T, rfl, one_ok (all d hd).1 _ _ _ _ _ _ _ _ _ _ _ T, rfl, _, rfl⟩) ⟨rfl, x11, rfl⟩
    subst hS hg
    exact ⟨y, e⟩
  obtain ⟨g', S', elp, hS, y10, y11, rfl⟩ := for_inv (tg := gVar 10) (body := lp__law_right_2) (fun g T => T = S11 ∧ ∃ y10 y11, g = [some (.ptr n), some od, some (.int i), some (.int j), some (.str tx), some row, some (.int (lo0 + r9 - 1)), some (.int (hi0 + r11 - 1)), some (.lst L), some (.str t), y10, y11]) (rngD 0 2) [some (.ptr n), some od, some (.int i), some (.int j), some (.str tx), some row, some (.int (lo0 + r9 - 1)), some (.int (hi0 + r11 - 1)), some (.lst L), some (.str t), none, none] S11 (by
    intro d hd g T hg
    obtain ⟨rfl, y10, y11, rfl⟩ := hg
    obtain ⟨y, e⟩ := inner (some d) y11 T
    refine ⟨_, T, _, T, rfl, ?_, rfl, some d, y, rfl⟩
    simp (config := { decide := true }) only [bd_1, bd_2, bs_1, bs_2, sq_1, sq_2, sq_3, sq_4, sq_5, vr_1, ga_1, lcE_1, sSeq_e, sAsg_e, cAsg_1, sRet_e, cRt_1, sDrop_e, cDr_1, sIf_e, cIf_t, cIf_f, sSkip_e, sBrk_e, sCnt_e, sPar_e, cPar_1, cPar2_1, sFor_e, cFor_1, gVar_e, eVar_e, eC_e, eOp_e, cOp_1, eUn_e, aNil_e, aCons_e, cA_1, cA2_1, eCall_e, oCall_e, iCall_e, iVal_e, toB_1, bVal_e, bAnd_e, cAnd_1, bOr_e, cOr_1, bNot_e, cNot_1, eAnd_e, cEAnd_1, cEAnd2_1, eOr_e, cEOr_1, cEOr2_1, eNot_e, cENot_1, cENot2_1, eIf_e, cEIf_1, eChain_e, cCh_1, cCh1_1, cCh2_1, cCh3_1, eTup_e, cTup_1, oLst_e, cLst_1, eFz_e, cFz_1, ePtr_e, cPtr_1, oLc_e, cLc_1, eSh_e, itF_1, itF_2, itF_3, addF_1, addF_2, addF_3, intF_1, subF_1, modF_1, fdvF_1, powF_1, mulF_1, mulF_2, negF_1, ltF_1, leF_1, gtF_1, geF_1, atE_1, ixF_1, ixF_2, ixF_3, pxE_1, ixF_4, plE_1, lenF_4, eMt_e, cMt_1, eCut_e, cCut_1, cCut2_1, qNone_e, qSome_e, toI_1, cutF_1, cutF_2, cutF_3, cutF_4, eCallK_e, cK_1, cK2_1, eDic0_e, oCat_e, cCat_1, cCat2_1, cCat3_1, lsT_1, lsT_2, rcv_p, apE_1, appF_1, stL_app, set_app, stL_0, stL_k, stL_c, stL_s, set_0, set_k, shE_1, shF_1, lenF_1, lenF_2, lenF_3, absF_1, intOfF_1, intOfF_2, rng1F_1, rng2F_1, Ar_e, mkD_e, fin_1, fin_2, fin_3, few_e, tupOfF_1, tupOfF_2, tupOfF_3, lstOfF_1, lstOfF_2, lstOfF_3, isF_1, gStar_1, cIf_1, Option.isSome_some, List.length_map, List.length_append, List.append_assoc, Nat.add_assoc, slots, wpD, List.map_cons, List.map_nil, List.cons_append, List.nil_append, List.length_cons, List.length_nil, List.replicate, List.set_cons_succ, List.set_cons_zero, List.getElem?_cons_zero, List.getElem?_cons_succ, if_true, if_false, ite_true, ite_false, reduceIte, Nat.reduceAdd, Nat.reduceSub, Nat.reduceLeDiff, Nat.zero_add, Nat.sub_zero, Nat.sub_self, Bool.not_true, Bool.not_false, Bool.false_eq_true, decide_true, decide_false, Bool.true_and, Bool.and_true, Bool.or_true, Bool.true_or, Bool.false_and, Bool.and_false, Bool.or_false, Bool.false_or, decide_eq_true_eq, id_eq, Int.reduceLT, Int.reduceLE, Int.reduceNeg, Int.reduceAdd, Int.reduceSub, Int.reduceMul, Int.reduceMod, Int.reduceDiv, Int.reducePow, Int.reduceToNat, and_self, true_and, and_true, gStar_1, eqF_int, isiF_tup, isiF_lst, isiF_int, isiF_str, isiF_bl, at_0, gSet_e, seO_1, seI_1, lenF_5, addF_4, sxE_1, ixF_5, itF_4, max2F_e, min2F_e, eM1_c, cM1_1, oM1_c, cN1_1, intAnyF_b, intAnyF_s, strOfF_1, eqF_str, eqH_int, eqH_str, dvmF_1, gTwo_1, eIf_e, lp__law_right_2, e]) ⟨rfl, none, none, rfl⟩
  subst hS
  refine ⟨S', ?_⟩
  have o2 : okI 2 = true := by decide
  have k1 : keyD (.str "a") = some (Sum.inr (Str.ofString "a")) := rfl
  have f1 : L.length ≤ 100000 := by omega
  simp (config := { decide := true }) only [bd_1, bd_2, bs_1, bs_2, sq_1, sq_2, sq_3, sq_4, sq_5, vr_1, ga_1, lcE_1, sSeq_e, sAsg_e, cAsg_1, sRet_e, cRt_1, sDrop_e, cDr_1, sIf_e, cIf_t, cIf_f, sSkip_e, sBrk_e, sCnt_e, sPar_e, cPar_1, cPar2_1, sFor_e, cFor_1, gVar_e, eVar_e, eC_e, eOp_e, cOp_1, eUn_e, aNil_e, aCons_e, cA_1, cA2_1, eCall_e, oCall_e, iCall_e, iVal_e, toB_1, bVal_e, bAnd_e, cAnd_1, bOr_e, cOr_1, bNot_e, cNot_1, eAnd_e, cEAnd_1, cEAnd2_1, eOr_e, cEOr_1, cEOr2_1, eNot_e, cENot_1, cENot2_1, eIf_e, cEIf_1, eChain_e, cCh_1, cCh1_1, cCh2_1, cCh3_1, eTup_e, cTup_1, oLst_e, cLst_1, eFz_e, cFz_1, ePtr_e, cPtr_1, oLc_e, cLc_1, eSh_e, itF_1, itF_2, itF_3, addF_1, addF_2, addF_3, intF_1, subF_1, modF_1, fdvF_1, powF_1, mulF_1, mulF_2, negF_1, ltF_1, leF_1, gtF_1, geF_1, atE_1, ixF_1, ixF_2, ixF_3, pxE_1, ixF_4, plE_1, lenF_4, eMt_e, cMt_1, eCut_e, cCut_1, cCut2_1, qNone_e, qSome_e, toI_1, cutF_1, cutF_2, cutF_3, cutF_4, eCallK_e, cK_1, cK2_1, eDic0_e, oCat_e, cCat_1, cCat2_1, cCat3_1, lsT_1, lsT_2, rcv_p, apE_1, appF_1, stL_app, set_app, stL_0, stL_k, stL_c, stL_s, set_0, set_k, shE_1, shF_1, lenF_1, lenF_2, lenF_3, absF_1, intOfF_1, intOfF_2, rng1F_1, rng2F_1, Ar_e, mkD_e, fin_1, fin_2, fin_3, few_e, tupOfF_1, tupOfF_2, tupOfF_3, lstOfF_1, lstOfF_2, lstOfF_3, isF_1, gStar_1, cIf_1, Option.isSome_some, List.length_map, List.length_append, List.append_assoc, Nat.add_assoc, slots, wpD, List.map_cons, List.map_nil, List.cons_append, List.nil_append, List.length_cons, List.length_nil, List.replicate, List.set_cons_succ, List.set_cons_zero, List.getElem?_cons_zero, List.getElem?_cons_succ, if_true, if_false, ite_true, ite_false, reduceIte, Nat.reduceAdd, Nat.reduceSub, Nat.reduceLeDiff, Nat.zero_add, Nat.sub_zero, Nat.sub_self, Bool.not_true, Bool.not_false, Bool.false_eq_true, decide_true, decide_false, Bool.true_and, Bool.and_true, Bool.or_true, Bool.true_or, Bool.false_and, Bool.and_false, Bool.or_false, Bool.false_or, decide_eq_true_eq, id_eq, Int.reduceLT, Int.reduceLE, Int.reduceNeg, Int.reduceAdd, Int.reduceSub, Int.reduceMul, Int.reduceMod, Int.reduceDiv, Int.reducePow, Int.reduceToNat, and_self, true_and, and_true, gStar_1, eqF_int, isiF_tup, isiF_lst, isiF_int, isiF_str, isiF_bl, at_0, gSet_e, seO_1, seI_1, lenF_5, addF_4, sxE_1, ixF_5, itF_4, max2F_e, min2F_e, eM1_c, cM1_1, oM1_c, cN1_1, intAnyF_b, intAnyF_s, strOfF_1, eqF_str, eqH_int, eqH_str, dvmF_1, gTwo_1, eIf_e, d__law_right, b__law_right, e1, mkX_1, e2, a2, e3, e4, e5, e6, e7, e8, a8, e9, e10, a10, e11, eDic1, k1, hL, eR, o2, elp, eqH_str, f1]
theorem law_true (ns : List Int) (h : ns.length ≤ 63) : ∃ S', d_law [.kls (ns.map .int)] [] = some (.ok (.bl true), S') := by
  have cell : ∀ (k : Nat) (S : ST), ∃ x : Int, d__law_cell [.kls (ns.map .int), .int k] S = some (.ok (.int x), S) := by
    intro k S
    by_cases h1 : k < ns.length
    · have h1' : (k : Int) < ns.length := by omega
      have hk : atI (ns.map D.int) (k : Int) = some (.int (ns.getD k 0)) := at_int k h1
      exact ⟨ns.getD k 0, by simp (config := { decide := true }) only [bd_1, bd_2, bs_1, bs_2, sq_1, sq_2, sq_3, sq_4, sq_5, vr_1, ga_1, lcE_1, sSeq_e, sAsg_e, cAsg_1, sRet_e, cRt_1, sDrop_e, cDr_1, sIf_e, cIf_t, cIf_f, sSkip_e, sBrk_e, sCnt_e, sPar_e, cPar_1, cPar2_1, sFor_e, cFor_1, gVar_e, eVar_e, eC_e, eOp_e, cOp_1, eUn_e, aNil_e, aCons_e, cA_1, cA2_1, eCall_e, oCall_e, iCall_e, iVal_e, toB_1, bVal_e, bAnd_e, cAnd_1, bOr_e, cOr_1, bNot_e, cNot_1, eAnd_e, cEAnd_1, cEAnd2_1, eOr_e, cEOr_1, cEOr2_1, eNot_e, cENot_1, cENot2_1, eIf_e, cEIf_1, eChain_e, cCh_1, cCh1_1, cCh2_1, cCh3_1, eTup_e, cTup_1, oLst_e, cLst_1, eFz_e, cFz_1, ePtr_e, cPtr_1, oLc_e, cLc_1, eSh_e, itF_1, itF_2, itF_3, addF_1, addF_2, addF_3, intF_1, subF_1, modF_1, fdvF_1, powF_1, mulF_1, mulF_2, negF_1, ltF_1, leF_1, gtF_1, geF_1, atE_1, ixF_1, ixF_2, ixF_3, pxE_1, ixF_4, plE_1, lenF_4, eMt_e, cMt_1, eCut_e, cCut_1, cCut2_1, qNone_e, qSome_e, toI_1, cutF_1, cutF_2, cutF_3, cutF_4, eCallK_e, cK_1, cK2_1, eDic0_e, oCat_e, cCat_1, cCat2_1, cCat3_1, lsT_1, lsT_2, rcv_p, apE_1, appF_1, stL_app, set_app, stL_0, stL_k, stL_c, stL_s, set_0, set_k, shE_1, shF_1, lenF_1, lenF_2, lenF_3, absF_1, intOfF_1, intOfF_2, rng1F_1, rng2F_1, Ar_e, mkD_e, fin_1, fin_2, fin_3, few_e, tupOfF_1, tupOfF_2, tupOfF_3, lstOfF_1, lstOfF_2, lstOfF_3, isF_1, gStar_1, cIf_1, Option.isSome_some, List.length_map, List.length_append, List.append_assoc, Nat.add_assoc, slots, wpD, List.map_cons, List.map_nil, List.cons_append, List.nil_append, List.length_cons, List.length_nil, List.replicate, List.set_cons_succ, List.set_cons_zero, List.getElem?_cons_zero, List.getElem?_cons_succ, if_true, if_false, ite_true, ite_false, reduceIte, Nat.reduceAdd, Nat.reduceSub, Nat.reduceLeDiff, Nat.zero_add, Nat.sub_zero, Nat.sub_self, Bool.not_true, Bool.not_false, Bool.false_eq_true, decide_true, decide_false, Bool.true_and, Bool.and_true, Bool.or_true, Bool.true_or, Bool.false_and, Bool.and_false, Bool.or_false, Bool.false_or, decide_eq_true_eq, id_eq, Int.reduceLT, Int.reduceLE, Int.reduceNeg, Int.reduceAdd, Int.reduceSub, Int.reduceMul, Int.reduceMod, Int.reduceDiv, Int.reducePow, Int.reduceToNat, and_self, true_and, and_true, gStar_1, eqF_int, isiF_tup, isiF_lst, isiF_int, isiF_str, isiF_bl, at_0, gSet_e, seO_1, seI_1, lenF_5, addF_4, sxE_1, ixF_5, itF_4, max2F_e, min2F_e, eM1_c, cM1_1, oM1_c, cN1_1, intAnyF_b, intAnyF_s, strOfF_1, eqF_str, eqH_int, eqH_str, dvmF_1, gTwo_1, eIf_e, d__law_cell, b__law_cell, h1', hk]⟩
    · have h1' : ¬ (k : Int) < ns.length := by omega
      exact ⟨7919 * k + 41, by simp (config := { decide := true }) only [bd_1, bd_2, bs_1, bs_2, sq_1, sq_2, sq_3, sq_4, sq_5, vr_1, ga_1, lcE_1, sSeq_e, sAsg_e, cAsg_1, sRet_e, cRt_1, sDrop_e, cDr_1, sIf_e, cIf_t, cIf_f, sSkip_e, sBrk_e, sCnt_e, sPar_e, cPar_1, cPar2_1, sFor_e, cFor_1, gVar_e, eVar_e, eC_e, eOp_e, cOp_1, eUn_e, aNil_e, aCons_e, cA_1, cA2_1, eCall_e, oCall_e, iCall_e, iVal_e, toB_1, bVal_e, bAnd_e, cAnd_1, bOr_e, cOr_1, bNot_e, cNot_1, eAnd_e, cEAnd_1, cEAnd2_1, eOr_e, cEOr_1, cEOr2_1, eNot_e, cENot_1, cENot2_1, eIf_e, cEIf_1, eChain_e, cCh_1, cCh1_1, cCh2_1, cCh3_1, eTup_e, cTup_1, oLst_e, cLst_1, eFz_e, cFz_1, ePtr_e, cPtr_1, oLc_e, cLc_1, eSh_e, itF_1, itF_2, itF_3, addF_1, addF_2, addF_3, intF_1, subF_1, modF_1, fdvF_1, powF_1, mulF_1, mulF_2, negF_1, ltF_1, leF_1, gtF_1, geF_1, atE_1, ixF_1, ixF_2, ixF_3, pxE_1, ixF_4, plE_1, lenF_4, eMt_e, cMt_1, eCut_e, cCut_1, cCut2_1, qNone_e, qSome_e, toI_1, cutF_1, cutF_2, cutF_3, cutF_4, eCallK_e, cK_1, cK2_1, eDic0_e, oCat_e, cCat_1, cCat2_1, cCat3_1, lsT_1, lsT_2, rcv_p, apE_1, appF_1, stL_app, set_app, stL_0, stL_k, stL_c, stL_s, set_0, set_k, shE_1, shF_1, lenF_1, lenF_2, lenF_3, absF_1, intOfF_1, intOfF_2, rng1F_1, rng2F_1, Ar_e, mkD_e, fin_1, fin_2, fin_3, few_e, tupOfF_1, tupOfF_2, tupOfF_3, lstOfF_1, lstOfF_2, lstOfF_3, isF_1, gStar_1, cIf_1, Option.isSome_some, List.length_map, List.length_append, List.append_assoc, Nat.add_assoc, slots, wpD, List.map_cons, List.map_nil, List.cons_append, List.nil_append, List.length_cons, List.length_nil, List.replicate, List.set_cons_succ, List.set_cons_zero, List.getElem?_cons_zero, List.getElem?_cons_succ, if_true, if_false, ite_true, ite_false, reduceIte, Nat.reduceAdd, Nat.reduceSub, Nat.reduceLeDiff, Nat.zero_add, Nat.sub_zero, Nat.sub_self, Bool.not_true, Bool.not_false, Bool.false_eq_true, decide_true, decide_false, Bool.true_and, Bool.and_true, Bool.or_true, Bool.true_or, Bool.false_and, Bool.and_false, Bool.or_false, Bool.false_or, decide_eq_true_eq, id_eq, Int.reduceLT, Int.reduceLE, Int.reduceNeg, Int.reduceAdd, Int.reduceSub, Int.reduceMul, Int.reduceMod, Int.reduceDiv, Int.reducePow, Int.reduceToNat, and_self, true_and, and_true, gStar_1, eqF_int, isiF_tup, isiF_lst, isiF_int, isiF_str, isiF_bl, at_0, gSet_e, seO_1, seI_1, lenF_5, addF_4, sxE_1, ixF_5, itF_4, max2F_e, min2F_e, eM1_c, cM1_1, oM1_c, cN1_1, intAnyF_b, intAnyF_s, strOfF_1, eqF_str, eqH_int, eqH_str, dvmF_1, gTwo_1, eIf_e, d__law_cell, b__law_cell, h1']⟩
  have bag : ∀ (x : Int) (S : ST), ∃ S', d__law_bag [.int x] S = some (.ok (.ptr S.length), S') ∧ Bag S.length 0 S' := by
    intro x S
    have m0 : 0 ≤ x % 2147483629 := Int.emod_nonneg _ (by decide)
    have m1 : x % 2147483629 < 2147483629 := Int.emod_lt_of_pos _ (by decide)
    refine ⟨S ++ [.lst [.int (if x - 1000000000000000000 > 0 then x - 1000000000000000000 else 0), .int (x % 2147483629), .int 0]], ?_, ⟨_, _, 0, stL_app, ?_, m0, m1, Nat.le_refl 0⟩⟩
    · simp (config := { decide := true }) only [bd_1, bd_2, bs_1, bs_2, sq_1, sq_2, sq_3, sq_4, sq_5, vr_1, ga_1, lcE_1, sSeq_e, sAsg_e, cAsg_1, sRet_e, cRt_1, sDrop_e, cDr_1, sIf_e, cIf_t, cIf_f, sSkip_e, sBrk_e, sCnt_e, sPar_e, cPar_1, cPar2_1, sFor_e, cFor_1, gVar_e, eVar_e, eC_e, eOp_e, cOp_1, eUn_e, aNil_e, aCons_e, cA_1, cA2_1, eCall_e, oCall_e, iCall_e, iVal_e, toB_1, bVal_e, bAnd_e, cAnd_1, bOr_e, cOr_1, bNot_e, cNot_1, eAnd_e, cEAnd_1, cEAnd2_1, eOr_e, cEOr_1, cEOr2_1, eNot_e, cENot_1, cENot2_1, eIf_e, cEIf_1, eChain_e, cCh_1, cCh1_1, cCh2_1, cCh3_1, eTup_e, cTup_1, oLst_e, cLst_1, eFz_e, cFz_1, ePtr_e, cPtr_1, oLc_e, cLc_1, eSh_e, itF_1, itF_2, itF_3, addF_1, addF_2, addF_3, intF_1, subF_1, modF_1, fdvF_1, powF_1, mulF_1, mulF_2, negF_1, ltF_1, leF_1, gtF_1, geF_1, atE_1, ixF_1, ixF_2, ixF_3, pxE_1, ixF_4, plE_1, lenF_4, eMt_e, cMt_1, eCut_e, cCut_1, cCut2_1, qNone_e, qSome_e, toI_1, cutF_1, cutF_2, cutF_3, cutF_4, eCallK_e, cK_1, cK2_1, eDic0_e, oCat_e, cCat_1, cCat2_1, cCat3_1, lsT_1, lsT_2, rcv_p, apE_1, appF_1, stL_app, set_app, stL_0, stL_k, stL_c, stL_s, set_0, set_k, shE_1, shF_1, lenF_1, lenF_2, lenF_3, absF_1, intOfF_1, intOfF_2, rng1F_1, rng2F_1, Ar_e, mkD_e, fin_1, fin_2, fin_3, few_e, tupOfF_1, tupOfF_2, tupOfF_3, lstOfF_1, lstOfF_2, lstOfF_3, isF_1, gStar_1, cIf_1, Option.isSome_some, List.length_map, List.length_append, List.append_assoc, Nat.add_assoc, slots, wpD, List.map_cons, List.map_nil, List.cons_append, List.nil_append, List.length_cons, List.length_nil, List.replicate, List.set_cons_succ, List.set_cons_zero, List.getElem?_cons_zero, List.getElem?_cons_succ, if_true, if_false, ite_true, ite_false, reduceIte, Nat.reduceAdd, Nat.reduceSub, Nat.reduceLeDiff, Nat.zero_add, Nat.sub_zero, Nat.sub_self, Bool.not_true, Bool.not_false, Bool.false_eq_true, decide_true, decide_false, Bool.true_and, Bool.and_true, Bool.or_true, Bool.true_or, Bool.false_and, Bool.and_false, Bool.or_false, Bool.false_or, decide_eq_true_eq, id_eq, Int.reduceLT, Int.reduceLE, Int.reduceNeg, Int.reduceAdd, Int.reduceSub, Int.reduceMul, Int.reduceMod, Int.reduceDiv, Int.reducePow, Int.reduceToNat, and_self, true_and, and_true, gStar_1, eqF_int, isiF_tup, isiF_lst, isiF_int, isiF_str, isiF_bl, at_0, gSet_e, seO_1, seI_1, lenF_5, addF_4, sxE_1, ixF_5, itF_4, max2F_e, min2F_e, eM1_c, cM1_1, oM1_c, cN1_1, intAnyF_b, intAnyF_s, strOfF_1, eqF_str, eqH_int, eqH_str, dvmF_1, gTwo_1, eIf_e, d__law_bag, b__law_bag]
    · split <;> omega
  have n1 : ∀ m : Int, m ≤ 12 → -4611686018427387904 ≤ (if m > 3 then m else 3) ∧ (if m > 3 then m else 3) < 4611686018427387904 := by
    intro m hm
    split <;> omega
  have n2 : (if (ns.length : Int) < 12 then (ns.length : Int) else 12) ≤ 12 := by split <;> omega
  obtain ⟨q1, q2⟩ := n1 _ n2
  obtain ⟨g', S', e, b1, rfl⟩ := for_inv (tg := gVar 1) (body := lp_law_1) (fun g _ => ∃ b1, g = [some (.kls (ns.map .int)), b1]) (rngD 0 (if (if (ns.length : Int) < 12 then (ns.length : Int) else 12) > 3 then (if (ns.length : Int) < 12 then (ns.length : Int) else 12) else 3)) [some (.kls (ns.map .int)), none] [] (by
    intro d hd g S hg
    obtain ⟨b1, rfl⟩ := hg
    obtain ⟨k, _, rfl⟩ := rng_mem hd
    obtain ⟨x, hx⟩ := cell k S
    obtain ⟨S1, e1, B⟩ := bag x S
    obtain ⟨S2, e2⟩ := right_ok B
    refine ⟨_, _, [some (.kls (ns.map .int)), some (.int k)], S2, rfl, ?_, _, rfl⟩
    simp (config := { decide := true }) only [bd_1, bd_2, bs_1, bs_2, sq_1, sq_2, sq_3, sq_4, sq_5, vr_1, ga_1, lcE_1, sSeq_e, sAsg_e, cAsg_1, sRet_e, cRt_1, sDrop_e, cDr_1, sIf_e, cIf_t, cIf_f, sSkip_e, sBrk_e, sCnt_e, sPar_e, cPar_1, cPar2_1, sFor_e, cFor_1, gVar_e, eVar_e, eC_e, eOp_e, cOp_1, eUn_e, aNil_e, aCons_e, cA_1, cA2_1, eCall_e, oCall_e, iCall_e, iVal_e, toB_1, bVal_e, bAnd_e, cAnd_1, bOr_e, cOr_1, bNot_e, cNot_1, eAnd_e, cEAnd_1, cEAnd2_1, eOr_e, cEOr_1, cEOr2_1, eNot_e, cENot_1, cENot2_1, eIf_e, cEIf_1, eChain_e, cCh_1, cCh1_1, cCh2_1, cCh3_1, eTup_e, cTup_1, oLst_e, cLst_1, eFz_e, cFz_1, ePtr_e, cPtr_1, oLc_e, cLc_1, eSh_e, itF_1, itF_2, itF_3, addF_1, addF_2, addF_3, intF_1, subF_1, modF_1, fdvF_1, powF_1, mulF_1, mulF_2, negF_1, ltF_1, leF_1, gtF_1, geF_1, atE_1, ixF_1, ixF_2, ixF_3, pxE_1, ixF_4, plE_1, lenF_4, eMt_e, cMt_1, eCut_e, cCut_1, cCut2_1, qNone_e, qSome_e, toI_1, cutF_1, cutF_2, cutF_3, cutF_4, eCallK_e, cK_1, cK2_1, eDic0_e, oCat_e, cCat_1, cCat2_1, cCat3_1, lsT_1, lsT_2, rcv_p, apE_1, appF_1, stL_app, set_app, stL_0, stL_k, stL_c, stL_s, set_0, set_k, shE_1, shF_1, lenF_1, lenF_2, lenF_3, absF_1, intOfF_1, intOfF_2, rng1F_1, rng2F_1, Ar_e, mkD_e, fin_1, fin_2, fin_3, few_e, tupOfF_1, tupOfF_2, tupOfF_3, lstOfF_1, lstOfF_2, lstOfF_3, isF_1, gStar_1, cIf_1, Option.isSome_some, List.length_map, List.length_append, List.append_assoc, Nat.add_assoc, slots, wpD, List.map_cons, List.map_nil, List.cons_append, List.nil_append, List.length_cons, List.length_nil, List.replicate, List.set_cons_succ, List.set_cons_zero, List.getElem?_cons_zero, List.getElem?_cons_succ, if_true, if_false, ite_true, ite_false, reduceIte, Nat.reduceAdd, Nat.reduceSub, Nat.reduceLeDiff, Nat.zero_add, Nat.sub_zero, Nat.sub_self, Bool.not_true, Bool.not_false, Bool.false_eq_true, decide_true, decide_false, Bool.true_and, Bool.and_true, Bool.or_true, Bool.true_or, Bool.false_and, Bool.and_false, Bool.or_false, Bool.false_or, decide_eq_true_eq, id_eq, Int.reduceLT, Int.reduceLE, Int.reduceNeg, Int.reduceAdd, Int.reduceSub, Int.reduceMul, Int.reduceMod, Int.reduceDiv, Int.reducePow, Int.reduceToNat, and_self, true_and, and_true, gStar_1, eqF_int, isiF_tup, isiF_lst, isiF_int, isiF_str, isiF_bl, at_0, gSet_e, seO_1, seI_1, lenF_5, addF_4, sxE_1, ixF_5, itF_4, max2F_e, min2F_e, eM1_c, cM1_1, oM1_c, cN1_1, intAnyF_b, intAnyF_s, strOfF_1, eqF_str, eqH_int, eqH_str, dvmF_1, gTwo_1, eIf_e, lp_law_1, hx, e1, e2]) ⟨_, rfl⟩
  refine ⟨S', ?_⟩
  have q3 : okI (if (if (ns.length : Int) < 12 then (ns.length : Int) else 12) > 3 then (if (ns.length : Int) < 12 then (ns.length : Int) else 12) else 3) = true := by
    unfold okI
    rw [Bool.and_eq_true, decide_eq_true_eq, decide_eq_true_eq]
    exact ⟨q1, q2⟩
  simp (config := { decide := true }) only [bd_1, bd_2, bs_1, bs_2, sq_1, sq_2, sq_3, sq_4, sq_5, vr_1, ga_1, lcE_1, sSeq_e, sAsg_e, cAsg_1, sRet_e, cRt_1, sDrop_e, cDr_1, sIf_e, cIf_t, cIf_f, sSkip_e, sBrk_e, sCnt_e, sPar_e, cPar_1, cPar2_1, sFor_e, cFor_1, gVar_e, eVar_e, eC_e, eOp_e, cOp_1, eUn_e, aNil_e, aCons_e, cA_1, cA2_1, eCall_e, oCall_e, iCall_e, iVal_e, toB_1, bVal_e, bAnd_e, cAnd_1, bOr_e, cOr_1, bNot_e, cNot_1, eAnd_e, cEAnd_1, cEAnd2_1, eOr_e, cEOr_1, cEOr2_1, eNot_e, cENot_1, cENot2_1, eIf_e, cEIf_1, eChain_e, cCh_1, cCh1_1, cCh2_1, cCh3_1, eTup_e, cTup_1, oLst_e, cLst_1, eFz_e, cFz_1, ePtr_e, cPtr_1, oLc_e, cLc_1, eSh_e, itF_1, itF_2, itF_3, addF_1, addF_2, addF_3, intF_1, subF_1, modF_1, fdvF_1, powF_1, mulF_1, mulF_2, negF_1, ltF_1, leF_1, gtF_1, geF_1, atE_1, ixF_1, ixF_2, ixF_3, pxE_1, ixF_4, plE_1, lenF_4, eMt_e, cMt_1, eCut_e, cCut_1, cCut2_1, qNone_e, qSome_e, toI_1, cutF_1, cutF_2, cutF_3, cutF_4, eCallK_e, cK_1, cK2_1, eDic0_e, oCat_e, cCat_1, cCat2_1, cCat3_1, lsT_1, lsT_2, rcv_p, apE_1, appF_1, stL_app, set_app, stL_0, stL_k, stL_c, stL_s, set_0, set_k, shE_1, shF_1, lenF_1, lenF_2, lenF_3, absF_1, intOfF_1, intOfF_2, rng1F_1, rng2F_1, Ar_e, mkD_e, fin_1, fin_2, fin_3, few_e, tupOfF_1, tupOfF_2, tupOfF_3, lstOfF_1, lstOfF_2, lstOfF_3, isF_1, gStar_1, cIf_1, Option.isSome_some, List.length_map, List.length_append, List.append_assoc, Nat.add_assoc, slots, wpD, List.map_cons, List.map_nil, List.cons_append, List.nil_append, List.length_cons, List.length_nil, List.replicate, List.set_cons_succ, List.set_cons_zero, List.getElem?_cons_zero, List.getElem?_cons_succ, if_true, if_false, ite_true, ite_false, reduceIte, Nat.reduceAdd, Nat.reduceSub, Nat.reduceLeDiff, Nat.zero_add, Nat.sub_zero, Nat.sub_self, Bool.not_true, Bool.not_false, Bool.false_eq_true, decide_true, decide_false, Bool.true_and, Bool.and_true, Bool.or_true, Bool.true_or, Bool.false_and, Bool.and_false, Bool.or_false, Bool.false_or, decide_eq_true_eq, id_eq, Int.reduceLT, Int.reduceLE, Int.reduceNeg, Int.reduceAdd, Int.reduceSub, Int.reduceMul, Int.reduceMod, Int.reduceDiv, Int.reducePow, Int.reduceToNat, and_self, true_and, and_true, gStar_1, eqF_int, isiF_tup, isiF_lst, isiF_int, isiF_str, isiF_bl, at_0, gSet_e, seO_1, seI_1, lenF_5, addF_4, sxE_1, ixF_5, itF_4, max2F_e, min2F_e, eM1_c, cM1_1, oM1_c, cN1_1, intAnyF_b, intAnyF_s, strOfF_1, eqF_str, eqH_int, eqH_str, dvmF_1, gTwo_1, eIf_e, d_law, b_law, q3, e]
end W01

set_option Elab.async false
set_option linter.all false
set_option maxRecDepth 100000
set_option maxHeartbeats 0
namespace W01
open PySem PySem.Spec PyProof.Rows L2 U
def dd__law_take : He.DefD := ⟨("_law_take", none), "_law_take", "_law_take", defArgs s__law_take, defBody s__law_take, defScope s__law_take, [], []⟩
def dd__law_any : He.DefD := ⟨("_law_any", none), "_law_any", "_law_any", defArgs s__law_any, defBody s__law_any, defScope s__law_any, [], []⟩
def dd__law_number : He.DefD := ⟨("_law_number", none), "_law_number", "_law_number", defArgs s__law_number, defBody s__law_number, defScope s__law_number, [], []⟩
def dd__law_spoilt : He.DefD := ⟨("_law_spoilt", none), "_law_spoilt", "_law_spoilt", defArgs s__law_spoilt, defBody s__law_spoilt, defScope s__law_spoilt, [], []⟩
def dd__law_named : He.DefD := ⟨("_law_named", none), "_law_named", "_law_named", defArgs s__law_named, defBody s__law_named, defScope s__law_named, [], []⟩
def dd__law_row : He.DefD := ⟨("_law_row", none), "_law_row", "_law_row", defArgs s__law_row, defBody s__law_row, defScope s__law_row, [], []⟩
def dd__law_is : He.DefD := ⟨("_law_is", none), "_law_is", "_law_is", defArgs s__law_is, defBody s__law_is, defScope s__law_is, [], []⟩
def dd__law_whole : He.DefD := ⟨("_law_whole", none), "_law_whole", "_law_whole", defArgs s__law_whole, defBody s__law_whole, defScope s__law_whole, [], []⟩
def dd_is_whole : He.DefD := ⟨("is_whole", none), "is_whole", "is_whole", defArgs s_is_whole, defBody s_is_whole, defScope s_is_whole, [], []⟩
def dd__law_is_name : He.DefD := ⟨("_law_is_name", none), "_law_is_name", "_law_is_name", defArgs s__law_is_name, defBody s__law_is_name, defScope s__law_is_name, [], []⟩
def dd_is_name : He.DefD := ⟨("is_name", none), "is_name", "is_name", defArgs s_is_name, defBody s_is_name, defScope s_is_name, [], []⟩
def dd__law_is_row : He.DefD := ⟨("_law_is_row", none), "_law_is_row", "_law_is_row", defArgs s__law_is_row, defBody s__law_is_row, defScope s__law_is_row, [], []⟩
def dd_are_lots : He.DefD := ⟨("are_lots", none), "are_lots", "are_lots", defArgs s_are_lots, defBody s_are_lots, defScope s_are_lots, [], []⟩
def dd__law_right : He.DefD := ⟨("_law_right", none), "_law_right", "_law_right", defArgs s__law_right, defBody s__law_right, defScope s__law_right, [], []⟩
def dd__law_bag : He.DefD := ⟨("_law_bag", none), "_law_bag", "_law_bag", defArgs s__law_bag, defBody s__law_bag, defScope s__law_bag, [], []⟩
def dd__law_cell : He.DefD := ⟨("_law_cell", none), "_law_cell", "_law_cell", defArgs s__law_cell, defBody s__law_cell, defScope s__law_cell, [], []⟩
def dd_law : He.DefD := ⟨("law", none), "law", "law", defArgs s_law, defBody s_law, defScope s_law, [], []⟩
def dd_NoState___init__ : He.DefD := ⟨("NoState", some "__init__"), "__init__", "NoState.__init__", defArgs s_NoState___init__, defBody s_NoState___init__, defScope s_NoState___init__, [], []⟩
def dd_NoList___init__ : He.DefD := ⟨("NoList", some "__init__"), "__init__", "NoList.__init__", defArgs s_NoList___init__, defBody s_NoList___init__, defScope s_NoList___init__, [], []⟩
def fn : List He.DefD := [dd__law_take, dd__law_any, dd__law_number, dd__law_spoilt, dd__law_named, dd__law_row, dd__law_is, dd__law_whole, dd_is_whole, dd__law_is_name, dd_is_name, dd__law_is_row, dd_are_lots, dd__law_right, dd__law_bag, dd__law_cell, dd_law, dd_NoState___init__, dd_NoList___init__]
def fa : List He.Fa := [.glo "_law_take", .glo "_law_any", .glo "_law_number", .glo "_law_spoilt", .glo "_law_named", .glo "_law_row", .glo "_law_is", .glo "_law_whole", .glo "is_whole", .glo "_law_is_name", .glo "is_name", .glo "_law_is_row", .glo "are_lots", .glo "_law_right", .glo "_law_bag", .glo "_law_cell", .glo "law", .free "len", .free "range", .free "tuple", .free "isinstance", .free "bool", .free "int", .free "str", .free "all", .free "list", .free "repr", .free "max", .free "min", .str "LETTERS" "abcdefghijklmnopqrstuvwxyz", .int "MOST_LOTS" 20, .int "MOST_LOT" 9, .glo "NoState", .glo "NoList", .glo "PlayError", .meth "NoState" "__init__", .meth "NoList" "__init__"]
def ts : List He.Tab := []
def ex (K : Fr) : Bool := oexB K "NoState" && (He.eqO (PySem.W.findIn K (.ref (He.ga K "NoState")) "found") (some none) && (oexB K "NoList" && (He.eqO (PySem.W.findIn K (.ref (He.ga K "NoList")) "found") (some none) && (basB K "PlayError" && (xcsB K ["NoList", "NoState"] && (xnsB K [("NoList", "NoList"), ("NoState", "NoState")] && (true)))))))
abbrev R : PySem.W.OpenRow := PySem.W.OpenLaw.row PySem.Challenge.rw_rulesplay_k01_kinds_of_any_thing
abbrev hk : PySem.W.Hook := hookS 4 fa fn ts ex
def ob (s : PySem.W.SharedT) : He.AlT × Bool := obsS 4 fa fn ts ex (HandSHeadRun.getT s)
theorem ob_eq (s : PySem.W.SharedT) : ob s = hk.obs s.abs := obsS_eq (HandSHeadRun.getT_eq s)
def loose : List Str := (["LETTERS", "MOST_LOTS", "MOST_LOT", "is_whole", "is_name", "are_lots", "PlayError", "NoList", "NoState", "_law_cell", "_law_bag", "_law_take", "_law_whole", "_law_any", "_law_number", "_law_spoilt", "_law_named", "_law_row", "_law_is_name", "_law_is_row", "_law_is", "_law_right"] : List Str)
theorem run (w : World) : HandSHeadRun.RunEq R (PySem.W.view R.prog [25]) hk ob 4000 loose w := by
  intro os
  kernel_rfl
theorem facts {P : Program} {w : World} {K : PySem.W.Frag} {h : Heap} {mg : Str → Option Value} {f : Addr} {cl : Cl} (X : K.In h) (G : h.Ns mainGlobals mg) (hfa : mg ("law" : Str) = some (.ref f)) (c : He.SaysT fa fn ts w K ∧ ex K = true) :
    ∃ fd : FuncData, (∀ (s : Shared) (v : Value), BindsTo s fd ⟨[v], []⟩ [("_law_script", v)]) ∧ ∀ base : Heap, K.In base → base.Ns mainGlobals mg → FnG P w K mg base (L2.CX P w) 5 f fd ["_law_script"] (spM K cl 1 d_law) := by
  have cd := c.1.d
  have cx : ex K = true := c.2
  have T_n_len := He.free_ok X G (cd.fact 17 (f := .free "len") rfl)
  have T_n_range := He.free_ok X G (cd.fact 18 (f := .free "range") rfl)
  have T_n_tuple := He.free_ok X G (cd.fact 19 (f := .free "tuple") rfl)
  have T_n_isinstance := He.free_ok X G (cd.fact 20 (f := .free "isinstance") rfl)
  have T_n_bool := He.free_ok X G (cd.fact 21 (f := .free "bool") rfl)
  have T_n_int := He.free_ok X G (cd.fact 22 (f := .free "int") rfl)
  have T_n_str := He.free_ok X G (cd.fact 23 (f := .free "str") rfl)
  have T_n_all := He.free_ok X G (cd.fact 24 (f := .free "all") rfl)
  have T_n_list := He.free_ok X G (cd.fact 25 (f := .free "list") rfl)
  have T_n_repr := He.free_ok X G (cd.fact 26 (f := .free "repr") rfl)
  have T_n_max := He.free_ok X G (cd.fact 27 (f := .free "max") rfl)
  have T_n_min := He.free_ok X G (cd.fact 28 (f := .free "min") rfl)
  have T_c_LETTERS := He.str_ok X G (cd.fact 29 (f := .str "LETTERS" "abcdefghijklmnopqrstuvwxyz") rfl)
  have T_c_MOST_LOTS := He.int_ok X G (cd.fact 30 (f := .int "MOST_LOTS" 20) rfl)
  have T_c_MOST_LOT := He.int_ok X G (cd.fact 31 (f := .int "MOST_LOT" 9) rfl)
  have T_gx_NoState := He.glo_ok X G (cd.fact 32 (f := .glo "NoState") rfl)
  have T_ox_NoState := oex_ok (U.and_l (cx))
  have T_nf_NoState := He.eqO_ok (U.and_l (U.and_r (cx)))
  have T_gx_NoList := He.glo_ok X G (cd.fact 33 (f := .glo "NoList") rfl)
  have T_ox_NoList := oex_ok (U.and_l (U.and_r (U.and_r (cx))))
  have T_nf_NoList := He.eqO_ok (U.and_l (U.and_r (U.and_r (U.and_r (cx)))))
  have T_bs_PlayError := bas_ok (He.glo_ok X G (cd.fact 34 (f := .glo "PlayError") rfl)) (U.and_l (U.and_r (U.and_r (U.and_r (U.and_r (cx))))))
  have T_xcs := xcs_ok (U.and_l (U.and_r (U.and_r (U.and_r (U.and_r (U.and_r (cx)))))))
  have T_xnm := xns_ok (U.and_l (U.and_r (U.and_r (U.and_r (U.and_r (U.and_r (U.and_r (cx))))))))
  have T : Txt K w mg := ⟨T_n_len, T_n_range, T_n_tuple, T_n_isinstance, T_n_bool, T_n_int, T_n_str, T_n_all, T_n_list, T_n_repr, T_n_max, T_n_min, T_c_LETTERS, T_c_MOST_LOTS, T_c_MOST_LOT, T_gx_NoState, T_ox_NoState, T_nf_NoState, T_gx_NoList, T_ox_NoList, T_nf_NoList, T_bs_PlayError, T_xcs, T_xnm⟩
  obtain ⟨fd__law_take, F__law_take⟩ := cd.def_ 0 (d := dd__law_take) rfl
  have F__law_take : FunD K "_law_take" "_law_take" (defArgs s__law_take) (defBody s__law_take) (defScope s__law_take) [] [] (He.ga K "_law_take") fd__law_take := F__law_take
  have g__law_take := He.glo_ok X G (cd.fact 0 (f := .glo "_law_take") rfl)
  obtain ⟨fd__law_any, F__law_any⟩ := cd.def_ 1 (d := dd__law_any) rfl
  have F__law_any : FunD K "_law_any" "_law_any" (defArgs s__law_any) (defBody s__law_any) (defScope s__law_any) [] [] (He.ga K "_law_any") fd__law_any := F__law_any
  have g__law_any := He.glo_ok X G (cd.fact 1 (f := .glo "_law_any") rfl)
  obtain ⟨fd__law_number, F__law_number⟩ := cd.def_ 2 (d := dd__law_number) rfl
  have F__law_number : FunD K "_law_number" "_law_number" (defArgs s__law_number) (defBody s__law_number) (defScope s__law_number) [] [] (He.ga K "_law_number") fd__law_number := F__law_number
  have g__law_number := He.glo_ok X G (cd.fact 2 (f := .glo "_law_number") rfl)
  obtain ⟨fd__law_spoilt, F__law_spoilt⟩ := cd.def_ 3 (d := dd__law_spoilt) rfl
  have F__law_spoilt : FunD K "_law_spoilt" "_law_spoilt" (defArgs s__law_spoilt) (defBody s__law_spoilt) (defScope s__law_spoilt) [] [] (He.ga K "_law_spoilt") fd__law_spoilt := F__law_spoilt
  have g__law_spoilt := He.glo_ok X G (cd.fact 3 (f := .glo "_law_spoilt") rfl)
  obtain ⟨fd__law_named, F__law_named⟩ := cd.def_ 4 (d := dd__law_named) rfl
  have F__law_named : FunD K "_law_named" "_law_named" (defArgs s__law_named) (defBody s__law_named) (defScope s__law_named) [] [] (He.ga K "_law_named") fd__law_named := F__law_named
  have g__law_named := He.glo_ok X G (cd.fact 4 (f := .glo "_law_named") rfl)
  obtain ⟨fd__law_row, F__law_row⟩ := cd.def_ 5 (d := dd__law_row) rfl
  have F__law_row : FunD K "_law_row" "_law_row" (defArgs s__law_row) (defBody s__law_row) (defScope s__law_row) [] [] (He.ga K "_law_row") fd__law_row := F__law_row
  have g__law_row := He.glo_ok X G (cd.fact 5 (f := .glo "_law_row") rfl)
  obtain ⟨fd__law_is, F__law_is⟩ := cd.def_ 6 (d := dd__law_is) rfl
  have F__law_is : FunD K "_law_is" "_law_is" (defArgs s__law_is) (defBody s__law_is) (defScope s__law_is) [] [] (He.ga K "_law_is") fd__law_is := F__law_is
  have g__law_is := He.glo_ok X G (cd.fact 6 (f := .glo "_law_is") rfl)
  obtain ⟨fd__law_whole, F__law_whole⟩ := cd.def_ 7 (d := dd__law_whole) rfl
  have F__law_whole : FunD K "_law_whole" "_law_whole" (defArgs s__law_whole) (defBody s__law_whole) (defScope s__law_whole) [] [] (He.ga K "_law_whole") fd__law_whole := F__law_whole
  have g__law_whole := He.glo_ok X G (cd.fact 7 (f := .glo "_law_whole") rfl)
  obtain ⟨fd_is_whole, F_is_whole⟩ := cd.def_ 8 (d := dd_is_whole) rfl
  have F_is_whole : FunD K "is_whole" "is_whole" (defArgs s_is_whole) (defBody s_is_whole) (defScope s_is_whole) [] [] (He.ga K "is_whole") fd_is_whole := F_is_whole
  have g_is_whole := He.glo_ok X G (cd.fact 8 (f := .glo "is_whole") rfl)
  obtain ⟨fd__law_is_name, F__law_is_name⟩ := cd.def_ 9 (d := dd__law_is_name) rfl
  have F__law_is_name : FunD K "_law_is_name" "_law_is_name" (defArgs s__law_is_name) (defBody s__law_is_name) (defScope s__law_is_name) [] [] (He.ga K "_law_is_name") fd__law_is_name := F__law_is_name
  have g__law_is_name := He.glo_ok X G (cd.fact 9 (f := .glo "_law_is_name") rfl)
  obtain ⟨fd_is_name, F_is_name⟩ := cd.def_ 10 (d := dd_is_name) rfl
  have F_is_name : FunD K "is_name" "is_name" (defArgs s_is_name) (defBody s_is_name) (defScope s_is_name) [] [] (He.ga K "is_name") fd_is_name := F_is_name
  have g_is_name := He.glo_ok X G (cd.fact 10 (f := .glo "is_name") rfl)
  obtain ⟨fd__law_is_row, F__law_is_row⟩ := cd.def_ 11 (d := dd__law_is_row) rfl
  have F__law_is_row : FunD K "_law_is_row" "_law_is_row" (defArgs s__law_is_row) (defBody s__law_is_row) (defScope s__law_is_row) [] [] (He.ga K "_law_is_row") fd__law_is_row := F__law_is_row
  have g__law_is_row := He.glo_ok X G (cd.fact 11 (f := .glo "_law_is_row") rfl)
  obtain ⟨fd_are_lots, F_are_lots⟩ := cd.def_ 12 (d := dd_are_lots) rfl
  have F_are_lots : FunD K "are_lots" "are_lots" (defArgs s_are_lots) (defBody s_are_lots) (defScope s_are_lots) [] [] (He.ga K "are_lots") fd_are_lots := F_are_lots
  have g_are_lots := He.glo_ok X G (cd.fact 12 (f := .glo "are_lots") rfl)
  obtain ⟨fd__law_right, F__law_right⟩ := cd.def_ 13 (d := dd__law_right) rfl
  have F__law_right : FunD K "_law_right" "_law_right" (defArgs s__law_right) (defBody s__law_right) (defScope s__law_right) [] [] (He.ga K "_law_right") fd__law_right := F__law_right
  have g__law_right := He.glo_ok X G (cd.fact 13 (f := .glo "_law_right") rfl)
  obtain ⟨fd__law_bag, F__law_bag⟩ := cd.def_ 14 (d := dd__law_bag) rfl
  have F__law_bag : FunD K "_law_bag" "_law_bag" (defArgs s__law_bag) (defBody s__law_bag) (defScope s__law_bag) [] [] (He.ga K "_law_bag") fd__law_bag := F__law_bag
  have g__law_bag := He.glo_ok X G (cd.fact 14 (f := .glo "_law_bag") rfl)
  obtain ⟨fd__law_cell, F__law_cell⟩ := cd.def_ 15 (d := dd__law_cell) rfl
  have F__law_cell : FunD K "_law_cell" "_law_cell" (defArgs s__law_cell) (defBody s__law_cell) (defScope s__law_cell) [] [] (He.ga K "_law_cell") fd__law_cell := F__law_cell
  have g__law_cell := He.glo_ok X G (cd.fact 15 (f := .glo "_law_cell") rfl)
  obtain ⟨fd_law, F_law⟩ := cd.def_ 16 (d := dd_law) rfl
  have F_law : FunD K "law" "law" (defArgs s_law) (defBody s_law) (defScope s_law) [] [] (He.ga K "law") fd_law := F_law
  have g_law := He.glo_ok X G (cd.fact 16 (f := .glo "law") rfl)
  obtain ⟨fd_NoState, F_NoState⟩ := cd.def_ 17 (d := dd_NoState___init__) rfl
  have F_NoState : FunD K "__init__" "NoState.__init__" (defArgs s_NoState___init__) (defBody s_NoState___init__) (defScope s_NoState___init__) [] [] (He.ma K (He.ga K "NoState") "__init__") fd_NoState := F_NoState
  have g_NoState := He.meth_ok (cd.fact 35 (f := .meth "NoState" "__init__") rfl)
  obtain ⟨fd_NoList, F_NoList⟩ := cd.def_ 18 (d := dd_NoList___init__) rfl
  have F_NoList : FunD K "__init__" "NoList.__init__" (defArgs s_NoList___init__) (defBody s_NoList___init__) (defScope s_NoList___init__) [] [] (He.ma K (He.ga K "NoList") "__init__") fd_NoList := F_NoList
  have g_NoList := He.meth_ok (cd.fact 36 (f := .meth "NoList" "__init__") rfl)
  have e := hfa.symm.trans g_law
  cases e
  have b := FunD.bindsA (ps := ["_law_script"]) F_law fun _ _ _ _ _ _ us hl => match us, hl with | [_], _ => rfl
  refine ⟨fd_law, fun s v => b s [v] rfl, fun base _ _ => ?_⟩
  have x_NoState := ok_NoState___init__ (P := P) (w := w) (base := base) T F_NoState g_NoState
  have x_NoList := ok_NoList___init__ (P := P) (w := w) (base := base) T F_NoList g_NoList
  have o__law_take := ok__law_take (P := P) (w := w) (base := base) (cl := cl) T F__law_take g__law_take 
  have o__law_any := ok__law_any (P := P) (w := w) (base := base) (cl := cl) T F__law_any g__law_any o__law_take.okf
  have o__law_number := ok__law_number (P := P) (w := w) (base := base) (cl := cl) T F__law_number g__law_number o__law_take.okf
  have o__law_spoilt := ok__law_spoilt (P := P) (w := w) (base := base) (cl := cl) T F__law_spoilt g__law_spoilt o__law_take.okf
  have o__law_named := ok__law_named (P := P) (w := w) (base := base) (cl := cl) T F__law_named g__law_named o__law_spoilt.okf o__law_take.okf
  have o__law_row := ok__law_row (P := P) (w := w) (base := base) (cl := cl) T F__law_row g__law_row o__law_take.okf
  have o__law_is := ok__law_is (P := P) (w := w) (base := base) (cl := cl) T F__law_is g__law_is 
  have o__law_whole := ok__law_whole (P := P) (w := w) (base := base) (cl := cl) T F__law_whole g__law_whole 
  have o_is_whole := ok_is_whole (P := P) (w := w) (base := base) (cl := cl) T F_is_whole g_is_whole 
  have o__law_is_name := ok__law_is_name (P := P) (w := w) (base := base) (cl := cl) T F__law_is_name g__law_is_name 
  have o_is_name := ok_is_name (P := P) (w := w) (base := base) (cl := cl) T F_is_name g_is_name 
  have o__law_is_row := ok__law_is_row (P := P) (w := w) (base := base) (cl := cl) T F__law_is_row g__law_is_row o__law_whole.okf
  have o_are_lots := ok_are_lots (P := P) (w := w) (base := base) (cl := cl) T F_are_lots g_are_lots o_is_whole.okf
  have o__law_right := ok__law_right (P := P) (w := w) (base := base) (cl := cl) T F__law_right g__law_right o__law_any.okf o__law_take.okf o__law_number.okf o__law_named.okf o__law_row.okf o__law_is.okf o__law_whole.okf o_is_whole.okf o__law_is_name.okf o_is_name.okf o__law_is_row.okf o_are_lots.okf x_NoState x_NoList
  have o__law_bag := ok__law_bag (P := P) (w := w) (base := base) (cl := cl) T F__law_bag g__law_bag 
  have o__law_cell := ok__law_cell (P := P) (w := w) (base := base) (cl := cl) T F__law_cell g__law_cell 
  have o_law := ok_law (P := P) (w := w) (base := base) (cl := cl) T F_law g_law o__law_right.okf o__law_bag.okf o__law_cell.okf
  exact o_law.1
end W01
open PySem PySem.W PySem.Calls PyProof.Rows in
theorem PySem.Challenge.cw_rulesplay_k01_kinds_of_any_thing_holds : PySem.Challenge.rw_rulesplay_k01_kinds_of_any_thing.Holds := by
  w_on; o_law
  refine HandSHeadRun.head_any (r := OpenLaw.row PySem.Challenge.rw_rulesplay_k01_kinds_of_any_thing) (q := view (OpenLaw.row PySem.Challenge.rw_rulesplay_k01_kinds_of_any_thing).prog [25]) (H := W01.hk) (ob := W01.ob) (M := 4000) (loose := W01.loose) (d := HandSHeadRun.topDef (OpenLaw.row PySem.Challenge.rw_rulesplay_k01_kinds_of_any_thing).prog 25) (kwd := []) W01.ob_eq
    (by kernel_rfl) (fun s => by kernel_rfl) W01.run (by kernel_rfl) (by kernel_rfl) (by kernel_rfl) (by rfl) (by first | assumption | decide +kernel) (by decide +kernel) ⟨rfl, rfl, rfl, rfl, rfl, by decide +kernel⟩ ?hw ?hc
  case hw => w_witness2
  case hc =>
    refine U.walk_w (l := PySem.Challenge.rw_rulesplay_k01_kinds_of_any_thing) (k := 5) (x := "_law_script") (dm := W01.d_law) rfl (by kernel_rfl) ⟨⟨rfl, by decide, by decide⟩, rfl⟩ ?F W01.law_true
    intro w mg fa h Y G hmg0
    obtain ⟨K, KX, c⟩ := Y
    have hmg : mg ("law" : PySem.Str) = some (.ref fa) := by
      have e : (HandSHeadRun.topDef (OpenLaw.row PySem.Challenge.rw_rulesplay_k01_kinds_of_any_thing).prog 25).name = ("law" : PySem.Str) := by kernel_rfl
      rw [← e]
      exact hmg0
    obtain ⟨fd, hb, hF⟩ := W01.facts (P := (PySem.Challenge.rw_rulesplay_k01_kinds_of_any_thing).prog) (w := w) (cl := fun _ => 0) KX G hmg c
    exact ⟨K, fd, KX, hb, hF⟩

