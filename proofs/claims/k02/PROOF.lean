import PyProof.Rows.All
import Wide.All
import OpenK.AllK
import Wide.FinOn
import HandS.ForMost
import HandS.Conv
import HandS.Flow
import HandS.Wide
import HandS.IsInst
import HandS.Deep
import HandS.Defaults
import HandS.Zip
import KE.GoesEnum
import HandS.Gcd
import HandS.TupAny
import HandS.WideMore
import HandS.Style
import HandS.SetIn
import HandS.HeadEnd
import HandS.EndBits
import HandS.HeadHook2
import HandS.Head0
import HandS.Head1
import HandS.Head2
import HandS.Head3
import PySem.Challenge.RW_narrowadds_k02_whole_primes_and_steps
set_option Elab.async false
set_option linter.all false
set_option maxRecDepth 100000
set_option maxHeartbeats 0
/-! A layer of plain values over the hand layer: tuples stand in line, lists that change stand in a store. -/
namespace Nw
open PySem PySem.Spec PyProof.Rows L2
/-! ### values, the store -/
inductive D where
  | non
  | bl (b : Bool)
  | int (i : Int)
  | str (s : Str)
  | ty (n : String)
  | tup (l : List D)
  | lst (l : List D)
  | scr (l : List D)
  | dct (ks : List Key) (l : List D)
  | ref (n : Nat)
inductive O where
  | lst (l : List D)
abbrev Sto := List O
abbrev Rho := List (Option D)
/-- where the store's cells stand; what else may change later -/
structure Mp where
  m : List Addr
  h : List Addr
def Mp.fb (m : Mp) (a : Addr) : Prop := a ∈ m.m ∨ a ∈ m.h
abbrev Mo (α : Type) := Sto → Option (α × Sto)
/-- nothing is tracked: what is read there belongs to the written part -/
def H0 : Hp := fun _ => none
def Fz (m : Mp) (H : Hp) (a : Addr) (u : HO) : Prop := Rd H a u ∧ ¬ m.fb a
mutual
inductive DR (K : PySem.W.Frag) (m : Mp) (H : Hp) : D → V → Prop
  | non : DR K m H .non .non
  | bl (b : Bool) : DR K m H (.bl b) (.bl b)
  | int (i : Int) : DR K m H (.int i) (.int i)
  | str (x : Str) : DR K m H (.str x) (.str x)
  | ty (n : String) : DR K m H (.ty n) (.ty n)
  | tup {a : Addr} {xs : List V} {ds : List D} : (Fz m H a (.tup xs) ∨ SqT K H0 a xs) → DRs K m H ds xs → DR K m H (.tup ds) (.ref a)
  | lst {a : Addr} {xs : List V} {ds : List D} : H a = some (.lst xs) → ¬ m.fb a → DRs K m H ds xs → DR K m H (.lst ds) (.ref a)
  | scr {a : Addr} {xs : List V} {ds : List D} : (Fz m H a (.lst xs) ∨ SqL K H0 a xs) → DRs K m H ds xs → DR K m H (.scr ds) (.ref a)
  | dct {a : Addr} {kvs : List (Key × V)} {ks : List Key} {ds : List D} {vs : List V} : Fz m H a (.dK kvs) → kvs.map (·.1) = ks → kvs.map (·.2) = vs → DRs K m H ds vs → DR K m H (.dct ks ds) (.ref a)
  | ref {n : Nat} {a : Addr} : m.m[n]? = some a → DR K m H (.ref n) (.ref a)
inductive DRs (K : PySem.W.Frag) (m : Mp) (H : Hp) : List D → List V → Prop
  | nil : DRs K m H [] []
  | cons {d : D} {v : V} {ds : List D} {vs : List V} : DR K m H d v → DRs K m H ds vs → DRs K m H (d :: ds) (v :: vs)
end
def OR (K : PySem.W.Frag) (m : Mp) (H : Hp) : O → Addr → Prop
  | .lst ds, a => ∃ xs, H a = some (.lst xs) ∧ DRs K m H ds xs
structure WR (K : PySem.W.Frag) (m : Mp) (S : Sto) (H : Hp) : Prop where
  len : m.m.length = S.length
  nd : m.m.Nodup
  dis : ∀ a ∈ m.h, a ∉ m.m
  trk : ∀ a, m.fb a → H a ≠ none
  get : ∀ (n : Nat) (a : Addr) (o : O), m.m[n]? = some a → S[n]? = some o → OR K m H o a
/-- values stay what they are -/
structure Stw (m : Mp) (H : Hp) (m' : Mp) (H' : Hp) : Prop where
  more : ∃ r, m'.m = m.m ++ r
  ffr : ∀ a, m'.fb a → m.fb a ∨ H a = none
  keep : ∀ a o, H a = some o → ¬ m.fb a → H' a = some o
/-- a step: new things, and cells of the store written -/
structure Stp (m : Mp) (H : Hp) (m' : Mp) (H' : Hp) : Prop where
  more : ∃ r, m'.m = m.m ++ r ∧ ∀ a ∈ r, H a = none
  hid : m'.h = m.h
  keep : ∀ a o, H a = some o → a ∉ m.m → H' a = some o
  tr : ∀ a, H a ≠ none → H' a ≠ none
def ER (K : PySem.W.Frag) (m : Mp) (H : Hp) (ρ : Rho) (σ : L2.St) : Prop :=
  ρ.length = σ.length ∧ ∀ (i : Nat) (d : D), ρ[i]? = some (some d) → ∃ v, σ[i]? = some (some v) ∧ DR K m H d v
section
variable {K : PySem.W.Frag} {m m' m'' : Mp} {H H' H'' : Hp} {S : Sto}
theorem Stp.refl : Stp m H m H := ⟨⟨[], by simp, fun _ h => by cases h⟩, rfl, fun _ _ h _ => h, fun _ h => h⟩
theorem Stp.gone (a : Stp m H m' H') {x : Addr} (h : H' x = none) : H x = none := by
  cases q : H x with
  | none => rfl
  | some o => exact absurd h (a.tr x (by rw [q]; simp))
theorem Stp.trans (a : Stp m H m' H') (b : Stp m' H' m'' H'') : Stp m H m'' H'' := by
  obtain ⟨r, e1, f1⟩ := a.more
  obtain ⟨r', e2, f2⟩ := b.more
  refine ⟨⟨r ++ r', by rw [e2, e1, List.append_assoc], fun x hx => ?_⟩, b.hid.trans a.hid, fun x o h n => ?_, fun x h => b.tr x (a.tr x h)⟩
  · rcases List.mem_append.mp hx with hx | hx
    · exact f1 x hx
    · exact a.gone (f2 x hx)
  · refine b.keep x o (a.keep x o h n) fun hx => ?_
    rw [e1] at hx
    rcases List.mem_append.mp hx with hx | hx
    · exact n hx
    · rw [f1 x hx] at h; cases h
theorem Stp.w (a : Stp m H m' H') : Stw m H m' H' := by
  obtain ⟨r, e1, f1⟩ := a.more
  refine ⟨⟨r, e1⟩, fun x hx => ?_, fun x o h n => a.keep x o h fun z => n (.inl z)⟩
  rcases hx with hx | hx
  · rw [e1] at hx
    rcases List.mem_append.mp hx with hx | hx
    · exact .inl (.inl hx)
    · exact .inr (f1 x hx)
  · rw [a.hid] at hx
    exact .inl (.inr hx)
theorem Stw.trans (a : Stw m H m' H') (b : Stw m' H' m'' H'') : Stw m H m'' H'' := by
  obtain ⟨r, e1⟩ := a.more
  obtain ⟨r', e2⟩ := b.more
  have nf : ∀ x o, H x = some o → ¬ m.fb x → ¬ m'.fb x := fun x o h n z => by
    rcases a.ffr x z with q | q
    · exact n q
    · rw [q] at h; cases h
  refine ⟨⟨r ++ r', by rw [e2, e1, List.append_assoc]⟩, fun x hx => ?_, fun x o h n => b.keep x o (a.keep x o h n) (nf x o h n)⟩
  by_cases hf : m.fb x
  · exact .inl hf
  · cases q : H x with
    | none => exact .inr rfl
    | some o =>
      rcases b.ffr x hx with z | z
      · exact absurd z (nf x o q hf)
      · rw [a.keep x o q hf] at z; cases z
theorem Stw.mget (a : Stw m H m' H') {n : Nat} {x : Addr} (h : m.m[n]? = some x) : m'.m[n]? = some x := by
  obtain ⟨r, e⟩ := a.more
  rw [e, List.getElem?_append_left (List.getElem?_eq_some_iff.mp h).1]
  exact h
theorem Stw.nfb (st : Stw m H m' H') {a : Addr} {o : HO} (h : H a = some o) (hn : ¬ m.fb a) : ¬ m'.fb a := fun hm => by
  rcases st.ffr a hm with z | z
  · exact hn z
  · rw [z] at h; cases h
theorem Fz.monw {a : Addr} {u : HO} (st : Stw m H m' H') (h : Fz m H a u) : Fz m' H' a u := by
  obtain ⟨hr, hn⟩ := h
  have hn' : ∀ o, H a = some o → ¬ m'.fb a := fun o ho hm => by
    rcases st.ffr a hm with z | z
    · exact hn z
    · rw [z] at ho; cases ho
  rcases hr with h | ⟨o, h⟩
  · exact ⟨.inl (st.keep a _ h hn), hn' _ h⟩
  · exact ⟨.inr ⟨o, st.keep a _ h hn⟩, hn' _ h⟩
mutual
theorem DR.monw (st : Stw m H m' H') : ∀ {d : D} {v : V}, DR K m H d v → DR K m' H' d v
  | _, _, .non => .non
  | _, _, .bl b => .bl b
  | _, _, .int i => .int i
  | _, _, .str x => .str x
  | _, _, .ty n => .ty n
  | _, _, .tup h hs => .tup (h.elim (fun z => .inl (z.monw st)) .inr) (DRs.monw st hs)
  | _, _, .lst h hn hs => .lst (st.keep _ _ h hn) (st.nfb h hn) (DRs.monw st hs)
  | _, _, .scr h hs => .scr (h.elim (fun z => .inl (z.monw st)) .inr) (DRs.monw st hs)
  | _, _, .dct h e1 e2 hs => .dct (h.monw st) e1 e2 (DRs.monw st hs)
  | _, _, .ref h => .ref (st.mget h)
theorem DRs.monw (st : Stw m H m' H') : ∀ {ds : List D} {vs : List V}, DRs K m H ds vs → DRs K m' H' ds vs
  | _, _, .nil => .nil
  | _, _, .cons h hs => .cons (DR.monw st h) (DRs.monw st hs)
end
theorem DR.mono (st : Stp m H m' H') {d : D} {v : V} (h : DR K m H d v) : DR K m' H' d v := h.monw st.w
theorem DRs.mono (st : Stp m H m' H') {d : List D} {v : List V} (h : DRs K m H d v) : DRs K m' H' d v := h.monw st.w
theorem OR.monw {o : O} {a : Addr} (st : Stw m H m' H') (hk : ∀ u, H a = some u → H' a = some u) (h : OR K m H o a) : OR K m' H' o a := by
  cases o with
  | lst ds =>
    obtain ⟨xs, h1, h2⟩ := h
    exact ⟨xs, hk _ h1, h2.monw st⟩
theorem ER.mono {ρ : Rho} {σ : L2.St} (st : Stp m H m' H') (h : ER K m H ρ σ) : ER K m' H' ρ σ :=
  ⟨h.1, fun i d e => let ⟨v, a, b⟩ := h.2 i d e; ⟨v, a, b.mono st⟩⟩
theorem DRs.length : ∀ {ds : List D} {vs : List V}, DRs K m H ds vs → ds.length = vs.length
  | _, _, .nil => rfl
  | _, _, .cons _ t => congrArg Nat.succ (DRs.length t)
theorem DRs.get : ∀ {ds : List D} {vs : List V} {i : Nat} {d : D}, DRs K m H ds vs → ds[i]? = some d → ∃ v, vs[i]? = some v ∧ DR K m H d v
  | _, _, _, _, .nil, e => by simp at e
  | _, _, 0, _, .cons r _, e => by simp at e; subst e; exact ⟨_, rfl, r⟩
  | _, _, i + 1, d, .cons _ t, e => by
    obtain ⟨v, h1, h2⟩ := DRs.get (i := i) (d := d) t (by simpa using e)
    exact ⟨v, by simpa using h1, h2⟩
theorem DRs.getV : ∀ {ds : List D} {vs : List V} {i : Nat} {v : V}, DRs K m H ds vs → vs[i]? = some v → ∃ d, ds[i]? = some d ∧ DR K m H d v
  | _, _, _, _, .nil, e => by simp at e
  | _, _, 0, _, .cons r _, e => by simp at e; subst e; exact ⟨_, rfl, r⟩
  | _, _, i + 1, d, .cons _ t, e => by
    obtain ⟨v, h1, h2⟩ := DRs.getV (i := i) (v := d) t (by simpa using e)
    exact ⟨v, by simpa using h1, h2⟩
theorem DRs.append : ∀ {ds es : List D} {vs ws : List V}, DRs K m H ds vs → DRs K m H es ws → DRs K m H (ds ++ es) (vs ++ ws)
  | _, _, _, _, .nil, s => s
  | _, _, _, _, .cons r t, s => .cons r (DRs.append t s)
theorem DRs.take : ∀ {ds : List D} {vs : List V} (n : Nat), DRs K m H ds vs → DRs K m H (ds.take n) (vs.take n)
  | _, _, 0, _ => .nil
  | _, _, _ + 1, .nil => .nil
  | _, _, n + 1, .cons r t => .cons r (DRs.take n t)
theorem DRs.drop : ∀ {ds : List D} {vs : List V} (n : Nat), DRs K m H ds vs → DRs K m H (ds.drop n) (vs.drop n)
  | _, _, 0, r => r
  | _, _, _ + 1, .nil => .nil
  | _, _, n + 1, .cons _ t => DRs.drop n t
theorem DRs.set {d : D} {v : V} (r : DR K m H d v) : ∀ {ds : List D} {vs : List V} (i : Nat), DRs K m H ds vs → DRs K m H (ds.set i d) (vs.set i v)
  | _, _, _, .nil => .nil
  | _, _, 0, .cons _ t => .cons r t
  | _, _, i + 1, .cons q t => .cons q (DRs.set r i t)
theorem DRs.reverse : ∀ {ds : List D} {vs : List V}, DRs K m H ds vs → DRs K m H ds.reverse vs.reverse
  | _, _, .nil => .nil
  | _, _, .cons r t => by
    rw [List.reverse_cons, List.reverse_cons]
    exact (DRs.reverse t).append (.cons r .nil)
theorem ER.set {ρ : Rho} {σ : L2.St} {d : D} {v : V} (h : ER K m H ρ σ) (r : DR K m H d v) (i : Nat) : ER K m H (ρ.set i (some d)) (σ.set i (some v)) := by
  refine ⟨by rw [List.length_set, List.length_set]; exact h.1, fun j e q => ?_⟩
  by_cases hj : i = j
  · subst hj
    have hl : i < ρ.length := by
      have := (List.getElem?_eq_some_iff.mp q).1
      rw [List.length_set] at this
      exact this
    rw [List.getElem?_set_self hl] at q
    cases q
    exact ⟨v, List.getElem?_set_self (by rw [← h.1]; exact hl), r⟩
  · rw [List.getElem?_set_ne hj] at q
    obtain ⟨w, e1, e2⟩ := h.2 j e q
    exact ⟨w, by rw [List.getElem?_set_ne hj]; exact e1, e2⟩
/-- a new object that stands still -/
theorem tr_upd {p : Addr} {u : HO} (a : Addr) (h : H a ≠ none) : upd H p u a ≠ none := by
  by_cases e : a = p
  · subst e; rw [upd_same]; simp
  · rw [upd_ne e]; exact h
theorem stp_new {p : Addr} {u : HO} (hp : H p = none) : Stp m H m (upd H p u) :=
  ⟨⟨[], by simp, fun _ h => by cases h⟩, rfl, fun a o h _ => by rw [upd_ne (ne_of_none h hp)]; exact h, fun a h => tr_upd a h⟩
theorem WR.notin {p : Addr} (w : WR K m S H) (hp : H p = none) : ¬ m.fb p := fun hm => w.trk p hm hp
theorem wr_new {p : Addr} {u : HO} (w : WR K m S H) (hp : H p = none) : WR K m S (upd H p u) :=
  ⟨w.len, w.nd, w.dis, fun a h => tr_upd a (w.trk a h), fun n a o h1 h2 => (w.get n a o h1 h2).monw (stp_new hp).w fun v e => by rw [upd_ne (ne_of_none e hp)]; exact e⟩
/-- a list comes to the store: it has been made just now, or it was hidden -/
def Mp.push (m : Mp) (p : Addr) : Mp := ⟨m.m ++ [p], m.h⟩
theorem wr_cell {p : Addr} {ds : List D} {xs : List V} {m' : Mp} {H' : Hp} (w : WR K m S H) (st : Stw m H (m.push p) H') (hn : p ∉ m.m) (hh : p ∉ m.h) (hk : ∀ a ∈ m.m, ∀ u, H a = some u → H' a = some u) (htr : ∀ a, H a ≠ none → H' a ≠ none) (hx : H' p = some (.lst xs)) (hd : DRs K (m.push p) H' ds xs) : WR K (m.push p) (S ++ [.lst ds]) H' := by
  refine ⟨by simp [Mp.push, w.len], ?_, fun a h hm => ?_, fun a h => ?_, fun n a o h1 h2 => ?_⟩
  · show (m.m ++ [p]).Nodup
    rw [List.nodup_append]
    refine ⟨w.nd, by simp, fun a ha b hb e => ?_⟩
    simp at hb
    subst hb
    subst e
    exact hn ha
  · rcases List.mem_append.mp hm with z | z
    · exact w.dis a h z
    · simp at z; subst z; exact hh h
  · rcases h with h | h
    · rcases List.mem_append.mp h with z | z
      · exact htr a (w.trk a (.inl z))
      · simp at z; subst z; rw [hx]; simp
    · exact htr a (w.trk a (.inr h))
  · have h1 : (m.m ++ [p])[n]? = some a := h1
    by_cases hl : n < m.m.length
    · rw [List.getElem?_append_left hl] at h1
      rw [List.getElem?_append_left (by rw [← w.len]; exact hl)] at h2
      exact (w.get n a o h1 h2).monw st (hk a (List.mem_of_getElem? h1))
    · rw [List.getElem?_append_right (by omega)] at h1
      rw [List.getElem?_append_right (by rw [← w.len]; omega)] at h2
      have z : n - m.m.length = 0 := by
        have := (List.getElem?_eq_some_iff.mp h1).1
        simp at this
        omega
      rw [z] at h1
      rw [← w.len, z] at h2
      simp at h1 h2
      subst h1
      subst h2
      exact ⟨xs, hx, hd⟩
theorem stp_push {p : Addr} {u : HO} (hp : H p = none) : Stp m H (m.push p) (upd H p u) :=
  ⟨⟨[p], rfl, fun a h => by simp at h; subst h; exact hp⟩, rfl, (stp_new (m := m) hp).keep, (stp_new (m := m) hp).tr⟩
theorem wr_push {p : Addr} {ds : List D} {xs : List V} (w : WR K m S H) (hp : H p = none) (hd : DRs K m H ds xs) : WR K (m.push p) (S ++ [.lst ds]) (upd H p (.lst xs)) :=
  wr_cell (m' := m) w (stp_push hp).w (fun z => w.notin hp (.inl z)) (fun z => w.notin hp (.inr z)) (fun a _ u e => by rw [upd_ne (ne_of_none e hp)]; exact e) (fun a h => tr_upd a h) upd_same (hd.mono (stp_push hp))
theorem WR.at (w : WR K m S H) {n : Nat} {a : Addr} {ds : List D} (h1 : m.m[n]? = some a) (h2 : S[n]? = some (.lst ds)) : ∃ xs, H a = some (.lst xs) ∧ DRs K m H ds xs := w.get n a _ h1 h2
theorem nd_ix {m : List Addr} (hm : m.Nodup) {i j : Nat} {x : Addr} (a : m[i]? = some x) (b : m[j]? = some x) : i = j := by
  obtain ⟨h1, e1⟩ := List.getElem?_eq_some_iff.mp a
  obtain ⟨h2, e2⟩ := List.getElem?_eq_some_iff.mp b
  exact (List.getElem_inj hm).mp (e1.trans e2.symm)
/-- a list of the store is written -/
theorem stp_write {n : Nat} {a : Addr} {u : HO} (h1 : m.m[n]? = some a) : Stp m H m (upd H a u) :=
  ⟨⟨[], by simp, fun _ h => by cases h⟩, rfl, fun b o h hb => by
    rw [upd_ne]
    · exact h
    · rintro rfl
      exact hb (List.mem_of_getElem? h1), fun b h => tr_upd b h⟩
theorem wr_write {n : Nat} {a : Addr} {ds : List D} {xs : List V} (w : WR K m S H) (h1 : m.m[n]? = some a) (hd : DRs K m H ds xs) : WR K m (S.set n (.lst ds)) (upd H a (.lst xs)) := by
  have st : Stp m H m (upd H a (.lst xs)) := stp_write h1
  refine ⟨by rw [List.length_set]; exact w.len, w.nd, w.dis, fun b h => st.tr b (w.trk b h), fun k b q e1 e2 => ?_⟩
  by_cases hk : n = k
  · subst hk
    rw [h1] at e1
    cases e1
    have hl : n < S.length := by rw [← w.len]; exact (List.getElem?_eq_some_iff.mp h1).1
    rw [List.getElem?_set_self hl] at e2
    cases e2
    exact ⟨xs, upd_same, hd.mono st⟩
  · rw [List.getElem?_set_ne hk] at e2
    refine (w.get k b q e1 e2).monw st.w fun v e => ?_
    rw [upd_ne]
    · exact e
    · rintro rfl
      exact hk (nd_ix w.nd h1 e1)
/-- a thing that may change, but is no cell of the store -/
def Mp.hide (m : Mp) (p : Addr) : Mp := ⟨m.m, p :: m.h⟩
theorem stw_hide {p : Addr} {u : HO} (hp : H p = none) : Stw m H (m.hide p) (upd H p u) := by
  refine ⟨⟨[], by simp [Mp.hide]⟩, fun a h => ?_, fun a o h _ => by rw [upd_ne (ne_of_none h hp)]; exact h⟩
  rcases h with h | h
  · exact .inl (.inl h)
  · rcases List.mem_cons.mp h with z | z
    · subst z; exact .inr hp
    · exact .inl (.inr z)
theorem wr_hide {p : Addr} {u : HO} (w : WR K m S H) (hp : H p = none) : WR K (m.hide p) S (upd H p u) := by
  refine ⟨w.len, w.nd, fun a h => ?_, fun a h => ?_, fun n a o h1 h2 => (w.get n a o h1 h2).monw (stw_hide hp) fun v e => by rw [upd_ne (ne_of_none e hp)]; exact e⟩
  · rcases List.mem_cons.mp h with z | z
    · subst z; exact fun q => w.notin hp (.inl q)
    · exact w.dis a z
  · rcases h with h | h
    · exact tr_upd a (w.trk a (.inl h))
    · rcases List.mem_cons.mp h with z | z
      · subst z; rw [upd_same]; simp
      · exact tr_upd a (w.trk a (.inr z))
/-- it is written -/
theorem stw_hidden {p : Addr} {u : HO} (hp : m.fb p) : Stw m H m (upd H p u) :=
  ⟨⟨[], by simp⟩, fun a h => .inl h, fun a o h n => by
    rw [upd_ne]
    · exact h
    · rintro rfl
      exact n hp⟩
theorem wr_hidden {p : Addr} {u : HO} (w : WR K m S H) (hp : p ∈ m.h) : WR K m S (upd H p u) := by
  refine ⟨w.len, w.nd, w.dis, fun b h => tr_upd b (w.trk b h), fun n a o h1 h2 => (w.get n a o h1 h2).monw (stw_hidden (.inr hp)) fun v e => ?_⟩
  rw [upd_ne]
  · exact e
  · rintro rfl
    exact w.dis _ hp (List.mem_of_getElem? h1)
/-- from a state at which p was free, seen without the hidden one -/
theorem stp_bare {ms ms' hs hs' : List Addr} (st : Stp ⟨ms, hs⟩ H ⟨ms', hs⟩ H') : Stp ⟨ms, hs'⟩ H ⟨ms', hs'⟩ H' := ⟨st.more, rfl, st.keep, st.tr⟩
theorem stw_base {p : Addr} {ms : List Addr} (hp : H p = none) (st : Stp m H ⟨ms, m.h⟩ H') : Stw m H ⟨ms, p :: m.h⟩ H' := by
  refine ⟨st.w.more, fun a h => ?_, st.w.keep⟩
  rcases h with h | h
  · exact st.w.ffr a (.inl h)
  · rcases List.mem_cons.mp h with z | z
    · subst z; exact .inr hp
    · exact .inl (.inr z)
theorem stp_over {p : Addr} {u : HO} {ms : List Addr} (hp : H p = none) (st : Stp m H ⟨ms, m.h⟩ H') : Stp m H ⟨ms, m.h⟩ (upd H' p u) :=
  ⟨st.more, rfl, fun a o h n => by rw [upd_ne (ne_of_none h hp)]; exact st.keep a o h n, fun a h => tr_upd a (st.tr a h)⟩
/-- it is shown again -/
theorem stw_show {p : Addr} {ms hs : List Addr} : Stw ⟨ms, p :: hs⟩ H ⟨ms, hs⟩ H :=
  ⟨⟨[], by simp⟩, fun a h => .inl (h.elim .inl fun z => .inr (List.mem_cons_of_mem _ z)), fun a o h _ => h⟩
theorem wr_show {p : Addr} {ms hs : List Addr} (w : WR K ⟨ms, p :: hs⟩ S H) : WR K ⟨ms, hs⟩ S H :=
  ⟨w.len, w.nd, fun a h => w.dis a (List.mem_cons_of_mem _ h), fun a h => w.trk a (h.elim .inl fun z => .inr (List.mem_cons_of_mem _ z)), fun n a o h1 h2 => (w.get n a o h1 h2).monw stw_show fun _ e => e⟩
/-- how lists, tuples are read -/
theorem SqT.lift {a : Addr} {xs : List V} (h : SqT K H0 a xs) : SqT K H a xs := by
  rcases h with (h | ⟨o, h⟩) | h
  · cases h
  · cases h
  · exact .inr h
theorem SqL.lift {a : Addr} {xs : List V} (h : SqL K H0 a xs) : SqL K H a xs := by
  rcases h with (h | ⟨o, h⟩) | h
  · cases h
  · cases h
  · exact .inr h
theorem sqt_of {a : Addr} {xs : List V} (h : Fz m H a (.tup xs) ∨ SqT K H0 a xs) : SqT K H a xs := h.elim (fun z => .inl z.1) SqT.lift
theorem sql_of {a : Addr} {xs : List V} (h : Fz m H a (.lst xs) ∨ SqL K H0 a xs) : SqL K H a xs := h.elim (fun z => .inl z.1) SqL.lift
end
/-- a test that no reduction looks into -/
noncomputable def cl (p : Prop) : Bool := @decide p (Classical.propDecidable p)
theorem cl_iff {p : Prop} : cl p = true ↔ p := by
  unfold cl
  exact @decide_eq_true_iff p (Classical.propDecidable p)
theorem cl_yes {p : Prop} (h : p) : cl p = true := cl_iff.mpr h
theorem cl_dec {p : Prop} [h : Decidable p] : cl p = decide p := by
  by_cases hp : p
  · rw [cl_yes hp, decide_eq_true hp]
  · rw [decide_eq_false hp]
    exact Bool.eq_false_iff.mpr fun e => hp (cl_iff.mp e)
end Nw
namespace Nw
open PySem PySem.Spec PyProof.Rows L2
/-! ### what is known of a context -/
structure Cxo (k : Nat) (X : Cx) : Prop where
  calm : X.calm = true
  nd : X.N.Nodup
  room : Room k X.A
  gu : X.A.guards = some []
/-! ### judgements -/
abbrev FE := Rho → Mo D
abbrev FT := Rho → Mo Bool
abbrev FA := Rho → Mo (List D)
/-- what follows a value -/
def PV (K : PySem.W.Frag) (m : Mp) (H : Hp) (d : D) (S' : Sto) (Q : VK) : Prop := ∀ v m' H', Stp m H m' H' → WR K m' S' H' → DR K m' H' d v → Q v H'
def PVs (K : PySem.W.Frag) (m : Mp) (H : Hp) (ds : List D) (S' : Sto) (Q : List V → Hp → Prop) : Prop := ∀ vs m' H', Stp m H m' H' → WR K m' S' H' → DRs K m' H' ds vs → Q vs H'
def PB (K : PySem.W.Frag) (m : Mp) (H : Hp) (b : Bool) (S' : Sto) (Q : Bool → Hp → Prop) : Prop := ∀ m' H', Stp m H m' H' → WR K m' S' H' → Q b H'
structure SE (X : Cx) (e : Expr) (f : FE) : Prop where
  ex : ∃ t, PE X e t ∧ ∀ (m : Mp) (S : Sto) (H : Hp) (ρ : Rho) (σ : L2.St) (Q : VK) (d : D) (S' : Sto), WR X.K m S H → ER X.K m H ρ σ → f ρ S = some (d, S') → PV X.K m H d S' Q → t σ H Q
structure SA (X : Cx) (es : List Expr) (f : FA) : Prop where
  ex : ∃ t, PA X es t ∧ ∀ (m : Mp) (S : Sto) (H : Hp) (ρ : Rho) (σ : L2.St) (Q : List V → Hp → Prop) (ds : List D) (S' : Sto), WR X.K m S H → ER X.K m H ρ σ → f ρ S = some (ds, S') → PVs X.K m H ds S' Q → t σ H Q
structure ST (X : Cx) (e : Expr) (f : FT) : Prop where
  ex : ∃ t, PT X e t ∧ ∀ (m : Mp) (S : Sto) (H : Hp) (ρ : Rho) (σ : L2.St) (Q : Bool → Hp → Prop) (b : Bool) (S' : Sto), WR X.K m S H → ER X.K m H ρ σ → f ρ S = some (b, S') → PB X.K m H b S' Q → t σ H Q
structure SW (X : Cx) (e : Expr) (f : FT) : Prop where
  ex : ∃ t, PW X e t ∧ ∀ (m : Mp) (S : Sto) (H : Hp) (ρ : Rho) (σ : L2.St) (Q : Bool → Hp → Prop) (b : Bool) (S' : Sto), WR X.K m S H → ER X.K m H ρ σ → f ρ S = some (b, S') → PB X.K m H b S' Q → t σ H Q
theorem SW.st {X : Cx} {e : Expr} {f : FT} (h : SW X e f) : ST X e f := let ⟨t, a, b⟩ := h.ex; ⟨t, a.pt, b⟩
theorem PV.step {K : PySem.W.Frag} {m m1 : Mp} {H H1 : Hp} {d : D} {S' : Sto} {Q : VK} (st : Stp m H m1 H1) (h : PV K m H d S' Q) : PV K m1 H1 d S' Q := fun v m' H' s w r => h v m' H' (st.trans s) w r
theorem PVs.step {K : PySem.W.Frag} {m m1 : Mp} {H H1 : Hp} {d : List D} {S' : Sto} {Q : List V → Hp → Prop} (st : Stp m H m1 H1) (h : PVs K m H d S' Q) : PVs K m1 H1 d S' Q := fun v m' H' s w r => h v m' H' (st.trans s) w r
theorem PB.step {K : PySem.W.Frag} {m m1 : Mp} {H H1 : Hp} {b : Bool} {S' : Sto} {Q : Bool → Hp → Prop} (st : Stp m H m1 H1) (h : PB K m H b S' Q) : PB K m1 H1 b S' Q := fun m' H' s w => h m' H' (st.trans s) w
/-! ### mirrors of expressions -/
def eVar (i : Nat) : FE := fun ρ S => match ρ[i]? with
  | some (some d) => some (d, S)
  | _ => none
def eC (d : D) : FE := fun _ S => some (d, S)
def aNil : FA := fun _ S => some ([], S)
def aCons (f : FE) (g : FA) : FA := fun ρ S => match f ρ S with
  | some (d, S1) => (match g ρ S1 with
    | some (ds, S2) => some (d :: ds, S2)
    | none => none)
  | none => none
def eBin (g : D → D → Mo D) (a b : FE) : FE := fun ρ S => match a ρ S with
  | some (x, S1) => (match b ρ S1 with
    | some (y, S2) => g x y S2
    | none => none)
  | none => none
def eUn (g : D → Mo D) (a : FE) : FE := fun ρ S => match a ρ S with
  | some (x, S1) => g x S1
  | none => none
def eArg (g : List D → Mo D) (a : FA) : FE := fun ρ S => match a ρ S with
  | some (xs, S1) => g xs S1
  | none => none
def eIf (c : FT) (a b : FE) : FE := fun ρ S => match c ρ S with
  | some (true, S1) => a ρ S1
  | some (false, S1) => b ρ S1
  | none => none
def tBl (f : FE) : FT := fun ρ S => match f ρ S with
  | some (.bl b, S1) => some (b, S1)
  | _ => none
def tAnd2 (a b : FT) : FT := fun ρ S => match a ρ S with
  | some (true, S1) => b ρ S1
  | some (false, S1) => some (false, S1)
  | none => none
def tOr2 (a b : FT) : FT := fun ρ S => match a ρ S with
  | some (true, S1) => some (true, S1)
  | some (false, S1) => b ρ S1
  | none => none
def tNot2 (a : FT) : FT := fun ρ S => match a ρ S with
  | some (b, S1) => some (!b, S1)
  | none => none
def eAnd2 (a b : FE) : FE := fun ρ S => match a ρ S with
  | some (.bl true, S1) => b ρ S1
  | some (.bl false, S1) => some (.bl false, S1)
  | _ => none
def eOr2 (a b : FE) : FE := fun ρ S => match a ρ S with
  | some (.bl true, S1) => some (.bl true, S1)
  | some (.bl false, S1) => b ρ S1
  | _ => none
def eNot2 (a : FE) : FE := fun ρ S => match a ρ S with
  | some (.bl b, S1) => some (.bl (!b), S1)
  | _ => none
/-- a chain of two comparisons -/
def eChain (g g' : D → D → Mo D) (a b c : FE) : FE := fun ρ S => match a ρ S with
  | some (x, S1) => (match b ρ S1 with
    | some (y, S2) => (match g x y S2 with
      | some (.bl true, S3) => (match c ρ S3 with
        | some (z, S4) => g' y z S4
        | none => none)
      | some (.bl false, S3) => some (.bl false, S3)
      | _ => none)
    | none => none)
  | none => none
/-! ### operations by values -/
def OpD (K : PySem.W.Frag) (r : R2) (g : D → D → Mo D) : Prop :=
  ∀ (m : Mp) (S : Sto) (H : Hp) (x y : D) (v u : V) (d : D) (S' : Sto) (Q : VK), WR K m S H → DR K m H x v → DR K m H y u → g x y S = some (d, S') → PV K m H d S' Q → r v u H Q
def UnD (K : PySem.W.Frag) (r : V → Hp → VK → Prop) (g : D → Mo D) : Prop :=
  ∀ (m : Mp) (S : Sto) (H : Hp) (x : D) (v : V) (d : D) (S' : Sto) (Q : VK), WR K m S H → DR K m H x v → g x S = some (d, S') → PV K m H d S' Q → r v H Q
def ArD (K : PySem.W.Frag) (r : List V → Hp → VK → Prop) (g : List D → Mo D) : Prop :=
  ∀ (m : Mp) (S : Sto) (H : Hp) (xs : List D) (vs : List V) (d : D) (S' : Sto) (Q : VK), WR K m S H → DRs K m H xs vs → g xs S = some (d, S') → PV K m H d S' Q → r vs H Q
/-- a method: the receiver, the arguments -/
def MtD (K : PySem.W.Frag) (r : V → List V → Hp → VK → Prop) (g : D → List D → Mo D) : Prop :=
  ∀ (m : Mp) (S : Sto) (H : Hp) (x : D) (v : V) (xs : List D) (vs : List V) (d : D) (S' : Sto) (Q : VK), WR K m S H → DR K m H x v → DRs K m H xs vs → g x xs S = some (d, S') → PV K m H d S' Q → r v vs H Q
/-! ### inversion of the mirrors -/
theorem inv_bin {g : D → D → Mo D} {a b : FE} {ρ : Rho} {S S' : Sto} {d : D} (h : eBin g a b ρ S = some (d, S')) : ∃ x S1 y S2, a ρ S = some (x, S1) ∧ b ρ S1 = some (y, S2) ∧ g x y S2 = some (d, S') := by
  unfold eBin at h
  split at h
  · rename_i x S1 e1
    split at h
    · rename_i y S2 e2
      exact ⟨x, S1, y, S2, e1, e2, h⟩
    · cases h
  · cases h
theorem inv_un {g : D → Mo D} {a : FE} {ρ : Rho} {S S' : Sto} {d : D} (h : eUn g a ρ S = some (d, S')) : ∃ x S1, a ρ S = some (x, S1) ∧ g x S1 = some (d, S') := by
  unfold eUn at h
  split at h
  · rename_i x S1 e1
    exact ⟨x, S1, e1, h⟩
  · cases h
theorem inv_arg {g : List D → Mo D} {a : FA} {ρ : Rho} {S S' : Sto} {d : D} (h : eArg g a ρ S = some (d, S')) : ∃ x S1, a ρ S = some (x, S1) ∧ g x S1 = some (d, S') := by
  unfold eArg at h
  split at h
  · rename_i x S1 e1
    exact ⟨x, S1, e1, h⟩
  · cases h
theorem inv_cons {f : FE} {g : FA} {ρ : Rho} {S S' : Sto} {ds : List D} (h : aCons f g ρ S = some (ds, S')) : ∃ x S1 xs, f ρ S = some (x, S1) ∧ g ρ S1 = some (xs, S') ∧ ds = x :: xs := by
  unfold aCons at h
  split at h
  · rename_i x S1 e1
    split at h
    · rename_i y S2 e2
      cases h
      exact ⟨x, S1, y, e1, e2, rfl⟩
    · cases h
  · cases h
theorem inv_bl {f : FE} {ρ : Rho} {S S' : Sto} {b : Bool} (h : tBl f ρ S = some (b, S')) : f ρ S = some (.bl b, S') := by
  unfold tBl at h
  split at h
  · rename_i c S1 e
    cases h
    exact e
  · cases h
section
variable {X : Cx}
/-! ### names, constants -/
theorem se_var {i : Nat} {x : Str} {pos : Pos} (hN : X.N[i]? = some x) (hv : Vis X.env.scope x) (hd : (x == ("__debug__" : Str)) = false := by decide) (hcd : (x == ("__classdict__" : Str)) = false := by decide) : SE X (.Name x pos) (eVar i) := by
  refine ⟨_, pe_var hN hv hd hcd, fun m S H ρ σ Q d S' w er h q => ?_⟩
  unfold eVar at h
  split at h
  · rename_i d' e
    cases h
    obtain ⟨v, e1, r⟩ := er.2 i _ e
    exact ⟨v, e1, q v m H .refl w r⟩
  · cases h
theorem se_of_tC {e : Expr} {v : V} {d : D} (h : PE X e (tC v)) (hd : ∀ m H, DR X.K m H d v) : SE X e (eC d) := by
  refine ⟨_, h, fun m S H ρ σ Q d' S' w er h q => ?_⟩
  cases h
  exact q v m H .refl w (hd m H)
theorem se_int {i j pos} : SE X (.Constant (.int i) j pos) (eC (.int i)) := se_of_tC pe_int fun _ _ => .int _
theorem se_bl {b j pos} : SE X (.Constant (.bool b) j pos) (eC (.bl b)) := se_of_tC pe_bl fun _ _ => .bl _
theorem se_non {j pos} : SE X (.Constant .none j pos) (eC .non) := se_of_tC pe_non fun _ _ => .non
theorem se_str {x j pos} : SE X (.Constant (.str x) j pos) (eC (.str x)) := se_of_tC pe_str fun _ _ => .str _
/-- a module's constant that holds an int, a text -/
theorem se_gint {x : Str} {i : Int} {t : Tok} {pos : Pos} (hm : X.mg x = some (.int i t)) (hg : Gl X x) (hd : (x == ("__debug__" : Str)) = false := by decide) : SE X (.Name x pos) (eC (.int i)) :=
  se_of_tC (v := .int i) (pe_glob hg hm ⟨t, rfl⟩ hd) fun _ _ => .int _
theorem se_gstr {x y : Str} {t : Tok} {pos : Pos} (hm : X.mg x = some (.str y t)) (hg : Gl X x) (hd : (x == ("__debug__" : Str)) = false := by decide) : SE X (.Name x pos) (eC (.str y)) :=
  se_of_tC (v := .str y) (pe_glob hg hm ⟨t, rfl⟩ hd) fun _ _ => .str _
/-- a module's constant that holds a tuple of ints -/
theorem drs_ints {K : PySem.W.Frag} {m : Mp} {H : Hp} : ∀ ns : List Int, DRs K m H (ns.map D.int) (ns.map V.int)
  | [] => .nil
  | n :: ns => .cons (.int n) (drs_ints ns)
theorem se_gtup {x : Str} {a : Addr} {ns : List Int} {pos : Pos} (ht : SqT X.K H0 a (ns.map V.int)) (hm : X.mg x = some (.ref a)) (hg : Gl X x) (hd : (x == ("__debug__" : Str)) = false := by decide) : SE X (.Name x pos) (eC (.tup (ns.map .int))) :=
  se_of_tC (v := .ref a) (pe_glob hg hm rfl hd) fun _ _ => .tup (.inr ht) (drs_ints ns)
/-- a built-in class as an argument -/
theorem se_ty {x : Str} {T : String} {pos : Pos} (hm : X.mg x = none) (hv : bootBuiltins x = some (.type T)) (hg : Gl X x) (hn : x ≠ "__name__" := by decide) (hd : (x == ("__debug__" : Str)) = false := by decide) : SE X (.Name x pos) (eC (.ty T)) :=
  se_of_tC (v := .ty T) (pe_bltn hg hm hv rfl hn hd) fun _ _ => .ty _
/-! ### arguments -/
theorem sa_nil : SA X [] aNil := ⟨_, pa_nil, fun m S H ρ σ Q d S' w er h q => by
  cases h
  exact q [] m H .refl w .nil⟩
theorem sa_cons {e : Expr} {es : List Expr} {f : FE} {g : FA} (ha : SE X e f) (hr : SA X es g) (hs : starEach (e :: es) X.env = (false, eval e X.env) :: starEach es X.env := by rfl) : SA X (e :: es) (aCons f g) := by
  obtain ⟨t, p, ht⟩ := ha.ex
  obtain ⟨u, p', hu⟩ := hr.ex
  refine ⟨_, pa_cons p p' hs, fun m S H ρ σ Q ds S' w er h q => ?_⟩
  obtain ⟨x, S1, xs, e1, e2, rfl⟩ := inv_cons h
  refine ht m S H ρ σ _ x S1 w er e1 fun v m1 H1 st1 w1 r1 => ?_
  refine hu m1 S1 H1 ρ σ _ xs S' w1 (er.mono st1) e2 fun vs m2 H2 st2 w2 r2 => ?_
  exact q (v :: vs) m2 H2 (st1.trans st2) w2 (.cons (r1.mono st2) r2)
/-! ### operations -/
theorem se_op {op : Operator} {a b : Expr} {pos : Pos} {r : R2} {g : D → D → Mo D} {fa fb : FE} (ho : OpR X (binaryOp op) r) (hd : OpD X.K r g) (ha : SE X a fa) (hb : SE X b fb) : SE X (.BinOp a op b pos) (eBin g fa fb) := by
  obtain ⟨t, p, ht⟩ := ha.ex
  obtain ⟨u, p', hu⟩ := hb.ex
  refine ⟨_, pe_op ho p p', fun m S H ρ σ Q d S' w er h q => ?_⟩
  obtain ⟨x, S1, y, S2, e1, e2, e3⟩ := inv_bin h
  refine ht m S H ρ σ _ x S1 w er e1 fun v m1 H1 st1 w1 r1 => ?_
  refine hu m1 S1 H1 ρ σ _ y S2 w1 (er.mono st1) e2 fun v2 m2 H2 st2 w2 r2 => ?_
  exact hd m2 S2 H2 x y v v2 d S' Q w2 (r1.mono st2) r2 e3 (q.step (st1.trans st2))
theorem se_cmp {op : CmpOp} {a b : Expr} {pos : Pos} {r : R2} {g : D → D → Mo D} {fa fb : FE} (ho : OpR X (compareOp op) r) (hd : OpD X.K r g) (ha : SE X a fa) (hb : SE X b fb) (hm : behindInMarks op b = false) : SE X (.Compare a [op] [b] pos) (eBin g fa fb) := by
  obtain ⟨t, p, ht⟩ := ha.ex
  obtain ⟨u, p', hu⟩ := hb.ex
  refine ⟨_, pe_cmpR ho p p' hm, fun m S H ρ σ Q d S' w er h q => ?_⟩
  obtain ⟨x, S1, y, S2, e1, e2, e3⟩ := inv_bin h
  refine ht m S H ρ σ _ x S1 w er e1 fun v m1 H1 st1 w1 r1 => ?_
  refine hu m1 S1 H1 ρ σ _ y S2 w1 (er.mono st1) e2 fun v2 m2 H2 st2 w2 r2 => ?_
  exact hd m2 S2 H2 x y v v2 d S' Q w2 (r1.mono st2) r2 e3 (q.step (st1.trans st2))
theorem se_un {op : UnaryOp} {a : Expr} {pos : Pos} {r : V → Hp → VK → Prop} {g : D → Mo D} {fa : FE} (ho : UnR X (unaryOp op) r) (hd : UnD X.K r g) (ha : SE X a fa) : SE X (.UnaryOp op a pos) (eUn g fa) := by
  obtain ⟨t, p, ht⟩ := ha.ex
  refine ⟨_, pe_un ho p, fun m S H ρ σ Q d S' w er h q => ?_⟩
  obtain ⟨x, S1, e1, e3⟩ := inv_un h
  refine ht m S H ρ σ _ x S1 w er e1 fun v m1 H1 st1 w1 r1 => ?_
  exact hd m1 S1 H1 x v d S' Q w1 r1 e3 (q.step st1)
theorem se_chain {op op' : CmpOp} {a b c : Expr} {pos : Pos} {r r' : R2} {g g' : D → D → Mo D} {fa fb fc : FE} (ho : OpR X (compareOp op) r) (hd : OpD X.K r g) (ho' : OpR X (compareOp op') r') (hd' : OpD X.K r' g') (ha : SE X a fa) (hb : SE X b fb) (hc : SE X c fc) (hlm : lastMarks [op, op'] [b, c] = false) :
    SE X (.Compare a [op, op'] [b, c] pos) (eChain g g' fa fb fc) := by
  obtain ⟨t, p, ht⟩ := ha.ex
  obtain ⟨u, p', hu⟩ := hb.ex
  obtain ⟨z, p'', hz⟩ := hc.ex
  refine ⟨_, pe_chain ho ho' p p' p'' hlm, fun m S H ρ σ Q d S' w er h q => ?_⟩
  unfold eChain at h
  split at h
  · rename_i x S1 e1
    split at h
    · rename_i y S2 e2
      refine ht m S H ρ σ _ x S1 w er e1 fun v m1 H1 st1 w1 r1 => ?_
      refine hu m1 S1 H1 ρ σ _ y S2 w1 (er.mono st1) e2 fun v2 m2 H2 st2 w2 r2 => ?_
      split at h
      · rename_i S3 e3
        refine hd m2 S2 H2 x y v v2 _ S3 _ w2 (r1.mono st2) r2 e3 fun v3 m3 H3 st3 w3 r3 => ?_
        split at h
        · rename_i z' S4 e4
          cases r3
          refine ⟨true, rfl, ?_⟩
          rw [if_pos rfl]
          refine hz m3 S3 H3 ρ σ _ z' S4 w3 (er.mono (st1.trans (st2.trans st3))) e4 fun v4 m4 H4 st4 w4 r4 => ?_
          exact hd' m4 S4 H4 y z' v2 v4 d S' Q w4 (r2.mono (st3.trans st4)) r4 h (q.step (st1.trans (st2.trans (st3.trans st4))))
        · cases h
      · rename_i S3 e3
        cases h
        refine hd m2 S2 H2 x y v v2 _ S' _ w2 (r1.mono st2) r2 e3 fun v3 m3 H3 st3 w3 r3 => ?_
        cases r3
        refine ⟨false, rfl, ?_⟩
        rw [if_neg Bool.false_ne_true]
        exact q (.bl false) m3 H3 (st1.trans (st2.trans st3)) w3 (.bl false)
      · cases h
    · cases h
  · cases h
/-! ### tests -/
theorem st_cmp {op : CmpOp} {a b : Expr} {pos : Pos} {r : R2} {g : D → D → Mo D} {fa fb : FE} (ho : OpR X (compareOp op) r) (hd : OpD X.K r g) (ha : SE X a fa) (hb : SE X b fb) (hm : behindInMarks op b = false) : ST X (.Compare a [op] [b] pos) (tBl (eBin g fa fb)) := by
  obtain ⟨t, p, ht⟩ := ha.ex
  obtain ⟨u, p', hu⟩ := hb.ex
  refine ⟨_, pt_cmpR ho p p' hm, fun m S H ρ σ Q c S' w er h q => ?_⟩
  unfold tBl at h
  split at h
  · rename_i c' S'' e0
    cases h
    obtain ⟨x, S1, y, S2, e1, e2, e3⟩ := inv_bin e0
    refine ht m S H ρ σ _ x S1 w er e1 fun v m1 H1 st1 w1 r1 => ?_
    refine hu m1 S1 H1 ρ σ _ y S2 w1 (er.mono st1) e2 fun v2 m2 H2 st2 w2 r2 => ?_
    refine hd m2 S2 H2 x y v v2 _ S' _ w2 (r1.mono st2) r2 e3 fun v3 m3 H3 st3 w3 r3 => ?_
    cases r3
    exact ⟨c, rfl, q m3 H3 (st1.trans (st2.trans st3)) w3⟩
  · cases h
theorem st_chain {op op' : CmpOp} {a b c : Expr} {pos : Pos} {r r' : R2} {g g' : D → D → Mo D} {fa fb fc : FE} (ho : OpR X (compareOp op) r) (hd : OpD X.K r g) (ho' : OpR X (compareOp op') r') (hd' : OpD X.K r' g') (ha : SE X a fa) (hb : SE X b fb) (hc : SE X c fc) (hlm : lastMarks [op, op'] [b, c] = false) :
    ST X (.Compare a [op, op'] [b, c] pos) (tBl (eChain g g' fa fb fc)) := by
  obtain ⟨t, p, ht⟩ := ha.ex
  obtain ⟨u, p', hu⟩ := hb.ex
  obtain ⟨z, p'', hz⟩ := hc.ex
  refine ⟨_, pt_chain ho ho' p p' p'' hlm, fun m S H ρ σ Q k S' w er h q => ?_⟩
  have e0 := inv_bl h
  have fin : PV X.K m H (.bl k) S' (fun x H' => ∃ b, x = .bl b ∧ Q b H') := fun v m' H' st w' r => by
    cases r
    exact ⟨k, rfl, q m' H' st w'⟩
  unfold eChain at e0
  split at e0
  · rename_i x S1 e1
    split at e0
    · rename_i y S2 e2
      refine ht m S H ρ σ _ x S1 w er e1 fun v m1 H1 st1 w1 r1 => ?_
      refine hu m1 S1 H1 ρ σ _ y S2 w1 (er.mono st1) e2 fun v2 m2 H2 st2 w2 r2 => ?_
      split at e0
      · rename_i S3 e3
        refine hd m2 S2 H2 x y v v2 _ S3 _ w2 (r1.mono st2) r2 e3 fun v3 m3 H3 st3 w3 r3 => ?_
        split at e0
        · rename_i z' S4 e4
          cases r3
          refine ⟨true, rfl, ?_⟩
          rw [if_pos rfl]
          refine hz m3 S3 H3 ρ σ _ z' S4 w3 (er.mono (st1.trans (st2.trans st3))) e4 fun v4 m4 H4 st4 w4 r4 => ?_
          exact hd' m4 S4 H4 y z' v2 v4 _ S' _ w4 (r2.mono (st3.trans st4)) r4 e0 (fin.step (st1.trans (st2.trans (st3.trans st4))))
        · cases e0
      · rename_i S3 e3
        cases e0
        refine hd m2 S2 H2 x y v v2 _ S' _ w2 (r1.mono st2) r2 e3 fun v3 m3 H3 st3 w3 r3 => ?_
        cases r3
        refine ⟨false, rfl, ?_⟩
        rw [if_neg Bool.false_ne_true]
        exact fin (.bl false) m3 H3 (st1.trans (st2.trans st3)) w3 (.bl false)
      · cases e0
    · cases e0
  · cases e0
/-- an expression whose value is a bool -/
theorem st_val {e : Expr} {f : FE} (h : SE X e f) (he : ∀ whole, isTrue e X.env whole = (do let v ← whole; standAt e.pos; holding [v] (truthy v)) := by intro _; rfl) : ST X e (tBl f) := by
  obtain ⟨t, p, ht⟩ := h.ex
  refine ⟨_, pt_val p he, fun m S H ρ σ Q c S' w er h q => ?_⟩
  unfold tBl at h
  split at h
  · rename_i c' S'' e0
    cases h
    refine ht m S H ρ σ _ _ S' w er e0 fun v m1 H1 st1 w1 r1 => ?_
    cases r1
    exact ⟨c, rfl, q m1 H1 st1 w1⟩
  · cases h
theorem st_not {a : Expr} {pos : Pos} {f : FT} (h : ST X a f) : ST X (.UnaryOp .Not a pos) (tNot2 f) := by
  obtain ⟨t, p, ht⟩ := h.ex
  refine ⟨_, pt_not p, fun m S H ρ σ Q c S' w er h q => ?_⟩
  unfold tNot2 at h
  split at h
  · rename_i b S1 e
    cases h
    exact ht m S H ρ σ _ b S' w er e fun m1 H1 st1 w1 => q m1 H1 st1 w1
  · cases h
theorem sw_and1 {a : Expr} {pos : Pos} {f : FT} (h : ST X a f) : SW X (.BoolOp .And [a] pos) f := let ⟨t, p, ht⟩ := h.ex; ⟨t, pw_and1 p, ht⟩
theorem sw_or1 {a : Expr} {pos : Pos} {f : FT} (h : ST X a f) : SW X (.BoolOp .Or [a] pos) f := let ⟨t, p, ht⟩ := h.ex; ⟨t, pw_or1 p, ht⟩
theorem sw_and {a b : Expr} {rest : List Expr} {pos : Pos} {f g : FT} (ha : ST X a f) (hb : SW X (.BoolOp .And (b :: rest) pos) g) : SW X (.BoolOp .And (a :: b :: rest) pos) (tAnd2 f g) := by
  obtain ⟨t, p, ht⟩ := ha.ex
  obtain ⟨u, p', hu⟩ := hb.ex
  refine ⟨_, pw_and p p', fun m S H ρ σ Q c S' w er h q => ?_⟩
  unfold tAnd2 at h
  split at h
  · rename_i S1 e
    refine ht m S H ρ σ _ true S1 w er e fun m1 H1 st1 w1 => ?_
    show (if true = true then u σ H1 Q else Q false H1)
    rw [if_pos rfl]
    exact hu m1 S1 H1 ρ σ Q c S' w1 (er.mono st1) h (q.step st1)
  · rename_i S1 e
    cases h
    refine ht m S H ρ σ _ false S' w er e fun m1 H1 st1 w1 => ?_
    show (if false = true then u σ H1 Q else Q false H1)
    rw [if_neg Bool.false_ne_true]
    exact q m1 H1 st1 w1
  · cases h
theorem sw_or {a b : Expr} {rest : List Expr} {pos : Pos} {f g : FT} (ha : ST X a f) (hb : SW X (.BoolOp .Or (b :: rest) pos) g) : SW X (.BoolOp .Or (a :: b :: rest) pos) (tOr2 f g) := by
  obtain ⟨t, p, ht⟩ := ha.ex
  obtain ⟨u, p', hu⟩ := hb.ex
  refine ⟨_, pw_or p p', fun m S H ρ σ Q c S' w er h q => ?_⟩
  unfold tOr2 at h
  split at h
  · rename_i S1 e
    cases h
    refine ht m S H ρ σ _ true S' w er e fun m1 H1 st1 w1 => ?_
    show (if true = true then Q true H1 else u σ H1 Q)
    rw [if_pos rfl]
    exact q m1 H1 st1 w1
  · rename_i S1 e
    refine ht m S H ρ σ _ false S1 w er e fun m1 H1 st1 w1 => ?_
    show (if false = true then Q true H1 else u σ H1 Q)
    rw [if_neg Bool.false_ne_true]
    exact hu m1 S1 H1 ρ σ Q c S' w1 (er.mono st1) h (q.step st1)
  · cases h
/-! ### and, or, not, if as values -/
theorem se_one {op : PySem.BoolOp} {a : Expr} {pos : Pos} {f : FE} (h : SE X a f) : SE X (.BoolOp op [a] pos) f := let ⟨t, p, ht⟩ := h.ex; ⟨t, pe_one p, ht⟩
theorem se_and {a b : Expr} {rest : List Expr} {pos : Pos} {f g : FE} (ha : SE X a f) (hb : SE X (.BoolOp .And (b :: rest) pos) g) : SE X (.BoolOp .And (a :: b :: rest) pos) (eAnd2 f g) := by
  obtain ⟨t, p, ht⟩ := ha.ex
  obtain ⟨u, p', hu⟩ := hb.ex
  refine ⟨_, pe_and p p', fun m S H ρ σ Q d S' w er h q => ?_⟩
  unfold eAnd2 at h
  split at h
  · rename_i S1 e
    refine ht m S H ρ σ _ _ S1 w er e fun v m1 H1 st1 w1 r1 => ?_
    cases r1
    refine ⟨true, rfl, ?_⟩
    rw [if_pos rfl]
    exact hu m1 S1 H1 ρ σ Q d S' w1 (er.mono st1) h (q.step st1)
  · rename_i S1 e
    cases h
    refine ht m S H ρ σ _ _ S' w er e fun v m1 H1 st1 w1 r1 => ?_
    cases r1
    refine ⟨false, rfl, ?_⟩
    rw [if_neg Bool.false_ne_true]
    exact q _ m1 H1 st1 w1 (.bl false)
  · cases h
theorem se_or {a b : Expr} {rest : List Expr} {pos : Pos} {f g : FE} (ha : SE X a f) (hb : SE X (.BoolOp .Or (b :: rest) pos) g) : SE X (.BoolOp .Or (a :: b :: rest) pos) (eOr2 f g) := by
  obtain ⟨t, p, ht⟩ := ha.ex
  obtain ⟨u, p', hu⟩ := hb.ex
  refine ⟨_, pe_or p p', fun m S H ρ σ Q d S' w er h q => ?_⟩
  unfold eOr2 at h
  split at h
  · rename_i S1 e
    cases h
    refine ht m S H ρ σ _ _ S' w er e fun v m1 H1 st1 w1 r1 => ?_
    cases r1
    refine ⟨true, rfl, ?_⟩
    rw [if_pos rfl]
    exact q _ m1 H1 st1 w1 (.bl true)
  · rename_i S1 e
    refine ht m S H ρ σ _ _ S1 w er e fun v m1 H1 st1 w1 r1 => ?_
    cases r1
    refine ⟨false, rfl, ?_⟩
    rw [if_neg Bool.false_ne_true]
    exact hu m1 S1 H1 ρ σ Q d S' w1 (er.mono st1) h (q.step st1)
  · cases h
theorem se_not {a : Expr} {pos : Pos} {f : FE} (ha : SE X a f) : SE X (.UnaryOp .Not a pos) (eNot2 f) := by
  obtain ⟨t, p, ht⟩ := ha.ex
  refine ⟨_, pe_not p, fun m S H ρ σ Q d S' w er h q => ?_⟩
  unfold eNot2 at h
  split at h
  · rename_i b S1 e
    cases h
    refine ht m S H ρ σ _ _ S' w er e fun v m1 H1 st1 w1 r1 => ?_
    cases r1
    exact ⟨b, rfl, q _ m1 H1 st1 w1 (.bl _)⟩
  · cases h
theorem se_if {c a b : Expr} {pos : Pos} {fc : FT} {f g : FE} (hc : ST X c fc) (ha : SE X a f) (hb : SE X b g) : SE X (.IfExp c a b pos) (eIf fc f g) := by
  obtain ⟨z, p0, hz⟩ := hc.ex
  obtain ⟨t, p, ht⟩ := ha.ex
  obtain ⟨u, p', hu⟩ := hb.ex
  refine ⟨_, pe_ifExp p0 p p', fun m S H ρ σ Q d S' w er h q => ?_⟩
  unfold eIf at h
  split at h
  · rename_i S1 e
    refine hz m S H ρ σ _ true S1 w er e fun m1 H1 st1 w1 => ?_
    show (if true = true then t σ H1 Q else u σ H1 Q)
    rw [if_pos rfl]
    exact ht m1 S1 H1 ρ σ Q d S' w1 (er.mono st1) h (q.step st1)
  · rename_i S1 e
    refine hz m S H ρ σ _ false S1 w er e fun m1 H1 st1 w1 => ?_
    show (if false = true then t σ H1 Q else u σ H1 Q)
    rw [if_neg Bool.false_ne_true]
    exact hu m1 S1 H1 ρ σ Q d S' w1 (er.mono st1) h (q.step st1)
  · cases h
/-! ### displays -/
def gTupD (xs : List D) : Mo D := fun S => some (.tup xs, S)
/-- a list that will not change -/
def gLstD (xs : List D) : Mo D := fun S => some (.lst xs, S)
/-- a list of the store -/
def gNewD (xs : List D) : Mo D := fun S => some (.ref S.length, S ++ [.lst xs])
theorem sa_len {es : List Expr} {f : FA} : SA X es f → True := fun _ => trivial
/-- how many arguments a mirror gives -/
def ALen (f : FA) (n : Nat) : Prop := ∀ ρ S ds S', f ρ S = some (ds, S') → ds.length = n
theorem al_nil : ALen aNil 0 := fun ρ S ds S' h => by cases h; rfl
theorem al_cons {f : FE} {g : FA} {n : Nat} (h : ALen g n) : ALen (aCons f g) (n + 1) := fun ρ S ds S' e => by
  obtain ⟨x, S1, xs, _, e2, rfl⟩ := inv_cons e
  exact congrArg Nat.succ (h _ _ _ _ e2)
theorem fz_new {m : Mp} {H : Hp} {S : Sto} {K : PySem.W.Frag} {p : Addr} {u : HO} (w : WR K m S H) (hp : H p = none) : Fz m (upd H p u) p u := ⟨.inl upd_same, w.notin hp⟩
theorem se_tup {es : List Expr} {x1 : Nat} {pos : Pos} {f : FA} {n : Nat} (h : SA X es f) (hl : ALen f n) (hn : n ≤ 1000) : SE X (.Tuple es x1 pos) (eArg gTupD f) := by
  obtain ⟨t, p, ht⟩ := h.ex
  refine ⟨_, pe_tup p, fun m S H ρ σ Q d S' w er h q => ?_⟩
  obtain ⟨xs, S1, e1, e2⟩ := inv_arg h
  cases e2
  refine ht m S H ρ σ _ xs S' w er e1 fun vs m1 H1 st1 w1 r1 => ⟨?_, fun a ha => ?_⟩
  · have := hl _ _ _ _ e1
    rw [← r1.length, this, sizeLine_eq]
    omega
  · exact q _ m1 _ (st1.trans (stp_new ha)) (wr_new w1 ha) (.tup (.inl (fz_new w1 ha)) (r1.mono (stp_new ha)))
theorem se_lst {es : List Expr} {pos : Pos} {f : FA} {n : Nat} (h : SA X es f) (hl : ALen f n) (hn : n ≤ 1000) : SE X (.List es pos) (eArg gLstD f) := by
  obtain ⟨t, p, ht⟩ := h.ex
  refine ⟨_, pe_lst p, fun m S H ρ σ Q d S' w er h q => ?_⟩
  obtain ⟨xs, S1, e1, e2⟩ := inv_arg h
  cases e2
  refine ht m S H ρ σ _ xs S' w er e1 fun vs m1 H1 st1 w1 r1 => ⟨?_, fun a ha => ?_⟩
  · have := hl _ _ _ _ e1
    rw [← r1.length, this, sizeLine_eq]
    omega
  · exact q _ m1 _ (st1.trans (stp_new ha)) (wr_new w1 ha) (.lst upd_same (w1.notin ha) (r1.mono (stp_new ha)))
theorem se_new {es : List Expr} {pos : Pos} {f : FA} {n : Nat} (h : SA X es f) (hl : ALen f n) (hn : n ≤ 1000) : SE X (.List es pos) (eArg gNewD f) := by
  obtain ⟨t, p, ht⟩ := h.ex
  refine ⟨_, pe_lst p, fun m S H ρ σ Q d S' w er h q => ?_⟩
  obtain ⟨xs, S1, e1, e2⟩ := inv_arg h
  cases e2
  refine ht m S H ρ σ _ xs S1 w er e1 fun vs m1 H1 st1 w1 r1 => ⟨?_, fun a ha => ?_⟩
  · have := hl _ _ _ _ e1
    rw [← r1.length, this, sizeLine_eq]
    omega
  · refine q _ (m1.push a) _ (st1.trans (stp_push ha)) (wr_push w1 ha r1) (.ref ?_)
    rw [← w1.len]
    simp [Mp.push]
/-! ### subscripts, slices, calls, methods -/
theorem se_ix {a b : Expr} {pos : Pos} {r : R2} {g : D → D → Mo D} {fa fb : FE} (ho : IxR X r) (hd : OpD X.K r g) (ha : SE X a fa) (hb : SE X b fb) (hs : PlainIx b) : SE X (.Subscript a b pos) (eBin g fa fb) := by
  obtain ⟨t, p, ht⟩ := ha.ex
  obtain ⟨u, p', hu⟩ := hb.ex
  refine ⟨_, pe_ix ho p p' hs, fun m S H ρ σ Q d S' w er h q => ?_⟩
  obtain ⟨x, S1, y, S2, e1, e2, e3⟩ := inv_bin h
  refine ht m S H ρ σ _ x S1 w er e1 fun v m1 H1 st1 w1 r1 => ?_
  refine hu m1 S1 H1 ρ σ _ y S2 w1 (er.mono st1) e2 fun v2 m2 H2 st2 w2 r2 => ?_
  exact hd m2 S2 H2 x y v v2 d S' Q w2 (r1.mono st2) r2 e3 (q.step (st1.trans st2))
/-- an end of a slice -/
abbrev FO := Rho → Mo (Option Int)
structure SO (X : Cx) (e : Option Expr) (f : FO) : Prop where
  ex : ∃ t, PO X e t ∧ ∀ (m : Mp) (S : Sto) (H : Hp) (ρ : Rho) (σ : L2.St) (Q : Option Int → Hp → Prop) (o : Option Int) (S' : Sto), WR X.K m S H → ER X.K m H ρ σ → f ρ S = some (o, S') → (∀ m' H', Stp m H m' H' → WR X.K m' S' H' → Q o H') → t σ H Q
def oNone : FO := fun _ S => some (none, S)
def oSome (f : FE) : FO := fun ρ S => match f ρ S with
  | some (.int i, S1) => some (some i, S1)
  | _ => none
theorem so_none : SO X none oNone := ⟨_, po_none, fun m S H ρ σ Q o S' w er h q => by
  cases h
  exact q m H .refl w⟩
theorem so_some {e : Expr} {f : FE} (h : SE X e f) : SO X (some e) (oSome f) := by
  obtain ⟨t, p, ht⟩ := h.ex
  refine ⟨_, po_some p, fun m S H ρ σ Q o S' w er h q => ?_⟩
  unfold oSome at h
  split at h
  · rename_i i S1 e
    cases h
    refine ht m S H ρ σ _ _ S' w er e fun v m1 H1 st1 w1 r1 => ?_
    cases r1
    exact ⟨i, rfl, q m1 H1 st1 w1⟩
  · cases h
def eSl (g : D → Option Int → Option Int → Mo D) (f : FE) (l u : FO) : FE := fun ρ S => match f ρ S with
  | some (x, S1) => (match l ρ S1 with
    | some (a, S2) => (match u ρ S2 with
      | some (b, S3) => g x a b S3
      | none => none)
    | none => none)
  | none => none
def SlD (K : PySem.W.Frag) (r : V → Option Int → Option Int → Hp → VK → Prop) (g : D → Option Int → Option Int → Mo D) : Prop :=
  ∀ (m : Mp) (S : Sto) (H : Hp) (x : D) (v : V) (lo hi : Option Int) (d : D) (S' : Sto) (Q : VK), WR K m S H → DR K m H x v → g x lo hi S = some (d, S') → PV K m H d S' Q → r v lo hi H Q
theorem se_slice {e : Expr} {lo hi : Option Expr} {p2 pos : Pos} {r : V → Option Int → Option Int → Hp → VK → Prop} {g : D → Option Int → Option Int → Mo D} {f : FE} {l u : FO} (hr : SlR X r) (hd : SlD X.K r g) (he : SE X e f) (hl : SO X lo l) (hu : SO X hi u) :
    SE X (.Subscript e (.Slice lo hi none p2) pos) (eSl g f l u) := by
  obtain ⟨t, p, ht⟩ := he.ex
  obtain ⟨tl, pl, hl⟩ := hl.ex
  obtain ⟨tu, pu, hu⟩ := hu.ex
  refine ⟨_, pe_slice hr p pl pu, fun m S H ρ σ Q d S' w er h q => ?_⟩
  unfold eSl at h
  split at h
  · rename_i x S1 e1
    split at h
    · rename_i a S2 e2
      split at h
      · rename_i b S3 e3
        refine ht m S H ρ σ _ x S1 w er e1 fun v m1 H1 st1 w1 r1 => ?_
        refine hl m1 S1 H1 ρ σ _ a S2 w1 (er.mono st1) e2 fun m2 H2 st2 w2 => ?_
        refine hu m2 S2 H2 ρ σ _ b S3 w2 (er.mono (st1.trans st2)) e3 fun m3 H3 st3 w3 => ?_
        exact hd m3 S3 H3 x v a b d S' Q w3 (r1.mono (st2.trans st3)) h (q.step (st1.trans (st2.trans st3)))
      · cases h
    · cases h
  · cases h
/-- a call of a built-in function, of a built-in class -/
theorem se_callB {x : Str} {e : Expr} {es : List Expr} {p pos : Pos} {id : String} {r : List V → Hp → VK → Prop} {g : List D → Mo D} {f : FA} (hc : CallR X (.builtin id) r) (hd : ArD X.K r g) (hm : X.mg x = none) (hv : bootBuiltins x = some (.builtin id)) (ha : SA X (e :: es) f) (hg : Gl X x)
    (hn : x ≠ "__name__" := by decide) (hdb : (x == ("__debug__" : Str)) = false := by decide) (he : starEach (e :: es) X.env = (false, eval e X.env) :: starEach es X.env := by rfl) (hpl : (backTo pos (starEach es X.env)).any (·.1) = false := by rfl) : SE X (.Call (.Name x p) (e :: es) [] pos) (eArg g f) := by
  obtain ⟨t, p, ht⟩ := ha.ex
  refine ⟨_, pe_callB hc hg hm hv p hn hdb he hpl, fun m S H ρ σ Q d S' w er h q => ?_⟩
  obtain ⟨xs, S1, e1, e2⟩ := inv_arg h
  exact ht m S H ρ σ _ xs S1 w er e1 fun vs m1 H1 st1 w1 r1 => hd m1 S1 H1 xs vs d S' Q w1 r1 e2 (q.step st1)
theorem se_callTy {x : Str} {e : Expr} {es : List Expr} {p pos : Pos} {T : String} {r : List V → Hp → VK → Prop} {g : List D → Mo D} {f : FA} (hc : CallR X (.type T) r) (hd : ArD X.K r g) (hm : X.mg x = none) (hv : bootBuiltins x = some (.type T)) (ha : SA X (e :: es) f) (hg : Gl X x)
    (hn : x ≠ "__name__" := by decide) (hdb : (x == ("__debug__" : Str)) = false := by decide) (he : starEach (e :: es) X.env = (false, eval e X.env) :: starEach es X.env := by rfl) (hpl : (backTo pos (starEach es X.env)).any (·.1) = false := by rfl) : SE X (.Call (.Name x p) (e :: es) [] pos) (eArg g f) := by
  obtain ⟨t, p, ht⟩ := ha.ex
  refine ⟨_, pe_callTy hc hg hm hv p hn hdb he hpl, fun m S H ρ σ Q d S' w er h q => ?_⟩
  obtain ⟨xs, S1, e1, e2⟩ := inv_arg h
  exact ht m S H ρ σ _ xs S1 w er e1 fun vs m1 H1 st1 w1 r1 => hd m1 S1 H1 xs vs d S' Q w1 r1 e2 (q.step st1)
end
end Nw
namespace Nw
open PySem PySem.Spec PyProof.Rows L2
/-! ### statements -/
inductive Fl where
  | nx | ct | bk
  | rt (d : D)
abbrev Fo := Fl × Rho × Sto
abbrev FS := Rho → Sto → Option Fo
abbrev FG := D → Rho → Sto → Option (Rho × Sto)
/-- what follows a statement -/
def PR (K : PySem.W.Frag) (m : Mp) (H : Hp) (r : Fo) (E : Ends) : Prop :=
  match r with
  | (.nx, ρ', S') => ∀ σ' m' H', Stp m H m' H' → WR K m' S' H' → ER K m' H' ρ' σ' → E.nx σ' H'
  | (.ct, ρ', S') => ∀ σ' m' H', Stp m H m' H' → WR K m' S' H' → ER K m' H' ρ' σ' → E.ct σ' H'
  | (.bk, ρ', S') => ∀ σ' m' H', Stp m H m' H' → WR K m' S' H' → ER K m' H' ρ' σ' → E.bk σ' H'
  | (.rt d, _, S') => PV K m H d S' E.rt
theorem PR.step {K : PySem.W.Frag} {m m1 : Mp} {H H1 : Hp} {r : Fo} {E : Ends} (st : Stp m H m1 H1) (h : PR K m H r E) : PR K m1 H1 r E := by
  obtain ⟨f, ρ', S'⟩ := r
  cases f with
  | nx => exact fun σ' m' H' s w e => h σ' m' H' (st.trans s) w e
  | ct => exact fun σ' m' H' s w e => h σ' m' H' (st.trans s) w e
  | bk => exact fun σ' m' H' s w e => h σ' m' H' (st.trans s) w e
  | rt d => exact PV.step st h
structure SS (X : Cx) (s : Stmt) (f : FS) : Prop where
  ex : ∃ t, PS X s t ∧ ∀ (m : Mp) (S : Sto) (H : Hp) (ρ : Rho) (σ : L2.St) (E : Ends) (r : Fo), WR X.K m S H → ER X.K m H ρ σ → f ρ S = some r → PR X.K m H r E → t E σ H
structure SSs (X : Cx) (s : List Stmt) (f : FS) : Prop where
  ex : ∃ t, PSs X s t ∧ ∀ (m : Mp) (S : Sto) (H : Hp) (ρ : Rho) (σ : L2.St) (E : Ends) (r : Fo), WR X.K m S H → ER X.K m H ρ σ → f ρ S = some r → PR X.K m H r E → t E σ H
structure SG (X : Cx) (tg : Expr) (g : FG) : Prop where
  ex : ∃ t, PG X tg t ∧ ∀ (m : Mp) (S : Sto) (H : Hp) (ρ : Rho) (σ : L2.St) (v : V) (d : D) (Q : L2.St → Hp → Prop) (ρ' : Rho) (S' : Sto), WR X.K m S H → ER X.K m H ρ σ → DR X.K m H d v → g d ρ S = some (ρ', S') →
    (∀ σ' m' H', Stp m H m' H' → WR X.K m' S' H' → ER X.K m' H' ρ' σ' → Q σ' H') → t v σ H Q
/-- a target of names alone, whose slots are among vs -/
structure SN (X : Cx) (tg : Expr) (vs : List Nat) (g : FG) : Prop where
  ex : ∃ t, PG X tg t ∧ ∀ (m : Mp) (S : Sto) (H : Hp) (ρ : Rho) (σ : L2.St) (v : V) (d : D) (Q : L2.St → Hp → Prop) (ρ' : Rho) (S' : Sto), WR X.K m S H → ER X.K m H ρ σ → DR X.K m H d v → g d ρ S = some (ρ', S') →
    (∀ σ', ER X.K m H ρ' σ' → wipe σ' vs = wipe σ vs → S' = S → Q σ' H) → t v σ H Q
/-- several targets -/
abbrev FGs := List D → Rho → Sto → Option (Rho × Sto)
structure SGs (X : Cx) (tg : List Expr) (g : FGs) : Prop where
  ex : ∃ t, PGs X tg t ∧ ∀ (m : Mp) (S : Sto) (H : Hp) (ρ : Rho) (σ : L2.St) (v : List V) (d : List D) (Q : L2.St → Hp → Prop) (ρ' : Rho) (S' : Sto), WR X.K m S H → ER X.K m H ρ σ → DRs X.K m H d v → g d ρ S = some (ρ', S') →
    (∀ σ' m' H', Stp m H m' H' → WR X.K m' S' H' → ER X.K m' H' ρ' σ' → Q σ' H') → t v σ H Q
structure SNs (X : Cx) (tg : List Expr) (vs : List Nat) (g : FGs) : Prop where
  ex : ∃ t, PGs X tg t ∧ ∀ (m : Mp) (S : Sto) (H : Hp) (ρ : Rho) (σ : L2.St) (v : List V) (d : List D) (Q : L2.St → Hp → Prop) (ρ' : Rho) (S' : Sto), WR X.K m S H → ER X.K m H ρ σ → DRs X.K m H d v → g d ρ S = some (ρ', S') →
    (∀ σ', ER X.K m H ρ' σ' → wipe σ' vs = wipe σ vs → S' = S → Q σ' H) → t v σ H Q
theorem SN.sg {X : Cx} {tg : Expr} {vs : List Nat} {g : FG} (h : SN X tg vs g) : SG X tg g := by
  obtain ⟨t, p, ht⟩ := h.ex
  refine ⟨t, p, fun m S H ρ σ v d Q ρ' S' w er r e q => ht m S H ρ σ v d Q ρ' S' w er r e fun σ' er' _ hS => ?_⟩
  rw [hS] at q
  exact q σ' m H .refl w er'
def sNil : FS := fun ρ S => some (.nx, ρ, S)
def sSeq (f g : FS) : FS := fun ρ S => match f ρ S with
  | some (.nx, ρ1, S1) => g ρ1 S1
  | some r => some r
  | none => none
def sRet (f : FE) : FS := fun ρ S => match f ρ S with
  | some (d, S1) => some (.rt d, ρ, S1)
  | none => none
def sRetN : FS := fun ρ S => some (.rt .non, ρ, S)
def sExpr (f : FE) : FS := fun ρ S => match f ρ S with
  | some (_, S1) => some (.nx, ρ, S1)
  | none => none
def sIf (c : FT) (f g : FS) : FS := fun ρ S => match c ρ S with
  | some (true, S1) => f ρ S1
  | some (false, S1) => g ρ S1
  | none => none
def sCont : FS := fun ρ S => some (.ct, ρ, S)
def sBreak : FS := fun ρ S => some (.bk, ρ, S)
def sStuck : FS := fun _ _ => none
def sAsg (f : FE) (g : FG) : FS := fun ρ S => match f ρ S with
  | some (d, S1) => (match g d ρ S1 with
    | some (ρ2, S2) => some (.nx, ρ2, S2)
    | none => none)
  | none => none
def gNm (i : Nat) : FG := fun d ρ S => some (ρ.set i (some d), S)
def gsNil : FGs := fun ds ρ S => match ds with
  | [] => some (ρ, S)
  | _ => none
def gsCons (g : FG) (gs : FGs) : FGs := fun ds ρ S => match ds with
  | d :: ds => (match g d ρ S with
    | some (ρ1, S1) => gs ds ρ1 S1
    | none => none)
  | _ => none
def gTp (n : Nat) (gs : FGs) : FG := fun d ρ S => match d with
  | .tup ds => if ds.length = n then gs ds ρ S else none
  | _ => none
/-- a, b = x, y of plain names: both values, then both stores -/
def sPar (i j : Nat) (f : FA) : FS := fun ρ S => match f ρ S with
  | some ([x, y], S1) => some (.nx, (ρ.set i (some x)).set j (some y), S1)
  | _ => none
/-! ### slots forgotten -/
def wipeR (ρ : Rho) : List Nat → Rho
  | [] => ρ
  | v :: vs => (wipeR ρ vs).set v none
theorem wipeR_length (ρ : Rho) : ∀ vs : List Nat, (wipeR ρ vs).length = ρ.length
  | [] => rfl
  | v :: vs => by unfold wipeR; rw [List.length_set, wipeR_length ρ vs]
theorem wipeR_some {ρ : Rho} {i : Nat} {x : D} : ∀ {vs : List Nat}, (wipeR ρ vs)[i]? = some (some x) → ρ[i]? = some (some x) ∧ i ∉ vs
  | [], h => ⟨h, by simp⟩
  | v :: vs, h => by
    unfold wipeR at h
    by_cases hi : v = i
    · subst hi
      by_cases hv : v < (wipeR ρ vs).length
      · rw [List.getElem?_set_self hv] at h; cases h
      · rw [List.getElem?_eq_none (by simpa using hv)] at h; cases h
    · rw [List.getElem?_set_ne hi] at h
      obtain ⟨h1, h2⟩ := wipeR_some h
      exact ⟨h1, by simp only [List.mem_cons, not_or]; exact ⟨fun e => hi e.symm, h2⟩⟩
theorem wipe_get {σ : L2.St} {i : Nat} : ∀ {vs : List Nat}, i ∉ vs → (wipe σ vs)[i]? = σ[i]?
  | [], _ => rfl
  | v :: vs, h => by
    simp only [List.mem_cons, not_or] at h
    unfold wipe
    rw [List.getElem?_set_ne (fun e => h.1 e.symm), wipe_get h.2]
theorem wipe_at {σ : L2.St} {i : Nat} : ∀ {vs : List Nat}, i ∈ vs → i < σ.length → (wipe σ vs)[i]? = some none
  | v :: vs, h, hl => by
    unfold wipe
    by_cases hi : v = i
    · subst hi
      exact List.getElem?_set_self (by rw [wipe_length]; exact hl)
    · rw [List.getElem?_set_ne hi]
      rcases List.mem_cons.mp h with h | h
      · exact absurd h.symm hi
      · exact wipe_at h hl
theorem wipe_set {σ : L2.St} {i : Nat} {x : Option V} {vs : List Nat} (h : i ∈ vs) : wipe (σ.set i x) vs = wipe σ vs := by
  refine List.ext_getElem? fun j => ?_
  by_cases hj : j ∈ vs
  · by_cases hl : j < σ.length
    · rw [wipe_at hj (by rw [List.length_set]; exact hl), wipe_at hj hl]
    · rw [List.getElem?_eq_none (by rw [wipe_length, List.length_set]; omega), List.getElem?_eq_none (by rw [wipe_length]; omega)]
  · rw [wipe_get hj, wipe_get hj, List.getElem?_set_ne]
    rintro rfl
    exact hj h
theorem wipe_wipe {σ : L2.St} {vs : List Nat} : wipe (wipe σ vs) vs = wipe σ vs := by
  refine List.ext_getElem? fun j => ?_
  by_cases hj : j ∈ vs
  · by_cases hl : j < σ.length
    · rw [wipe_at hj (by rw [wipe_length]; exact hl), wipe_at hj hl]
    · rw [List.getElem?_eq_none (by rw [wipe_length, wipe_length]; omega), List.getElem?_eq_none (by rw [wipe_length]; omega)]
  · rw [wipe_get hj]
theorem ER.wipe {K : PySem.W.Frag} {m : Mp} {H : Hp} {ρ : Rho} {σ : L2.St} (h : ER K m H ρ σ) (vs : List Nat) : ER K m H (wipeR ρ vs) (L2.wipe σ vs) := by
  refine ⟨by rw [wipeR_length, wipe_length]; exact h.1, fun i d e => ?_⟩
  obtain ⟨e1, e2⟩ := wipeR_some e
  obtain ⟨v, a, b⟩ := h.2 i d e1
  exact ⟨v, by rw [wipe_get e2]; exact a, b⟩
section
variable {X : Cx}
/-! ### small statements -/
theorem sss_nil : SSs X [] sNil := ⟨_, pss_nil, fun m S H ρ σ E r w er h q => by
  cases h
  exact q σ m H .refl w er⟩
theorem sss_cons {s : Stmt} {rest : List Stmt} {f g : FS} (h1 : SS X s f) (h2 : SSs X rest g) : SSs X (s :: rest) (sSeq f g) := by
  obtain ⟨t, p, ht⟩ := h1.ex
  obtain ⟨u, p', hu⟩ := h2.ex
  refine ⟨_, pss_cons p p', fun m S H ρ σ E r w er h q => ?_⟩
  unfold sSeq at h
  split at h
  · rename_i ρ1 S1 e
    refine ht m S H ρ σ _ _ w er e ?_
    intro σ' m' H' st' w' er'
    exact hu m' S1 H' ρ1 σ' E r w' er' h (q.step st')
  · rename_i r' hne e
    cases h
    refine ht m S H ρ σ _ _ w er e ?_
    obtain ⟨fl, ρ', S'⟩ := r
    cases fl with
    | nx => exact (hne ρ' S' rfl).elim
    | ct => exact q
    | bk => exact q
    | rt d => exact q
  · cases h
theorem sss_one {s : Stmt} {f : FS} (h1 : SS X s f) : SSs X [s] f := let ⟨t, p, ht⟩ := h1.ex; ⟨t, pss_one p, ht⟩
theorem ss_ret {e : Expr} {pos : Pos} {f : FE} (h : SE X e f) : SS X (.Return (some e) pos) (sRet f) := by
  obtain ⟨t, p, ht⟩ := h.ex
  refine ⟨_, ps_ret p, fun m S H ρ σ E r w er h q => ?_⟩
  unfold sRet at h
  split at h
  · rename_i d S1 e
    cases h
    exact ht m S H ρ σ _ d S1 w er e q
  · cases h
theorem ss_retN {pos : Pos} : SS X (.Return none pos) sRetN := ⟨_, ps_retN, fun m S H ρ σ E r w er h q => by
  cases h
  exact q .non m H .refl w .non⟩
theorem ss_pass {pos : Pos} : SS X (.Pass pos) sNil := ⟨_, ps_pass, fun m S H ρ σ E r w er h q => by
  cases h
  exact q σ m H .refl w er⟩
theorem ss_cont {pos : Pos} : SS X (.Continue pos) sCont := ⟨_, ps_continue, fun m S H ρ σ E r w er h q => by
  cases h
  exact q σ m H .refl w er⟩
theorem ss_break {pos : Pos} : SS X (.Break pos) sBreak := ⟨_, ps_break, fun m S H ρ σ E r w er h q => by
  cases h
  exact q σ m H .refl w er⟩
theorem ss_stuck {s : Stmt} : SS X s sStuck := ⟨_, ps_never, fun m S H ρ σ E r w er h q => by cases h⟩
theorem sss_stuck {s : List Stmt} : SSs X s sStuck := ⟨_, pss_never, fun m S H ρ σ E r w er h q => by cases h⟩
theorem ss_expr {e : Expr} {pos : Pos} {f : FE} (h : SE X e f) (hs : swapsWith e none pos.line X.env = pure false := by rfl) : SS X (.Expr e pos) (sExpr f) := by
  obtain ⟨t, p, ht⟩ := h.ex
  refine ⟨_, ps_expr p hs, fun m S H ρ σ E r w er h q => ?_⟩
  unfold sExpr at h
  split at h
  · rename_i d S1 e
    cases h
    exact ht m S H ρ σ _ d S1 w er e fun v m' H' st w' _ => q σ m' H' st w' (er.mono st)
  · cases h
theorem ss_if {c : Expr} {a b : List Stmt} {pos : Pos} {fc : FT} {f g : FS} (hc : ST X c fc) (ha : SSs X a f) (hb : SSs X b g) : SS X (.If c a b pos) (sIf fc f g) := by
  obtain ⟨z, p0, hz⟩ := hc.ex
  obtain ⟨t, p, ht⟩ := ha.ex
  obtain ⟨u, p', hu⟩ := hb.ex
  refine ⟨_, ps_if p0 p p', fun m S H ρ σ E r w er h q => ?_⟩
  unfold sIf at h
  split at h
  · rename_i S1 e
    refine hz m S H ρ σ _ true S1 w er e fun m1 H1 st1 w1 => ?_
    show (if true = true then t E σ H1 else u E σ H1)
    rw [if_pos rfl]
    exact ht m1 S1 H1 ρ σ E r w1 (er.mono st1) h (q.step st1)
  · rename_i S1 e
    refine hz m S H ρ σ _ false S1 w er e fun m1 H1 st1 w1 => ?_
    show (if false = true then t E σ H1 else u E σ H1)
    rw [if_neg Bool.false_ne_true]
    exact hu m1 S1 H1 ρ σ E r w1 (er.mono st1) h (q.step st1)
  · cases h
/-! ### targets -/
theorem sn_name {i : Nat} {x : Str} {pos : Pos} {vs : List Nat} (hi : i ∈ vs) (hN : X.N.Nodup) (hx : X.N[i]? = some x) (hl : Loc X.env.scope x) (hf : X.fn x = true ∨ X.env.scope.names.lookup x = some .local) : SN X (.Name x pos) vs (gNm i) := by
  refine ⟨_, pg_name hN hx hl hf, fun m S H ρ σ v d Q ρ' S' w er r e q => ?_⟩
  cases e
  exact q _ (er.set r i) (wipe_set hi) rfl
theorem sg_name {i : Nat} {x : Str} {pos : Pos} (hN : X.N.Nodup) (hx : X.N[i]? = some x) (hl : Loc X.env.scope x) (hf : X.fn x = true ∨ X.env.scope.names.lookup x = some .local) : SG X (.Name x pos) (gNm i) := (sn_name (vs := [i]) (by simp) hN hx hl hf).sg
theorem sns_nil {vs : List Nat} : SNs X [] vs gsNil := by
  refine ⟨_, pgs_nil, fun m S H ρ σ v d Q ρ' S' w er r e q => ?_⟩
  cases r with
  | nil =>
    cases e
    exact ⟨rfl, q σ er rfl rfl⟩
  | cons _ _ => cases e
theorem sns_cons {e : Expr} {es : List Expr} {vs : List Nat} {g : FG} {gs : FGs} (h1 : SN X e vs g) (h2 : SNs X es vs gs) (hs : (assignEach (e :: es) X.env).map (·.2) = assign e X.env :: (assignEach es X.env).map (·.2) := by rfl) : SNs X (e :: es) vs (gsCons g gs) := by
  obtain ⟨t, p, ht⟩ := h1.ex
  obtain ⟨u, p', hu⟩ := h2.ex
  refine ⟨_, pgs_cons p p' hs, fun m S H ρ σ v d Q ρ' S' w er r e q => ?_⟩
  cases r with
  | nil => cases e
  | cons r rs =>
    unfold gsCons at e
    simp only at e
    split at e
    · rename_i ρ1 S1 e1
      refine ⟨_, _, rfl, ht m S H ρ σ _ _ _ ρ1 S1 w er r e1 fun σ1 er1 hw1 hS1 => ?_⟩
      subst hS1
      exact hu m S1 H ρ1 σ1 _ _ Q ρ' S' w er1 rs e fun σ2 er2 hw2 hS2 => q σ2 er2 (hw2.trans hw1) hS2
    · cases e
theorem sgs_nil : SGs X [] gsNil := by
  refine ⟨_, pgs_nil, fun m S H ρ σ v d Q ρ' S' w er r e q => ?_⟩
  cases r with
  | nil =>
    cases e
    exact ⟨rfl, q σ m H .refl w er⟩
  | cons _ _ => cases e
theorem sgs_cons {e : Expr} {es : List Expr} {g : FG} {gs : FGs} (h1 : SG X e g) (h2 : SGs X es gs) (hs : (assignEach (e :: es) X.env).map (·.2) = assign e X.env :: (assignEach es X.env).map (·.2) := by rfl) : SGs X (e :: es) (gsCons g gs) := by
  obtain ⟨t, p, ht⟩ := h1.ex
  obtain ⟨u, p', hu⟩ := h2.ex
  refine ⟨_, pgs_cons p p' hs, fun m S H ρ σ v d Q ρ' S' w er r e q => ?_⟩
  cases r with
  | nil => cases e
  | cons r rs =>
    unfold gsCons at e
    simp only at e
    split at e
    · rename_i ρ1 S1 e1
      refine ⟨_, _, rfl, ht m S H ρ σ _ _ _ ρ1 S1 w er r e1 fun σ1 m1 H1 st1 w1 er1 => ?_⟩
      exact hu m1 S1 H1 ρ1 σ1 _ _ Q ρ' S' w1 er1 (rs.mono st1) e fun σ2 m2 H2 st2 w2 er2 => q σ2 m2 H2 (st1.trans st2) w2 er2
    · cases e
theorem sn_tup {es : List Expr} {k : Nat} {pos : Pos} {vs : List Nat} {gs : FGs} {n : Nat} (hc : X.calm = true) (h : SNs X es vs gs) (hn : (assignEach es X.env).length = n := by rfl) (hst : (assignEach es X.env).findIdx? (·.1) = none := by rfl) : SN X (.Tuple es k pos) vs (gTp n gs) := by
  obtain ⟨t, p, ht⟩ := h.ex
  refine ⟨_, pg_tup hc p hn hst, fun m S H ρ σ v d Q ρ' S' w er r e q => ?_⟩
  cases r with
  | tup hq hs =>
    unfold gTp at e
    simp only at e
    split at e
    · rename_i hl
      exact ⟨_, _, rfl, sqt_of hq, by rw [← hs.length]; exact hl, ht m S H ρ σ _ _ Q ρ' S' w er hs e q⟩
    · cases e
  | _ => cases e
theorem sg_tup {es : List Expr} {k : Nat} {pos : Pos} {gs : FGs} {n : Nat} (hc : X.calm = true) (h : SGs X es gs) (hn : (assignEach es X.env).length = n := by rfl) (hst : (assignEach es X.env).findIdx? (·.1) = none := by rfl) : SG X (.Tuple es k pos) (gTp n gs) := by
  obtain ⟨t, p, ht⟩ := h.ex
  refine ⟨_, pg_tup hc p hn hst, fun m S H ρ σ v d Q ρ' S' w er r e q => ?_⟩
  cases r with
  | tup hq hs =>
    unfold gTp at e
    simp only at e
    split at e
    · rename_i hl
      exact ⟨_, _, rfl, sqt_of hq, by rw [← hs.length]; exact hl, ht m S H ρ σ _ _ Q ρ' S' w er hs e q⟩
    · cases e
  | _ => cases e
/-- o[i] = v: a place of a list of the store -/
def ixD (n : Nat) (i : Int) : Option Nat := ixN n i
def gSb (fo fi : FE) : FG := fun d ρ S => match fo ρ S with
  | some (.ref n, S1) => (match fi ρ S1 with
    | some (.int i, S2) => (match S2[n]? with
      | some (.lst l) => (match ixD l.length i with
        | some j => some (ρ, S2.set n (.lst (l.set j d)))
        | none => none)
      | none => none)
    | _ => none)
  | _ => none
theorem sg_sub {o i : Expr} {pos : Pos} {fo fi : FE} (ho : SE X o fo) (hi : SE X i fi) (ha : ∀ v, assign (.Subscript o i pos) X.env v = (do
      let ov ← holding [v] (eval o X.env)
      let iv ← holding [v, ov] (eval i X.env)
      standAt pos
      holding [v, ov, iv] (setItem ov iv v)
      release [v, ov, iv] []) := by intro _; rfl) : SG X (.Subscript o i pos) (gSb fo fi) := by
  obtain ⟨t, p, ht⟩ := ho.ex
  obtain ⟨u, p', hu⟩ := hi.ex
  refine ⟨_, pg_sub p p' set_list ha, fun m S H ρ σ v d Q ρ' S' w er r e q => ?_⟩
  unfold gSb at e
  split at e
  · rename_i n S1 e1
    split at e
    · rename_i i S2 e2
      split at e
      · rename_i l hn
        split at e
        · rename_i j hj
          cases e
          refine ht m S H ρ σ _ _ S1 w er e1 fun v1 m1 H1 st1 w1 r1 => ?_
          refine hu m1 S1 H1 ρ σ _ _ S2 w1 (er.mono st1) e2 fun v2 m2 H2 st2 w2 r2 => ?_
          cases r2
          have r1' := r1.mono st2
          cases r1' with
          | ref hm =>
            obtain ⟨xs, hx, hds⟩ := w2.at hm hn
            have st3 : Stp m2 H2 m2 (upd H2 _ (.lst (xs.set j v))) := stp_write hm
            refine ⟨_, xs, i, j, rfl, rfl, hx, ?_, ?_⟩
            · rw [← hds.length]; exact hj
            · refine q σ m2 _ ((st1.trans st2).trans st3) (wr_write w2 hm (hds.set (r.mono (st1.trans st2)) j)) (er.mono ((st1.trans st2).trans st3))
        · cases e
      · cases e
    · cases e
  · cases e
/-! ### assignments -/
theorem ss_set {i : Nat} {x : Str} {e : Expr} {pos pos' : Pos} {f : FE} (hN : X.N.Nodup) (hx : X.N[i]? = some x) (hl : Loc X.env.scope x) (he : SE X e f) (hf : X.fn x = true ∨ X.env.scope.names.lookup x = some .local) (hs : swapsWith e (some (.Name x pos')) pos.line X.env = pure false := by rfl) : SS X (.Assign [.Name x pos'] e pos) (sAsg f (gNm i)) := by
  obtain ⟨t, p, ht⟩ := he.ex
  refine ⟨_, ps_set hN hx hl p hs hf, fun m S H ρ σ E r w er h q => ?_⟩
  unfold sAsg at h
  split at h
  · rename_i d S1 e1
    unfold gNm at h
    cases h
    exact ht m S H ρ σ _ d S1 w er e1 fun v m' H' st w' r => q _ m' H' st w' ((er.mono st).set r i)
  · cases h
theorem ss_asg {tg e : Expr} {pos : Pos} {f : FE} {g : FG} (he : SE X e f) (hg : SG X tg g) (hs : swapsWithSole [tg] e pos.line X.env = pure false := by rfl) (hw : swappedStores [tg] e X.env = pure none := by rfl)
    (h1 : (assignEach [tg] X.env).map (·.2) = [assign tg X.env] := by rfl) : SS X (.Assign [tg] e pos) (sAsg f g) := by
  obtain ⟨t, p, ht⟩ := he.ex
  obtain ⟨u, p', hu⟩ := hg.ex
  refine ⟨_, ps_asg p p' hs hw h1, fun m S H ρ σ E r w er h q => ?_⟩
  unfold sAsg at h
  split at h
  · rename_i d S1 e1
    split at h
    · rename_i ρ2 S2 e2
      cases h
      refine ht m S H ρ σ _ d S1 w er e1 fun v m1 H1 st1 w1 r1 => ?_
      exact hu m1 S1 H1 ρ σ v d _ ρ2 S2 w1 (er.mono st1) r1 e2 fun σ' m' H' st w' er' => q σ' m' H' (st1.trans st) w' er'
    · cases h
  · cases h
theorem ss_par {i j : Nat} {x y : Str} {a b : Expr} {f : FA} {px py pt : Pos} {kt k2 : Nat} {pt2 pos : Pos} (hc : X.calm = true) (hN : X.N.Nodup) (hi : X.N[i]? = some x) (hj : X.N[j]? = some y) (hij : i ≠ j)
    (hx : X.env.scope.names.lookup x = some .local) (hy : X.env.scope.names.lookup y = some .local) (ha : SA X [a, b] f)
    (hw : swappedStores [.Tuple [.Name x px, .Name y py] kt pt] (.Tuple [a, b] k2 pt2) X.env = pure (some [x, y]))
    (hs : swapsWithSole [.Tuple [.Name x px, .Name y py] kt pt] (.Tuple [a, b] k2 pt2) pos.line X.env = pure false := by rfl) :
    SS X (.Assign [.Tuple [.Name x px, .Name y py] kt pt] (.Tuple [a, b] k2 pt2) pos) (sPar i j f) := by
  obtain ⟨t, p, ht⟩ := ha.ex
  refine ⟨_, ps_par hc hN hi hj hij hx hy p hw hs, fun m S H ρ σ E r w er h q => ?_⟩
  unfold sPar at h
  split at h
  · rename_i u v S1 e1
    cases h
    refine ht m S H ρ σ _ _ S1 w er e1 fun vs m1 H1 st1 w1 r1 => ?_
    cases r1 with
    | cons ra rb =>
      cases rb with
      | cons rb rc =>
        cases rc
        exact ⟨_, _, rfl, q _ m1 H1 st1 w1 (((er.mono st1).set ra i).set rb j)⟩
  · cases h
/-! ### while -/
inductive WhTo (c : FT) (b : FS) : Nat → Rho → Sto → Fo → Prop
  | stop {ρ : Rho} {S S1 : Sto} {n : Nat} : c ρ S = some (false, S1) → WhTo c b n ρ S (.nx, ρ, S1)
  | next {ρ ρ2 : Rho} {S S1 S2 : Sto} {r : Fo} {n : Nat} : c ρ S = some (true, S1) → b ρ S1 = some (.nx, ρ2, S2) → WhTo c b n ρ2 S2 r → WhTo c b (n + 1) ρ S r
  | cont {ρ ρ2 : Rho} {S S1 S2 : Sto} {r : Fo} {n : Nat} : c ρ S = some (true, S1) → b ρ S1 = some (.ct, ρ2, S2) → WhTo c b n ρ2 S2 r → WhTo c b (n + 1) ρ S r
  | brk {ρ ρ2 : Rho} {S S1 S2 : Sto} {n : Nat} : c ρ S = some (true, S1) → b ρ S1 = some (.bk, ρ2, S2) → WhTo c b n ρ S (.nx, ρ2, S2)
  | ret {ρ ρ2 : Rho} {S S1 S2 : Sto} {d : D} {n : Nat} : c ρ S = some (true, S1) → b ρ S1 = some (.rt d, ρ2, S2) → WhTo c b n ρ S (.rt d, ρ2, S2)
theorem WhTo.det {c : FT} {b : FS} {n : Nat} {ρ : Rho} {S : Sto} {r : Fo} (h : WhTo c b n ρ S r) : ∀ {k : Nat} {r' : Fo}, WhTo c b k ρ S r' → r = r' := by
  induction h with
  | stop e =>
    intro k r' h'
    cases h' <;> rename_i e1 <;> simp_all
  | next e1 e2 _ ih =>
    intro k r' h'
    cases h' with
    | stop e3 => simp_all
    | next e3 e4 h4 => rw [e1] at e3; cases e3; rw [e2] at e4; cases e4; exact ih h4
    | cont e3 e4 h4 => rw [e1] at e3; cases e3; rw [e2] at e4; cases e4
    | brk e3 e4 => rw [e1] at e3; cases e3; rw [e2] at e4; cases e4
    | ret e3 e4 => rw [e1] at e3; cases e3; rw [e2] at e4; cases e4
  | cont e1 e2 _ ih =>
    intro k r' h'
    cases h' with
    | stop e3 => simp_all
    | next e3 e4 h4 => rw [e1] at e3; cases e3; rw [e2] at e4; cases e4
    | cont e3 e4 h4 => rw [e1] at e3; cases e3; rw [e2] at e4; cases e4; exact ih h4
    | brk e3 e4 => rw [e1] at e3; cases e3; rw [e2] at e4; cases e4
    | ret e3 e4 => rw [e1] at e3; cases e3; rw [e2] at e4; cases e4
  | brk e1 e2 =>
    intro k r' h'
    cases h' with
    | stop e3 => simp_all
    | next e3 e4 h4 => rw [e1] at e3; cases e3; rw [e2] at e4; cases e4
    | cont e3 e4 h4 => rw [e1] at e3; cases e3; rw [e2] at e4; cases e4
    | brk e3 e4 => rw [e1] at e3; cases e3; rw [e2] at e4; cases e4; rfl
    | ret e3 e4 => rw [e1] at e3; cases e3; rw [e2] at e4; cases e4
  | ret e1 e2 =>
    intro k r' h'
    cases h' with
    | stop e3 => simp_all
    | next e3 e4 h4 => rw [e1] at e3; cases e3; rw [e2] at e4; cases e4
    | cont e3 e4 h4 => rw [e1] at e3; cases e3; rw [e2] at e4; cases e4
    | brk e3 e4 => rw [e1] at e3; cases e3; rw [e2] at e4; cases e4
    | ret e3 e4 => rw [e1] at e3; cases e3; rw [e2] at e4; cases e4; rfl
open Classical in
noncomputable def sWhile (c : FT) (b : FS) : FS := fun ρ S => if h : ∃ r n, WhTo c b n ρ S r then some h.choose else none
theorem while_of {c : FT} {b : FS} {n : Nat} {ρ : Rho} {S : Sto} {r : Fo} (h : WhTo c b n ρ S r) : sWhile c b ρ S = some r := by
  have hx : ∃ r n, WhTo c b n ρ S r := ⟨r, n, h⟩
  unfold sWhile
  rw [dif_pos hx]
  obtain ⟨k, hk⟩ := hx.choose_spec
  rw [hk.det h]
theorem while_to {c : FT} {b : FS} {ρ : Rho} {S : Sto} {r : Fo} (h : sWhile c b ρ S = some r) : ∃ n, WhTo c b n ρ S r := by
  unfold sWhile at h
  split at h
  · rename_i hx
    have := hx.choose_spec
    cases h
    exact this
  · cases h
theorem ss_while {c : Expr} {body : List Stmt} {pos : Pos} {fc : FT} {fb : FS} (hp : PassesOwn (model X.prog X.w) X.A X.env X.xe) (hc : ST X c fc) (hb : SSs X body fb) : SS X (.While c body [] pos) (sWhile fc fb) := by
  obtain ⟨t, p, ht⟩ := hc.ex
  obtain ⟨u, p', hu⟩ := hb.ex
  refine ⟨_, ps_while hp p p', fun m S H ρ σ E r w er h q => ?_⟩
  obtain ⟨n, hn⟩ := while_to h
  refine ⟨fun n σ' H' => ∃ m' S' ρ', Stp m H m' H' ∧ WR X.K m' S' H' ∧ ER X.K m' H' ρ' σ' ∧ WhTo fc fb n ρ' S' r, ⟨n, m, S, ρ, .refl, w, er, hn⟩, ?_⟩
  rintro n σ1 H1 ⟨m1, S1, ρ1, st1, w1, er1, h1⟩
  cases h1 with
  | @stop _ _ S2 _ e =>
    refine ht m1 S1 H1 ρ1 σ1 _ false S2 w1 er1 e fun m2 H2 st2 w2 => ?_
    rw [if_neg Bool.false_ne_true]
    exact q σ1 m2 H2 (st1.trans st2) w2 (er1.mono st2)
  | @next _ ρ2 _ S2 S3 _ k e e2 h2 =>
    refine ht m1 S1 H1 ρ1 σ1 _ true S2 w1 er1 e fun m2 H2 st2 w2 => ?_
    rw [if_pos rfl]
    refine ⟨fun σ' H' => ∃ m' S' ρ', Stp m H m' H' ∧ WR X.K m' S' H' ∧ ER X.K m' H' ρ' σ' ∧ WhTo fc fb k ρ' S' r, fun σ' H' hN => ⟨k, Nat.lt_succ_self _, hN⟩, ?_⟩
    refine hu m2 S2 H2 ρ1 σ1 _ _ w2 (er1.mono st2) e2 ?_
    exact fun σ' m' H' st w' er' => ⟨m', S3, ρ2, (st1.trans st2).trans st, w', er', h2⟩
  | @cont _ ρ2 _ S2 S3 _ k e e2 h2 =>
    refine ht m1 S1 H1 ρ1 σ1 _ true S2 w1 er1 e fun m2 H2 st2 w2 => ?_
    rw [if_pos rfl]
    refine ⟨fun σ' H' => ∃ m' S' ρ', Stp m H m' H' ∧ WR X.K m' S' H' ∧ ER X.K m' H' ρ' σ' ∧ WhTo fc fb k ρ' S' r, fun σ' H' hN => ⟨k, Nat.lt_succ_self _, hN⟩, ?_⟩
    refine hu m2 S2 H2 ρ1 σ1 _ _ w2 (er1.mono st2) e2 ?_
    exact fun σ' m' H' st w' er' => ⟨m', S3, ρ2, (st1.trans st2).trans st, w', er', h2⟩
  | @brk _ ρ2 _ S2 S3 _ e e2 =>
    refine ht m1 S1 H1 ρ1 σ1 _ true S2 w1 er1 e fun m2 H2 st2 w2 => ?_
    rw [if_pos rfl]
    refine ⟨fun _ _ => False, fun σ' H' hN => hN.elim, ?_⟩
    refine hu m2 S2 H2 ρ1 σ1 _ _ w2 (er1.mono st2) e2 ?_
    exact fun σ' m' H' st w' er' => q σ' m' H' ((st1.trans st2).trans st) w' er'
  | @ret _ ρ2 _ S2 S3 d _ e e2 =>
    refine ht m1 S1 H1 ρ1 σ1 _ true S2 w1 er1 e fun m2 H2 st2 w2 => ?_
    rw [if_pos rfl]
    refine ⟨fun _ _ => False, fun σ' H' hN => hN.elim, ?_⟩
    refine hu m2 S2 H2 ρ1 σ1 _ _ w2 (er1.mono st2) e2 ?_
    exact PV.step (st1.trans st2) q
/-! ### what is walked -/
/-- the items; what is asked of the store at each turn -/
structure Wk where
  l : List D
  gd : Sto → Prop
abbrev FI := Rho → Mo Wk
def WkR (K : PySem.W.Frag) (k : Wk) (J : It) (m0 : Mp) (H0 : Hp) : Prop := ∀ (i : Nat) (m : Mp) (S : Sto) (H : Hp), Stw m0 H0 m H → WR K m S H → k.gd S →
  (k.l.length = i → J.stop i H) ∧ ∀ d, k.l[i]? = some d → J.go i H ∧ ∀ x H', J.yld i H x H' → Stp m H m H' ∧ WR K m S H' ∧ DR K m H' d x
structure SI (X : Cx) (tg iter : Expr) (f : FI) : Prop where
  ex : ∃ wi, PI X tg iter wi ∧ ∀ (m : Mp) (S : Sto) (H : Hp) (ρ : Rho) (σ : L2.St) (R : It → Hp → Prop) (k : Wk) (S' : Sto), WR X.K m S H → ER X.K m H ρ σ → f ρ S = some (k, S') →
    (∀ J m' H', Stp m H m' H' → WR X.K m' S' H' → WkR X.K k J m' H' → R J H') → wi σ H R
theorem WkR.step {K : PySem.W.Frag} {k : Wk} {J : It} {m0 m1 : Mp} {H0 H1 : Hp} (st : Stp m0 H0 m1 H1) (h : WkR K k J m0 H0) : WkR K k J m1 H1 := fun i m S H s w g => h i m S H (st.w.trans s) w g
/-! ### for -/
open Classical in
noncomputable def forL (gd : Sto → Prop) (g : FG) (b : FS) : List D → FS
  | [], ρ, S => if gd S then some (.nx, ρ, S) else none
  | d :: l, ρ, S => if gd S then (match g d ρ S with
    | some (ρ1, S1) => (match b ρ1 S1 with
      | some (.nx, ρ2, S2) => forL gd g b l ρ2 S2
      | some (.ct, ρ2, S2) => forL gd g b l ρ2 S2
      | some (.bk, ρ2, S2) => some (.nx, ρ2, S2)
      | some (.rt v, ρ2, S2) => some (.rt v, ρ2, S2)
      | none => none)
    | none => none) else none
noncomputable def sFor (f : FI) (g : FG) (b : FS) : FS := fun ρ S => match f ρ S with
  | some (k, S1) => forL k.gd g b k.l ρ S1
  | none => none
theorem drop_get {α : Type} {l : List α} {i : Nat} {d : α} {r : List α} (h : l.drop i = d :: r) : l[i]? = some d ∧ l.drop (i + 1) = r := by
  have e := congrArg (fun z => z[0]?) h
  simp only [List.getElem?_drop, List.getElem?_cons_zero, Nat.add_zero] at e
  refine ⟨e, ?_⟩
  have e2 : (l.drop i).drop 1 = r := by rw [h]; rfl
  rw [List.drop_drop] at e2
  exact e2
theorem ss_for {tg iter : Expr} {body : List Stmt} {pos : Pos} {fi : FI} {g : FG} {fb : FS} (hp : PassesOwn (model X.prog X.w) X.A X.env X.xe) (hc : X.calm = true) (hi : SI X tg iter fi) (hg : SG X tg g) (hb : SSs X body fb)
    (hs : ∀ x, foldedSetIterable iter X.env x = pure x := by intro _; rfl) : SS X (.For tg iter body [] pos) (sFor fi g fb) := by
  obtain ⟨wi, p0, h0⟩ := hi.ex
  obtain ⟨t, p, ht⟩ := hg.ex
  obtain ⟨u, p', hu⟩ := hb.ex
  refine ⟨_, ps_for hp hc p0 p p' hs, fun m S H ρ σ E r w er h q => ?_⟩
  unfold sFor at h
  split at h
  · rename_i k S0 e0
    refine h0 m S H ρ σ _ k S0 w er e0 fun J m1 H1 st1 w1 hk => ?_
    refine ⟨fun i n σ' H' => n = k.l.length - i ∧ i ≤ k.l.length ∧ ∃ m' S' ρ', Stp m1 H1 m' H' ∧ WR X.K m' S' H' ∧ ER X.K m' H' ρ' σ' ∧ forL k.gd g fb (k.l.drop i) ρ' S' = some r,
      ⟨k.l.length, by simp, Nat.zero_le _, m1, S0, ρ, .refl, w1, er.mono st1, h⟩, ?_⟩
    rintro i n σ2 H2 ⟨rfl, hi, m2, S2, ρ2, st2, w2, er2, h2⟩
    cases hd : k.l.drop i with
    | nil =>
      rw [hd] at h2
      unfold forL at h2
      split at h2
      · rename_i gd
        cases h2
        have hl : k.l.length ≤ i := by
          have := congrArg List.length hd
          simp at this
          omega
        exact .inl ⟨(hk i m2 S2 H2 st2.w w2 gd).1 (Nat.le_antisymm hl hi), q σ2 m2 H2 (st1.trans st2) w2 er2⟩
      · cases h2
    | cons d l =>
      obtain ⟨hg1, hg2⟩ := drop_get hd
      have hlt : i < k.l.length := (List.getElem?_eq_some_iff.mp hg1).1
      rw [hd] at h2
      unfold forL at h2
      split at h2
      · rename_i gd
        obtain ⟨go, yld⟩ := (hk i m2 S2 H2 st2.w w2 gd).2 d hg1
        refine .inr ⟨go, fun σ' H' => ∃ m' S' ρ', Stp m1 H1 m' H' ∧ WR X.K m' S' H' ∧ ER X.K m' H' ρ' σ' ∧ forL k.gd g fb (k.l.drop (i + 1)) ρ' S' = some r, fun σ' H' hN => ⟨k.l.length - (i + 1), by omega, rfl, hlt, hN⟩, fun x H3 hy => ?_⟩
        obtain ⟨st3, w3, r3⟩ := yld x H3 hy
        split at h2
        · rename_i ρ4 S4 e4
          refine ht m2 S2 H3 ρ2 σ2 x d _ ρ4 S4 w3 (er2.mono st3) r3 e4 fun σ4 m4 H4 st4 w4 er4 => ?_
          have stA := (st2.trans st3).trans st4
          split at h2
          · rename_i ρ5 S5 e5
            refine hu m4 S4 H4 ρ4 σ4 _ _ w4 er4 e5 ?_
            exact fun σ' m' H' st w' er' => ⟨m', S5, ρ5, stA.trans st, w', er', by rw [hg2]; exact h2⟩
          · rename_i ρ5 S5 e5
            refine hu m4 S4 H4 ρ4 σ4 _ _ w4 er4 e5 ?_
            exact fun σ' m' H' st w' er' => ⟨m', S5, ρ5, stA.trans st, w', er', by rw [hg2]; exact h2⟩
          · rename_i ρ5 S5 e5
            cases h2
            refine hu m4 S4 H4 ρ4 σ4 _ _ w4 er4 e5 ?_
            exact fun σ' m' H' st w' er' => q σ' m' H' ((st1.trans stA).trans st) w' er'
          · rename_i v ρ5 S5 e5
            cases h2
            refine hu m4 S4 H4 ρ4 σ4 _ _ w4 er4 e5 ?_
            exact PV.step (st1.trans stA) q
          · cases h2
        · cases h2
      · cases h2
  · cases h
/-! ### list comprehensions -/
open Classical in
noncomputable def lcR (gd : Sto → Prop) (g : FG) (t : FT) (e : FE) : List D → Rho → Mo (List D)
  | [], _, S => if gd S then some ([], S) else none
  | d :: l, ρ, S => if gd S then (match g d ρ S with
    | some (ρ1, S1) => (match t ρ1 S1 with
      | some (true, S2) => (match e ρ1 S2 with
        | some (y, S3) => (match lcR gd g t e l ρ S3 with
          | some (ys, S4) => some (y :: ys, S4)
          | none => none)
        | none => none)
      | some (false, S2) => lcR gd g t e l ρ S2
      | none => none)
    | none => none) else none
def tTrue : FT := fun _ S => some (true, S)
/-- [e for target in iter if t]; vs: the slots of the comprehension's own names -/
noncomputable def fLc (f : FI) (g : FG) (t : FT) (e : FE) (vs : List Nat) : FA := fun ρ S => match f ρ S with
  | some (k, S1) => if k.l.length ≤ sizeLine then lcR k.gd g t e k.l (wipeR ρ vs) S1 else none
  | none => none
/-- the tests of a clause -/
structure STs (X : Cx) (ifs : List Expr) (f : FT) : Prop where
  ex : ∃ t, PTs X ifs t ∧ ∀ (m : Mp) (S : Sto) (H : Hp) (ρ : Rho) (σ : L2.St) (Q : Bool → Hp → Prop) (b : Bool) (S' : Sto), WR X.K m S H → ER X.K m H ρ σ → f ρ S = some (b, S') → PB X.K m H b S' Q → t σ H Q
theorem sts_nil : STs X [] tTrue := ⟨_, pts_nil, fun m S H ρ σ Q b S' w er h q => by
  cases h
  exact q m H .refl w⟩
theorem sts_one {c : Expr} {f : FT} (h : ST X c f) : STs X [c] f := let ⟨t, p, ht⟩ := h.ex; ⟨t, pts_one p, ht⟩
/-- what becomes of a new list, hidden so far -/
def LcEnd (K : PySem.W.Frag) (al : List D → Mo D) : Prop := ∀ (m : Mp) (H H1 : Hp) (ms : List Addr) (S S2 : Sto) (a : Addr) (xs : List V) (ds : List D) (d : D), H a = none → Stp m H ⟨ms, m.h⟩ H1 → WR K ⟨ms, a :: m.h⟩ S H1 → H1 a = some (.lst xs) → DRs K ⟨ms, a :: m.h⟩ H1 ds xs → ¬ m.fb a →
  al ds S = some (d, S2) → ∃ m2, Stp m H m2 H1 ∧ WR K m2 S2 H1 ∧ DR K m2 H1 d (.ref a)
theorem lcEnd_lst {K : PySem.W.Frag} : LcEnd K gLstD := by
  intro m H H1 ms S S2 a xs ds d hp st w1 ha hd hn e
  cases e
  refine ⟨⟨ms, m.h⟩, st, wr_show w1, .lst ha (fun z => ?_) (hd.monw stw_show)⟩
  rcases z with z | z
  · exact w1.dis a List.mem_cons_self z
  · exact hn (.inr z)
theorem lcEnd_new {K : PySem.W.Frag} : LcEnd K gNewD := by
  intro m H H1 ms S S2 a xs ds d hp st w1 ha hd hn e
  cases e
  obtain ⟨r, hr, hf⟩ := st.more
  have off : a ∉ ms := w1.dis a List.mem_cons_self
  have w2 := wr_show w1
  have s3 : Stw ⟨ms, a :: m.h⟩ H1 ⟨ms ++ [a], m.h⟩ H1 := ⟨⟨[a], rfl⟩, fun x h => ?_, fun x o h _ => h⟩
  · refine ⟨⟨ms ++ [a], m.h⟩, ⟨⟨r ++ [a], ?_, fun x hx => ?_⟩, rfl, st.keep, st.tr⟩, ?_, .ref ?_⟩
    · show ms ++ [a] = _
      have hr : ms = m.m ++ r := hr
      rw [hr, List.append_assoc]
    · rcases List.mem_append.mp hx with hx | hx
      · exact hf x hx
      · simp at hx; subst hx; exact hp
    · refine ⟨by simp [w2.len], ?_, fun x h hm => ?_, fun x h => ?_, fun n x o h1 h2 => ?_⟩
      · show (ms ++ [a]).Nodup
        rw [List.nodup_append]
        refine ⟨w2.nd, by simp, fun x hx b hb e => ?_⟩
        simp at hb
        subst hb
        subst e
        exact off hx
      · rcases List.mem_append.mp hm with z | z
        · exact w2.dis x h z
        · simp at z; subst z; exact hn (.inr h)
      · rcases h with h | h
        · rcases List.mem_append.mp h with z | z
          · exact w2.trk x (.inl z)
          · simp at z; subst z; rw [ha]; simp
        · exact w2.trk x (.inr h)
      · have h1 : (ms ++ [a])[n]? = some x := h1
        have hlen : ms.length = S.length := w1.len
        by_cases hl : n < ms.length
        · rw [List.getElem?_append_left hl] at h1
          rw [List.getElem?_append_left (by rw [← hlen]; exact hl)] at h2
          exact (w1.get n x o h1 h2).monw s3 fun _ e => e
        · rw [List.getElem?_append_right (by omega)] at h1
          rw [List.getElem?_append_right (by rw [← hlen]; omega)] at h2
          have z : n - ms.length = 0 := by
            have := (List.getElem?_eq_some_iff.mp h1).1
            simp at this
            omega
          rw [z] at h1
          rw [← hlen, z] at h2
          simp at h1 h2
          subst h1
          subst h2
          exact ⟨xs, ha, hd.monw s3⟩
    · show (ms ++ [a])[S.length]? = some a
      have hlen : ms.length = S.length := w1.len
      rw [← hlen]
      simp
  · rcases h with h | h
    · rcases List.mem_append.mp h with z | z
      · exact .inl (.inl z)
      · simp at z; subst z; exact .inl (.inr List.mem_cons_self)
    · exact .inl (.inr (List.mem_cons_of_mem _ h))
end
end Nw
namespace Nw
open PySem PySem.Spec PyProof.Rows L2
/-! ### the judgements with one transformer for all contexts -/
def canE (K : PySem.W.Frag) (f : FE) : TE := fun σ H Q => ∃ m S ρ d S', WR K m S H ∧ ER K m H ρ σ ∧ f ρ S = some (d, S') ∧ PV K m H d S' Q
def canT (K : PySem.W.Frag) (f : FT) : TT := fun σ H Q => ∃ m S ρ b S', WR K m S H ∧ ER K m H ρ σ ∧ f ρ S = some (b, S') ∧ PB K m H b S' Q
def canN (K : PySem.W.Frag) (vs : List Nat) (g : FG) : TG := fun v σ H Q => ∃ m S ρ d ρ' S', WR K m S H ∧ ER K m H ρ σ ∧ DR K m H d v ∧ g d ρ S = some (ρ', S') ∧ ∀ σ', ER K m H ρ' σ' → wipe σ' vs = wipe σ vs → S' = S → Q σ' H
section
variable {X : Cx}
theorem SE.can {e : Expr} {f : FE} (h : SE X e f) : PE X e (canE X.K f) := by
  obtain ⟨t, p, ht⟩ := h.ex
  exact ⟨fun pins s σ H Q I hq => let ⟨m, S, ρ, d, S', w, er, e1, q⟩ := hq; p.run pins s σ H Q I (ht m S H ρ σ Q d S' w er e1 q)⟩
theorem STs.can {e : List Expr} {f : FT} (h : STs X e f) : PTs X e (canT X.K f) := by
  obtain ⟨t, p, ht⟩ := h.ex
  exact ⟨fun pins s σ H Q I hq => let ⟨m, S, ρ, d, S', w, er, e1, q⟩ := hq; p.run pins s σ H Q I (ht m S H ρ σ Q d S' w er e1 q)⟩
theorem SN.can {e : Expr} {vs : List Nat} {g : FG} (h : SN X e vs g) : PG X e (canN X.K vs g) := by
  obtain ⟨t, p, ht⟩ := h.ex
  exact ⟨fun pins s σ H v u Q I r hq => let ⟨m, S, ρ, d, ρ', S', w, er, rd, e1, q⟩ := hq; p.run pins s σ H v u Q I r (ht m S H ρ σ v d Q ρ' S' w er rd e1 q)⟩
/-! ### list comprehensions -/
/-- what the reading of a comprehension asks, from its mirror -/
theorem lc_read {wi : TI} {fi : FI} {g : FG} {ft : FT} {fe : FE} {vs : List Nat} {al : List D → Mo D} {m : Mp} {S : Sto} {H : Hp} {ρ : Rho} {σ : L2.St} {Q : VK} {d : D} {S' : Sto}
    (h0 : ∀ (m : Mp) (S : Sto) (H : Hp) (ρ : Rho) (σ : L2.St) (R : It → Hp → Prop) (k : Wk) (S' : Sto), WR X.K m S H → ER X.K m H ρ σ → fi ρ S = some (k, S') →
      (∀ J m' H', Stp m H m' H' → WR X.K m' S' H' → WkR X.K k J m' H' → R J H') → wi σ H R)
    (hal : LcEnd X.K al) (w : WR X.K m S H) (er : ER X.K m H ρ σ) (h : eArg al (fLc fi g ft fe vs) ρ S = some (d, S')) (q : PV X.K m H d S' Q) : tLc wi (canN X.K vs g) (canT X.K ft) (canE X.K fe) vs σ H Q := by
  obtain ⟨ys, S0, e0, ea⟩ := inv_arg h
  unfold fLc at e0
  split at e0
  · rename_i k S1 e1
    split at e0
    · rename_i hsz
      refine h0 m S H ρ σ _ k S1 w er e1 fun J m1 H1 st1 w1 hk => ?_
      intro D hD
      have er1 := (er.mono st1).wipe vs
      have hnD := w1.notin hD
      refine ⟨fun i n H' => n = k.l.length - i ∧ i ≤ k.l.length ∧ ∃ ms S' acc ds zs Sz, Stp m1 H1 ⟨ms, m1.h⟩ H' ∧ WR X.K ⟨ms, D :: m1.h⟩ S' H' ∧ H' D = some (.lst acc) ∧ DRs X.K ⟨ms, D :: m1.h⟩ H' ds acc ∧ acc.length ≤ i ∧
          ER X.K ⟨ms, D :: m1.h⟩ H' (wipeR ρ vs) (wipe σ vs) ∧ lcR k.gd g ft fe (k.l.drop i) (wipeR ρ vs) S' = some (zs, Sz) ∧ ys = ds ++ zs ∧ Sz = S0,
        ⟨k.l.length, by simp, Nat.zero_le _, m1.m, S1, [], [], ys, S0, stp_new hD, wr_hide w1 hD, upd_same, .nil, Nat.le_refl _, ?_, ?_, rfl, rfl⟩, ?_⟩
      · exact ⟨er1.1, fun i d e => let ⟨v, a, b⟩ := er1.2 i d e; ⟨v, a, b.monw (stw_hide hD)⟩⟩
      · rw [List.drop_zero]; exact e0
      · rintro i n H2 ⟨rfl, hi, ms, S2, acc, ds, zs, Sz, st2, w2, hacc, hds, hal2, er2, h2, rfl, rfl⟩
        have sw := stw_base hD st2
        cases hd : k.l.drop i with
        | nil =>
          rw [hd] at h2
          unfold lcR at h2
          split at h2
          · rename_i gd
            cases h2
            have hl : k.l.length ≤ i := by
              have := congrArg List.length hd
              simp at this
              omega
            refine .inl ⟨(hk i _ S2 H2 sw w2 gd).1 (Nat.le_antisymm hl hi), ?_⟩
            rw [List.append_nil] at ea
            obtain ⟨m3, st3, w3, r3⟩ := hal m1 H1 H2 ms S2 S' D acc ds d hD st2 w2 hacc hds hnD ea
            exact q _ m3 H2 (st1.trans st3) w3 r3
          · cases h2
        | cons x l =>
          obtain ⟨hg1, hg2⟩ := drop_get hd
          have hlt : i < k.l.length := (List.getElem?_eq_some_iff.mp hg1).1
          rw [hd] at h2
          unfold lcR at h2
          split at h2
          · rename_i gd
            obtain ⟨go, yld⟩ := (hk i _ S2 H2 sw w2 gd).2 x hg1
            refine .inr ⟨go, fun H' => i + 1 ≤ k.l.length ∧ ∃ ms' S' acc' ds' zs' Sz', Stp m1 H1 ⟨ms', m1.h⟩ H' ∧ WR X.K ⟨ms', D :: m1.h⟩ S' H' ∧ H' D = some (.lst acc') ∧ DRs X.K ⟨ms', D :: m1.h⟩ H' ds' acc' ∧ acc'.length ≤ i + 1 ∧
                ER X.K ⟨ms', D :: m1.h⟩ H' (wipeR ρ vs) (wipe σ vs) ∧ lcR k.gd g ft fe (k.l.drop (i + 1)) (wipeR ρ vs) S' = some (zs', Sz') ∧ ds ++ zs = ds' ++ zs' ∧ Sz' = Sz, fun H' hN => ⟨k.l.length - (i + 1), by omega, rfl, hN⟩, fun v H3 hy => ?_⟩
            obtain ⟨st3, w3, r3⟩ := yld v H3 hy
            split at h2
            · rename_i ρ4 S4 e4
              refine ⟨_, _, _, x, ρ4, S4, w3, er2.mono st3, r3, e4, fun σ4 er4 hw4 hS4 => ⟨hw4.trans wipe_wipe, ?_⟩⟩
              subst hS4
              split at h2
              · rename_i S5 e5
                refine ⟨_, _, _, true, S5, w3, er4, e5, fun m5 H5 st5 w5 => ?_⟩
                refine iteT ?_
                split at h2
                · rename_i y S6 e6
                  split at h2
                  · rename_i zs2 S7 e7
                    cases h2
                    refine ⟨_, _, _, y, S6, w5, er4.mono st5, e6, fun yv m6 H6 st6 w6 r6 => ?_⟩
                    have stA := (st3.trans st5).trans st6
                    obtain ⟨ms6, hs6⟩ := m6
                    have eh : hs6 = D :: m1.h := stA.hid
                    subst eh
                    have hDm : D ∉ ms := w2.dis D List.mem_cons_self
                    have acc6 : H6 D = some (.lst acc) := stA.keep D _ hacc hDm
                    have stB : Stp m1 H1 ⟨ms6, m1.h⟩ H6 := st2.trans (stp_bare stA)
                    have hin : D ∈ (⟨ms6, D :: m1.h⟩ : Mp).h := List.mem_cons_self
                    refine ⟨acc, acc6, ?_, hlt, ms6, S6, acc ++ [yv], ds ++ [y], zs2, _, stp_over hD stB, wr_hidden w6 hin, upd_same, ?_, ?_, ?_, ?_, ?_, rfl⟩
                    · omega
                    · exact ((hds.mono stA).append (.cons r6 .nil)).monw (stw_hidden (.inr hin))
                    · rw [List.length_append]; exact Nat.add_le_add_right hal2 1
                    · have er6 := er2.mono stA
                      exact ⟨er6.1, fun i d e => let ⟨v, a, b⟩ := er6.2 i d e; ⟨v, a, b.monw (stw_hidden (.inr hin))⟩⟩
                    · rw [hg2]; exact e7
                    · rw [List.append_assoc]; rfl
                  · cases h2
                · cases h2
              · rename_i S5 e5
                refine ⟨_, _, _, false, S5, w3, er4, e5, fun m5 H5 st5 w5 => ?_⟩
                refine iteF ?_
                have stA := st3.trans st5
                obtain ⟨ms5, hs5⟩ := m5
                have eh : hs5 = D :: m1.h := stA.hid
                subst eh
                have hDm : D ∉ ms := w2.dis D List.mem_cons_self
                have acc5 : H5 D = some (.lst acc) := stA.keep D _ hacc hDm
                exact ⟨hlt, ms5, S5, acc, ds, zs, Sz, st2.trans (stp_bare stA), w5, acc5, hds.mono stA, Nat.le_succ_of_le hal2, er2.mono stA, by rw [hg2]; exact h2, rfl, rfl⟩
              · cases h2
            · cases h2
          · cases h2
    · cases e0
  · cases e0
theorem se_lc {elt tg iter : Expr} {ifs : List Expr} {scope : Scope} {own : List (Str × Nat)} {vs : List Nat} {pos : Pos} {fi : FI} {g : FG} {ft : FT} {fe : FE} {al : List D → Mo D} (hal : LcEnd X.K al) (hc : X.calm = true) (hN : X.N.Nodup) (hi : SI X tg iter fi) (ok : BlkOk X.N X.env.scope scope own) (hv : own.map (·.2) = vs)
    (hg : ∀ (s : Shared) (H : Hp) (C : Addr) (cl : List (Str × Addr)) (fp : List Addr), SN (X.blk s H scope (compEnvC scope cl C X.env) fp) tg vs g) (ht : ∀ (s : Shared) (H : Hp) (C : Addr) (cl : List (Str × Addr)) (fp : List Addr), STs (X.blk s H scope (compEnvC scope cl C X.env) fp) ifs ft)
    (he : ∀ (s : Shared) (H : Hp) (C : Addr) (cl : List (Str × Addr)) (fp : List Addr), SE (X.blk s H scope (compEnvC scope cl C X.env) fp) elt fe) (hs : ∀ x, foldedSetIterable iter X.env x = pure x := by intro _; rfl) :
    SE X (.ListComp elt [⟨tg, iter, ifs, 0⟩] scope pos) (eArg al (fLc fi g ft fe vs)) := by
  subst hv
  obtain ⟨wi, p0, h0⟩ := hi.ex
  exact ⟨_, pe_lc (g := canN X.K _ g) (tt := canT X.K ft) (te := canE X.K fe) hc hN p0 ok (fun s H C cl fp => (hg s H C cl fp).can) (fun s H C cl fp => (ht s H C cl fp).can) (fun s H C cl fp => (he s H C cl fp).can) hs, fun m S H ρ σ Q d S' w er h q => lc_read h0 hal w er h q⟩
theorem ss_setLc {i : Nat} {y : Str} {py : Pos} {elt tg iter : Expr} {ifs : List Expr} {scope : Scope} {own : List (Str × Nat)} {vs : List Nat} {pos spos : Pos} {fi : FI} {g : FG} {ft : FT} {fe : FE} {al : List D → Mo D} (hal : LcEnd X.K al) (hc : X.calm = true) (hN : X.N.Nodup) (hy : X.N[i]? = some y) (hyl : X.env.scope.names.lookup y = some .local)
    (hsw : swapsWith (.ListComp elt [⟨tg, iter, ifs, 0⟩] scope pos) (some (.Name y py)) spos.line X.env = pure true) (hi : SI X tg iter fi) (ok : BlkOk X.N X.env.scope scope own) (hv : own.map (·.2) = vs)
    (hg : ∀ (s : Shared) (H : Hp) (C : Addr) (cl : List (Str × Addr)) (fp : List Addr), SN (X.blk s H scope (compEnvC scope cl C X.env) fp) tg vs g) (ht : ∀ (s : Shared) (H : Hp) (C : Addr) (cl : List (Str × Addr)) (fp : List Addr), STs (X.blk s H scope (compEnvC scope cl C X.env) fp) ifs ft)
    (he : ∀ (s : Shared) (H : Hp) (C : Addr) (cl : List (Str × Addr)) (fp : List Addr), SE (X.blk s H scope (compEnvC scope cl C X.env) fp) elt fe) (hs : ∀ x, foldedSetIterable iter X.env x = pure x := by intro _; rfl) :
    SS X (.Assign [.Name y py] (.ListComp elt [⟨tg, iter, ifs, 0⟩] scope pos) spos) (sAsg (eArg al (fLc fi g ft fe vs)) (gNm i)) := by
  subst hv
  obtain ⟨wi, p0, h0⟩ := hi.ex
  refine ⟨_, ps_setLc (g := canN X.K _ g) (tt := canT X.K ft) (te := canE X.K fe) hc hN hy hyl hsw p0 ok (fun s H C cl fp => (hg s H C cl fp).can) (fun s H C cl fp => (ht s H C cl fp).can) (fun s H C cl fp => (he s H C cl fp).can) hs, fun m S H ρ σ E r w er h q => ?_⟩
  unfold sAsg at h
  split at h
  · rename_i d S1 e1
    unfold gNm at h
    cases h
    exact lc_read h0 hal w er e1 fun v m' H' st w' r => q _ m' H' st w' ((er.mono st).set r i)
  · cases h
end
/-! ### defs -/
/-- a def's mirror: the parameters first, then the other names -/
def startR (n : Nat) (ds : List D) : Rho := ds.map some ++ List.replicate (n - ds.length) none
def fRun (n : Nat) (b : FS) : List D → Mo D := fun ds S => match b (startR n ds) S with
  | some (.rt d, _, S') => some (d, S')
  | some (.nx, _, S') => some (.non, S')
  | _ => none
abbrev SpG := List V → Hp → VK → Prop
def spF (K : PySem.W.Frag) (n : Nat) (F : List D → Mo D) : SpG := fun vs H Q => vs.length = n ∧ ∃ m S ds d S', WR K m S H ∧ DRs K m H ds vs ∧ F ds S = some (d, S') ∧ PV K m H d S' Q
structure FnG (P : Program) (w : World) (K : PySem.W.Frag) (mg : Str → Option Value) (base : Heap) (k : Nat) (f : Addr) (fd : FuncData) (ps : List Str) (sp : SpG) : Prop where
  len : ∀ vs H Q, sp vs H Q → vs.length = ps.length
  run : ∀ (A : Around) (outer : List Env) (s : Shared) (H : Hp) (args : Args) (us : List Value) (vs : List V) (Q : VK), Room k A → A.guards = some [] → Env0 P w K mg base A outer s H → BindsTo s fd args (ps.zip us) → Vals vs us → sp vs H Q →
    codeAny (model P w) A (.call (.ref f) args) (CR CX0 outer P w H s Q E0) s
theorem FnG.mono {P : Program} {w : World} {K : PySem.W.Frag} {mg : Str → Option Value} {base : Heap} {j k : Nat} {f : Addr} {fd : FuncData} {ps : List Str} {sp : SpG} (F : FnG P w K mg base j f fd ps sp) (h : j ≤ k) : FnG P w K mg base k f fd ps sp :=
  ⟨F.len, fun A outer s H args us vs Q hr => F.run A outer s H args us vs Q (hr.mono h)⟩
theorem er_start {K : PySem.W.Frag} {m : Mp} {H : Hp} {N : List Str} {ds : List D} {vs : List V} (h : DRs K m H ds vs) : ER K m H (startR N.length ds) (L2.start N vs) := by
  refine ⟨?_, fun i d e => ?_⟩
  · unfold startR L2.start
    simp [h.length]
  · unfold startR at e
    by_cases hi : i < ds.length
    · rw [List.getElem?_append_left (by simpa using hi), List.getElem?_map] at e
      cases q : ds[i]? with
      | none => rw [q] at e; cases e
      | some d' =>
        rw [q] at e
        have e2 : d' = d := Option.some.inj (Option.some.inj e)
        subst e2
        obtain ⟨v, hv, r⟩ := h.get q
        refine ⟨v, ?_, r⟩
        unfold L2.start
        rw [List.getElem?_append_left (by rw [List.length_map, ← h.length]; exact hi), List.getElem?_map, hv]
        rfl
    · rw [List.getElem?_append_right (by simpa using hi), List.getElem?_replicate] at e
      split at e <;> cases e
section
variable {P : Program} {w : World} {K : PySem.W.Frag} {mg : Str → Option Value} {base : Heap}
/-- the context of a def's body -/
structure InDef (P : Program) (w : World) (K : PySem.W.Frag) (mg : Str → Option Value) (base : Heap) (k : Nat) (N : List Str) (qual : Str) (scope : Scope) (f : Addr) (X : Cx) : Prop where
  ex : ∃ (cdv : Value) (A : Around) (outer : List Env) (s : Shared) (H : Hp), X = (cxOf CX0 P w K mg base N qual scope f cdv A outer s H E0).nox ∧ Room k (A.deeper (envOfC qual scope s.heap.objs.size f cdv)) ∧ A.guards = some []
theorem fng_of {x qual : Str} {params : Arguments} {body : List Stmt} {scope : Scope} {dvs : List V} {kws : List (Str × V)} {f : Addr} {fd : FuncData} {N ps : List Str} {k : Nat} {b : FS} (F : FunD K x qual params body scope dvs kws f fd) (S : FnScope N ps scope)
    (hb : ∀ (cdv : Value) (A : Around) (outer : List Env) (s : Shared) (H : Hp), PySem.W.codeIn K cdv qual = true → Room k (A.deeper (envOfC qual scope s.heap.objs.size f cdv)) → A.guards = some [] → SSs (cxOf CX0 P w K mg base N qual scope f cdv A outer s H E0).nox body b) :
    FnG P w K mg base (k + 1) f fd ps (spF K ps.length (fRun N.length b)) := by
  obtain ⟨oc, od, dV, kV, doc, pm, an, cdv, ct, osl, rfl, lk, hcd, _, _⟩ := F.ex
  refine ⟨fun vs H Q h => h.1, fun A outer s H args us vs Q hr hg e0 hbd r hsp => ?_⟩
  have inS : K.In s.heap := e0.mod.kin.keeps (fun b o e => (e0.bs b o e).1)
  have lim0 : s.heap.NoLimit := e0.mod.nolimit.keeps (fun b o e => (e0.bs b o e).1)
  have hks : ∀ y ∈ ps.zip us, scope.names.lookup y.1 = some .local ∨ (scope.names.lookup y.1 = some .cell ∧ ((cellsFrom (s.heap.objs.size + 1) scope.names []).lookup y.1).isSome = true) := by
    rintro ⟨n, v⟩ hy
    exact (S.par n (List.of_mem_zip hy).1).elim .inl fun q => .inr ⟨q, PySem.W.cellsFrom_some _ _ _ (.inl q)⟩
  obtain ⟨hl, m, S0, ds, d, S', w0, rds, hF, q⟩ := hsp
  refine codeAny_call_function hr.depth (inS _ _ lk) rfl S.co S.gen rfl (PySem.W.codeRec_of inS hcd) (hbd _ _ _ _ (wpAny_newFunctionEnv_cells S.kind hks fun env he s1 x => ?_))
  subst he
  refine ⟨lim0.keeps x.toInCall.keep, codeAny_func ?_⟩
  obtain ⟨t, ht, hq⟩ := (hb cdv A outer s H hcd (hr.deeper _) hg).ex
  have I0 : Inv (cxOf CX0 P w K mg base N qual scope f cdv A outer s H E0) [] (L2.start N vs) H s1 := inv_start S hr.hd e0 hl r x
  -- the mirror's end
  have hE : ∃ r, b (startR N.length ds) S0 = some r ∧ PR K m H r { nx := fun _ H' => Q .non H', rt := Q } := by
    unfold fRun at hF
    split at hF
    · rename_i d' ρ' S'' e
      cases hF
      exact ⟨_, e, q⟩
    · rename_i ρ' S'' e
      cases hF
      exact ⟨_, e, fun σ' m' H' st w' _ => q .non m' H' st w' .non⟩
    · cases hF
  obtain ⟨r0, e0', pr⟩ := hE
  refine wpAny_mono (ht.nox.run [] s1 (L2.start N vs) H _ I0 (hq m S0 H _ _ _ r0 w0 (er_start rds) e0' pr)) (fun fl s' hs => ?_) (fun e s' hs => hs)
  have fin : ∀ {σ' : L2.St} {H' : Hp} {v : V} {u : Value}, Inv (cxOf CX0 P w K mg base N qual scope f cdv A outer s H E0) [] σ' H' s' → RelV v u → Q v H' → CE outer P w H s Q u s' := by
    intro σ' H' v u J rv q
    exact ⟨v, H', J.os, J.bare, J.base, J.hok, rv, q⟩
  cases fl with
  | next =>
    obtain ⟨σ', H', J, q⟩ := hs
    exact fin (v := V.non) (u := Value.none) J rfl q
  | ret u =>
    obtain ⟨v, σ', H', J, rv, q⟩ := hs
    exact fin J rv q
  | brk => exact hs.elim fun _ z => z.elim fun _ z => z.2.elim
  | cont => exact hs.elim fun _ z => z.elim fun _ z => z.2.elim
end
/-! ### calls -/
section
variable {X : Cx} {k : Nat} {f : Addr} {fd : FuncData} {ps ks : List Str} {n : Nat} {F : List D → Mo D} {x : Str} {p pos : Pos} {e : Expr} {es : List Expr} {fa : FA}
theorem run_fng {pins : List (Addr × Obj)} {σ : L2.St} {H : Hp} {s : Shared} {Q : VK} {us : List Value} {vs : List V} {sp : SpG} (G : FnG X.prog X.w X.K X.mg X.base k f fd ps sp) (c : Cxo k X) (hb : Binds X.K fd ps []) (I : Inv X pins σ H s) (r : Vals vs us) (h : sp vs H Q) :
    wpAny (model X.prog X.w) X.A (call (.ref f) us) (EP X pins σ Q) X.xe s := by
  have hl : (us ++ []).length = ps.length := by rw [List.append_nil, ← r.length]; exact G.len _ _ _ h
  have hb2 := hb s us I.kIn hl
  rw [List.append_nil] at hb2
  refine wpAny_call (codeAny_mono (G.run X.A X.stack s H ⟨us, []⟩ us vs Q c.room c.gu I.env0 hb2 r h) fun z s' hq => ?_)
  cases z with
  | ok fl =>
    cases fl with
    | ret u => exact I.after hq
    | _ => exact False.elim hq
  | error e => exact False.elim hq
theorem se_call (G : FnG X.prog X.w X.K X.mg X.base k f fd ps (spF X.K n F)) (c : Cxo k X) (hm : X.mg x = some (.ref f)) (hk : PySem.W.keepIn X.K (.ref f) = true) (hb : Binds X.K fd ps []) (ha : SA X (e :: es) fa) (hn : ALen fa n) (hg : Gl X x)
    (hdb : (x == ("__debug__" : Str)) = false := by decide) (he : starEach (e :: es) X.env = (false, eval e X.env) :: starEach es X.env := by rfl) (hpl : (backTo pos (starEach es X.env)).any (·.1) = false := by rfl) :
    SE X (.Call (.Name x p) (e :: es) [] pos) (eArg F fa) := by
  obtain ⟨t, pt, ht⟩ := ha.ex
  refine ⟨fun σ H Q => t σ H fun vs H1 => spF X.K n F vs H1 Q, ⟨fun pins s σ H Q I h => ?_⟩, fun m S H ρ σ Q d S' w er h q => ?_⟩
  · refine wpAny_Call_Name_kw (ld_glob I hg hm ?_ hdb)
    refine PySem.W.callWith_K (h₀ := X.base) I.ok.mod.kin hk (thn (pt.run pos pins s σ H _ I h) ?_) he hpl
    rintro us s1 ⟨vs, H1, I1, r, q⟩
    exact ⟨I1.kIn, run_fng G c hb I1 r q⟩
  · obtain ⟨xs, S1, e1, e2⟩ := inv_arg h
    refine ht m S H ρ σ _ xs S1 w er e1 fun vs m1 H1 st1 w1 r1 => ?_
    exact ⟨by rw [← r1.length]; exact hn _ _ _ _ e1, m1, S1, xs, d, S', w1, r1, e2, q.step st1⟩
theorem se_call0 (G : FnG X.prog X.w X.K X.mg X.base k f fd ps (spF X.K 0 F)) (c : Cxo k X) (hm : X.mg x = some (.ref f)) (hk : PySem.W.keepIn X.K (.ref f) = true) (hb : Binds X.K fd ps []) (hg : Gl X x)
    (hdb : (x == ("__debug__" : Str)) = false := by decide) : SE X (.Call (.Name x p) [] [] pos) (eArg F aNil) := by
  refine ⟨fun σ H Q => spF X.K 0 F [] H Q, ⟨fun pins s σ H Q I h => ?_⟩, fun m S H ρ σ Q d S' w er h q => ?_⟩
  · refine wpAny_Call_Name_kw (ld_glob I hg hm ?_ hdb)
    exact PySem.W.callWith_K0 I.kIn hk (run_fng (us := []) G c hb I .nil h)
  · obtain ⟨xs, S1, e1, e2⟩ := inv_arg h
    cases e1
    exact ⟨rfl, m, S, [], d, S', w, .nil, e2, q⟩
end
end Nw
namespace Nw
open PySem PySem.Spec PyProof.Rows L2
/-! ### lists and tuples alike -/
inductive Kd where
  | l | t
def SqK (κ : Kd) (K : PySem.W.Frag) (H : Hp) (a : Addr) (xs : List V) : Prop := match κ with
  | .l => SqL K H a xs
  | .t => SqT K H a xs
def IsK (κ : Kd) (h : Heap) (a : Addr) (its : Array Value) : Prop := match κ with
  | .l => h.IsList a its
  | .t => h.IsTuple a its
def ItK (κ : Kd) (h : Heap) (it a : Addr) (i : Nat) : Prop := match κ with
  | .l => h.IsListIter it a i
  | .t => h.IsTupleIter it a i
def itO (κ : Kd) (a : Addr) : Obj := match κ with
  | .l => { cls := .type "list_iterator", data := .fields #[.ref a, .int 0 0] }
  | .t => { cls := .type "tuple_iterator", data := .fields #[.ref a, .int 0 0] }
theorem itO_free (κ : Kd) (a : Addr) : (itO κ a).isFreed = false := by cases κ <;> rfl
theorem begins_K (κ : Kd) (a : Addr) (its : Array Value) : Begins (.ref a) (itO κ a) (fun h => IsK κ h a its) := by
  cases κ
  · exact begins_list a its
  · exact begins_tuple a its
theorem itK_new {κ : Kd} {h : Heap} {it a : Addr} (e : h.get? it = some (itO κ a)) : ItK κ h it a 0 := by
  cases κ
  · exact ⟨_, e, rfl, rfl⟩
  · exact ⟨_, e, rfl, rfl⟩
theorem itK_obj {κ : Kd} {h : Heap} {it a : Addr} {i : Nat} (x : ItK κ h it a i) : ∃ o, h.get? it = some o ∧ ∀ v, o.data ≠ .cell v := by
  cases κ
  · obtain ⟨o, e, _, d⟩ := x
    exact ⟨o, e, fun v q => by rw [d] at q; cases q⟩
  · obtain ⟨o, e, _, d⟩ := x
    exact ⟨o, e, fun v q => by rw [d] at q; cases q⟩
theorem itK_at {κ : Kd} {h h' : Heap} {it a : Addr} {i : Nat} (x : ItK κ h it a i) (k : ∀ o, h.get? it = some o → h'.get? it = some o) : ItK κ h' it a i := by
  cases κ
  · exact PySem.Heap.IsListIter.at x k
  · exact PySem.Heap.IsTupleIter.at x k
theorem draws_K {prog : Program} {w : World} {A : Around} (hh : A.handled = none) (κ : Kd) (it a : Addr) (hne : a ≠ it) (its : Array Value) : Draws prog w A it [it, a] its.size (fun i v => its[i]? = some v) (fun i h => ItK κ h it a i ∧ IsK κ h a its) := by
  cases κ
  · exact Draws.list hh it a hne its
  · exact Draws.tuple hh it a hne its
section
variable {X : Cx} {pins : List (Addr × Obj)} {σ : L2.St} {H : Hp} {s : Shared} {a : Addr} {xs ys : List V} {κ : Kd}
theorem sq_get (I : Inv X pins σ H s) (h : SqK κ X.K H a xs) : ∃ its : List Value, Vals xs its ∧ IsK κ s.heap a its.toArray ∧ xs.length ≤ sizeLine := by
  cases κ
  · obtain ⟨its, r, p, z⟩ := I.list h
    exact ⟨its, r, p.isList, z⟩
  · obtain ⟨its, r, p, z⟩ := I.tuple h
    exact ⟨its, r, p, z⟩
theorem sq_inj (I : Inv X pins σ H s) (h : SqK κ X.K H a xs) (h' : SqK κ X.K H a ys) : xs = ys := by
  cases κ
  · exact I.list_inj h h'
  · exact I.tuple_inj h h'
end
/-- the items of a list, a tuple -/
def ItG (κ : Kd) (K : PySem.W.Frag) (a : Addr) : It := match κ with
  | .l => Itl K a
  | .t => Itt K a
theorem itG_stop {κ : Kd} {K : PySem.W.Frag} {a : Addr} {i : Nat} {H : Hp} {xs : List V} (h : SqK κ K H a xs) (hl : xs.length ≤ i) : (ItG κ K a).stop i H := by
  cases κ
  · exact ⟨xs, h, hl⟩
  · exact ⟨xs, h, hl⟩
theorem itG_go {κ : Kd} {K : PySem.W.Frag} {a : Addr} {i : Nat} {H : Hp} {xs : List V} {x : V} (h : SqK κ K H a xs) (hl : xs[i]? = some x) : (ItG κ K a).go i H := by
  cases κ
  · exact ⟨xs, x, h, hl⟩
  · exact ⟨xs, x, h, hl⟩
theorem itG_yld {κ : Kd} {K : PySem.W.Frag} {a : Addr} {i : Nat} {H H' : Hp} {xs : List V} {x : V} (h : SqK κ K H a xs) (y : (ItG κ K a).yld i H x H') : H' = H ∧ xs[i]? = some x := by
  cases κ
  · exact ⟨y.1, y.2 xs h⟩
  · exact ⟨y.1, y.2 xs h⟩
section
variable {X : Cx}
theorem pi_seq {tg e : Expr} {te : TE} (he : PE X e te) : PI X tg e (fun σ H R => te σ H fun x H1 => ∃ a κ xs, x = .ref a ∧ SqK κ X.K H1 a xs ∧ R (ItG κ X.K a) H1) := by
  refine ⟨fun pins s σ H R I h => ?_⟩
  refine thn (he.run pins s σ H _ I h) ?_
  rintro v s1 ⟨x, H1, I1, r1, a, κ, xs, ex, hq, q⟩
  subst ex
  cases r1
  have nf : ∀ b ∈ [s1.heap.objs.size], FpOk X pins H1 b := fun b hb => by
    have eb : b = s1.heap.objs.size := by simpa using hb
    rw [eb]
    exact I1.fpOk (Nat.le_refl _) (I1.hok.fresh (Nat.le_refl _))
  cases κ with
  | l =>
    obtain ⟨its, rv, p, hz⟩ := I1.list hq
    exact wpAny_pyIter_list p.isList ⟨_, _, _, _, H1, rfl, I1.kept (t' := s1.toks) (fun b o z => Heap.get?_push_of_some _ z), turn_list a _, ⟨_, Heap.get?_push_size _ rfl, rfl, rfl⟩, nf, q⟩
  | t =>
    obtain ⟨its, rv, p, hz⟩ := I1.tuple hq
    exact wpAny_pyIter_tuple (show s1.heap.IsTuple a its.toArray from p) ⟨_, _, _, _, H1, rfl, I1.kept (t' := s1.toks) (fun b o z => Heap.get?_push_of_some _ z), turn_tuple a _, ⟨_, Heap.get?_push_size _ rfl, rfl, rfl⟩, nf, q⟩
end
/-! ### a list or a tuple as it is seen by a mirror -/
/-- the items, and what is asked of the store so that they stay -/
def wkOf (d : D) (S : Sto) : Option Wk := match d with
  | .tup l => some ⟨l, fun _ => True⟩
  | .lst l => some ⟨l, fun _ => True⟩
  | .scr l => some ⟨l, fun _ => True⟩
  | .ref n => (match S[n]? with
    | some (.lst l) => some ⟨l, fun S' => S'[n]? = some (.lst l)⟩
    | none => none)
  | _ => none
theorem wk_sq {K : PySem.W.Frag} {m : Mp} {S : Sto} {H : Hp} {d : D} {v : V} {k : Wk} (w : WR K m S H) (r : DR K m H d v) (h : wkOf d S = some k) : k.gd S ∧ ∃ a κ, v = .ref a ∧
    ∀ (m' : Mp) (S' : Sto) (H' : Hp), Stw m H m' H' → WR K m' S' H' → k.gd S' → ∃ xs, SqK κ K H' a xs ∧ DRs K m' H' k.l xs := by
  cases r with
  | @tup a xs ds hq hs =>
    cases h
    refine ⟨trivial, a, .t, rfl, fun m' S' H' st w' _ => ⟨xs, ?_, hs.monw st⟩⟩
    exact sqt_of (m := m') (hq.elim (fun z => .inl (z.monw st)) .inr)
  | @lst a xs ds hq hn hs =>
    cases h
    exact ⟨trivial, a, .l, rfl, fun m' S' H' st w' _ => ⟨xs, SqL.of (st.keep _ _ hq hn), hs.monw st⟩⟩
  | @scr a xs ds hq hs =>
    cases h
    refine ⟨trivial, a, .l, rfl, fun m' S' H' st w' _ => ⟨xs, ?_, hs.monw st⟩⟩
    exact sql_of (m := m') (hq.elim (fun z => .inl (z.monw st)) .inr)
  | @ref n a hm =>
    unfold wkOf at h
    simp only at h
    split at h
    · rename_i l e
      cases h
      refine ⟨e, a, .l, rfl, fun m' S' H' st w' g => ?_⟩
      obtain ⟨xs, h1, h2⟩ := w'.at (st.mget hm) g
      exact ⟨xs, SqL.of h1, h2⟩
    · cases h
  | _ => cases h
def iSeq (f : FE) : FI := fun ρ S => match f ρ S with
  | some (d, S1) => (match wkOf d S1 with
    | some k => some (k, S1)
    | none => none)
  | none => none
section
variable {X : Cx}
theorem si_seq {tg e : Expr} {f : FE} (h : SE X e f) : SI X tg e (iSeq f) := by
  obtain ⟨t, p, ht⟩ := h.ex
  refine ⟨_, pi_seq p, fun m S H ρ σ R k S' w er h q => ?_⟩
  unfold iSeq at h
  split at h
  · rename_i d S1 e1
    split at h
    · rename_i k' e2
      cases h
      refine ht m S H ρ σ _ d S' w er e1 fun v m1 H1 st1 w1 r1 => ?_
      obtain ⟨g0, a, κ, ev, sq⟩ := wk_sq w1 r1 e2
      obtain ⟨xs0, q0, _⟩ := sq m1 S' H1 Stp.refl.w w1 g0
      refine ⟨a, κ, xs0, ev, q0, q _ m1 H1 st1 w1 fun i m2 S2 H2 st2 w2 gd => ?_⟩
      obtain ⟨xs, qs, rs⟩ := sq m2 S2 H2 st2 w2 gd
      refine ⟨fun hl => itG_stop qs (by rw [← rs.length]; exact Nat.le_of_eq hl), fun d hd => ?_⟩
      obtain ⟨v, hv, rv⟩ := rs.get hd
      refine ⟨itG_go qs hv, fun x H' y => ?_⟩
      obtain ⟨eH, hx⟩ := itG_yld qs y
      subst eH
      rw [hv] at hx
      cases hx
      exact ⟨.refl, w2, rv⟩
    · cases h
  · cases h
/-! ### range -/
def rangeL (lo : Int) (n : Nat) : List D := (List.range n).map fun (i : Nat) => D.int (lo + (i : Int))
noncomputable def iRan1 (f : FE) : FI := fun ρ S => match f ρ S with
  | some (.int j, S1) => if cl (-(2 ^ 62) ≤ j ∧ j < 2 ^ 62) = true then some (⟨rangeL 0 j.toNat, fun _ => True⟩, S1) else none
  | _ => none
noncomputable def iRan2 (f g : FE) : FI := fun ρ S => match f ρ S with
  | some (.int i, S1) => (match g ρ S1 with
    | some (.int j, S2) => if cl (-(2 ^ 62) ≤ i ∧ i < 2 ^ 62 ∧ -(2 ^ 62) ≤ j ∧ j < 2 ^ 62) = true then some (⟨rangeL i (j - i).toNat, fun _ => True⟩, S2) else none
    | _ => none)
  | _ => none
theorem wk_range {K : PySem.W.Frag} {lo : Int} {n : Nat} {m : Mp} {H : Hp} : WkR K ⟨rangeL lo n, fun _ => True⟩ (Itr lo n) m H := by
  intro i m1 S1 H1 _ w1 _
  refine ⟨fun hl => ?_, fun d hd => ?_⟩
  · show n ≤ i
    simp [rangeL] at hl
    omega
  · unfold rangeL at hd
    simp only [List.getElem?_map] at hd
    cases q : (List.range n)[i]? with
    | none => rw [q] at hd; cases hd
    | some j =>
      rw [q] at hd
      obtain ⟨h1, h2⟩ := List.getElem?_eq_some_iff.mp q
      have hj : j = i := by simpa using h2.symm
      subst hj
      have e : D.int (lo + (j : Int)) = d := Option.some.inj hd
      subst e
      refine ⟨show j < n by simpa using h1, fun x H' y => ?_⟩
      obtain ⟨e1, e2⟩ := y
      subst e1 e2
      exact ⟨.refl, w1, .int _⟩
theorem si_range1 {tg a : Expr} {p pos : Pos} {f : FE} (hm : X.mg "range" = none) (h : SE X a f) (hg : Gl X "range") (hs : starEach [a] X.env = [(false, eval a X.env)] := by rfl) : SI X tg (.Call (.Name "range" p) [a] [] pos) (iRan1 f) := by
  obtain ⟨t, pt, ht⟩ := h.ex
  refine ⟨_, pi_range1 hg hm (pa_cons pt pa_nil hs) hs, fun m S H ρ σ R k S' w er h q => ?_⟩
  unfold iRan1 at h
  split at h
  · rename_i j S1 e1
    split at h
    · rename_i hb
      have hb := cl_iff.mp hb
      cases h
      refine ht m S H ρ σ _ _ S' w er e1 fun v m1 H1 st1 w1 r1 => ?_
      cases r1
      exact ⟨j, rfl, hb.1, hb.2, q _ m1 H1 st1 w1 wk_range⟩
    · cases h
  · cases h
theorem si_range2 {tg a b : Expr} {p pos : Pos} {f g : FE} (hm : X.mg "range" = none) (ha : SE X a f) (hb : SE X b g) (hg : Gl X "range") (hs : starEach [b] X.env = [(false, eval b X.env)] := by rfl) (hs2 : starEach [a, b] X.env = (false, eval a X.env) :: starEach [b] X.env := by rfl) : SI X tg (.Call (.Name "range" p) [a, b] [] pos) (iRan2 f g) := by
  obtain ⟨t, pt, ht⟩ := ha.ex
  obtain ⟨u, pu, hu⟩ := hb.ex
  refine ⟨_, pi_range2 hg hm (pa_cons pt (pa_cons pu pa_nil hs) hs2) (hs2.trans (by rw [hs])) hs, fun m S H ρ σ R k S' w er h q => ?_⟩
  unfold iRan2 at h
  split at h
  · rename_i i S1 e1
    split at h
    · rename_i j S2 e2
      split at h
      · rename_i hbd
        have hbd := cl_iff.mp hbd
        cases h
        refine ht m S H ρ σ _ _ S1 w er e1 fun v m1 H1 st1 w1 r1 => ?_
        refine hu m1 S1 H1 ρ σ _ _ S' w1 (er.mono st1) e2 fun v2 m2 H2 st2 w2 r2 => ?_
        cases r1
        cases r2
        exact ⟨i, j, rfl, hbd, q _ m2 H2 (st1.trans st2) w2 wk_range⟩
      · cases h
    · cases h
  · cases h
end
/-! ### enumerate -/
def IteK (κ : Kd) (K : PySem.W.Frag) (a : Addr) : It :=
  ⟨fun i H => ∃ (xs : List V) (x : V), SqK κ K H a xs ∧ xs[i]? = some x, fun i H v H' => ∃ T x, v = .ref T ∧ H T = none ∧ H' = upd H T (.tup [.int (i : Nat), x]) ∧ ∀ xs, SqK κ K H a xs → xs[i]? = some x, fun i H => ∃ xs : List V, SqK κ K H a xs ∧ xs.length = i⟩
theorem tracked_ne {X : Cx} {pins : List (Addr × Obj)} {σ : L2.St} {H : Hp} {s : Shared} {κ : Kd} {a it : Addr} {i : Nat} {b : Addr} {its : Array Value} (I : Inv X pins σ H s) (p : IsK κ s.heap a its) (q : ItK κ s.heap it b i) : a ≠ it := by
  intro e
  subst e
  cases κ
  · obtain ⟨o, e1, c1, _⟩ := p
    obtain ⟨o2, e2, c2, _⟩ := q
    rw [e1] at e2; cases e2; rw [c1] at c2; exact absurd c2 (by decide)
  · obtain ⟨o, e1, c1, _⟩ := p
    obtain ⟨o2, e2, c2, _⟩ := q
    rw [e1] at e2; cases e2; rw [c1] at c2; exact absurd c2 (by decide)
theorem turn_enumK {P : Program} {w : World} {K : PySem.W.Frag} {elts : List Expr} {kk : Nat} {tpos : Pos} (κ : Kd) (a e it : Addr) :
    Turn P w K (.Tuple elts kk tpos) (IteK κ K a) [e, it] e (fun i h => (∃ old, IsEnum h e it ((i : Nat) : Int) old) ∧ ItK κ h it a i ∧ e ≠ it) where
  mem := by simp
  obj := fun i h ⟨⟨old, he⟩, hi, _⟩ b hb => by
    have e' : b = e ∨ b = it := by simpa using hb
    rcases e' with rfl | rfl
    · exact ⟨_, he, fun v q => nomatch q⟩
    · exact itK_obj hi
  keep := fun i h h' ⟨⟨old, he⟩, hi, hne⟩ k => ⟨⟨old, k e (by simp) _ he⟩, itK_at hi fun o q => k it (by simp) o q, hne⟩
  item := by
    intro X hP hw hK hc i pins s σ H E I hf ⟨⟨old, he⟩, hit, hne⟩ ⟨xs, x, hq, hx⟩
    subst hP hw hK
    obtain ⟨its, rv, p, hz⟩ := sq_get I hq
    obtain ⟨u, hu, ru⟩ := rv.get hx
    have hel : e < s.heap.objs.size := Heap.lt_size he
    have hai : a ≠ it := tracked_ne I p hit
    have hae : e ∉ [it, a] := by
      simp only [List.mem_cons, List.not_mem_nil, or_false, not_or]
      refine ⟨hne, fun z => ?_⟩
      subst z
      cases κ
      · obtain ⟨o, e1, c1, _⟩ := p
        have he : s.heap.get? e = some _ := he
        rw [he] at e1; cases e1; exact absurd (show Value.type "enumerate" = .type "list" from c1) (by decide)
      · obtain ⟨o, e1, c1, _⟩ := p
        have he : s.heap.get? e = some _ := he
        rw [he] at e1; cases e1; exact absurd (show Value.type "enumerate" = .type "tuple" from c1) (by decide)
    have hlt : i < its.toArray.size := by
      rw [List.size_toArray]
      exact (List.getElem?_eq_some_iff.mp hu).1
    refine wpAny_pyNext_enum_itemC (draws_K (A := X.A.in1) (I.ok.hd hc) κ it a hai its.toArray) he ⟨hit, p⟩ hlt hne hae fun u' h' tk hP' ho hS hT hsz hk => ?_
    have eu : u' = u := by
      have hP' : its.toArray[i]? = some u' := hP'
      rw [List.getElem?_toArray] at hP'
      exact Option.some.inj (hP'.symm.trans hu)
    subst eu
    refine ⟨_, rfl, wpAny_letOwnedTupleGo_enum (s := { s with heap := h', toks := tk + 1 }) ho fun h'' he' sb => ?_⟩
    have hT2 : h''.get? s.heap.objs.size = some { cls := .type "tuple", data := .seq #[.int i tk, u'] } := (sb.2 _ (Nat.ne_of_gt hel)).trans hT
    have new : ObjOk X.prog X.w (upd H s.heap.objs.size (.tup [.int (i : Nat), x])) h'' s.heap.objs.size (.tup [.int (i : Nat), x]) :=
      ⟨by show 2 ≤ sizeLine; decide, [.int i tk, u'], .cons ⟨_, rfl⟩ (.cons ru .nil), ⟨_, hT2, rfl, _, rfl⟩⟩
    have I1 : Inv X pins σ (upd H s.heap.objs.size (.tup [.int (i : Nat), x])) { s with heap := h'', toks := tk + 1 } :=
      I.turnedNew (ch := [e, it]) (fun b ob hb q => (sb.2 b (fun z => hb (by simp [z]))).trans (hk b ob (fun z => hb (by simp [z])) (fun z => hb (by simp [z])) q)) hf (Nat.le_refl _) new
    have itl : it < s.heap.objs.size := by obtain ⟨o, q, _⟩ := itK_obj hit; exact Heap.lt_size q
    refine ⟨.ref s.heap.objs.size, _, I1, rfl, ⟨_, x, rfl, I.hok.fresh (Nat.le_refl _), rfl, fun ys hy => by rw [sq_inj I hy hq]; exact hx⟩, ⟨⟨u', ?_⟩, itK_at hS.1 fun o q => (sb.2 it (Ne.symm hne)).trans q, hne⟩, fun b hb => ?_⟩
    · have e1 : ((i + 1 : Nat) : Int) = (i : Int) + 1 := by omega
      rw [e1]; exact he'
    · have e' : b = e ∨ b = it := by simpa using hb
      rw [upd_ne]
      · exact (hf b hb).1
      · rcases e' with rfl | rfl
        · exact Nat.ne_of_lt hel
        · exact Nat.ne_of_lt itl
  done := by
    intro X hP hw hK hc i pins s σ H E I hf ⟨⟨old, he⟩, hit, hne⟩ ⟨xs, hq, hx⟩
    subst hP hw hK
    obtain ⟨its, rv, p, hz⟩ := sq_get I hq
    obtain ⟨f0, f1, f2, f3, f4, f5⟩ := hf it (by simp)
    have hai : a ≠ it := tracked_ne I p hit
    have en : its.toArray.size = i := by rw [List.size_toArray, ← rv.length]; exact hx
    have D := draws_K (prog := X.prog) (w := X.w) (A := X.A.in1) (I.ok.hd hc) κ it a hai its.toArray
    rw [en] at D
    exact wpAny_pyNext_enum_endD D he ⟨hit, p⟩ fun h' eb => ⟨rfl, I.turned (t' := s.toks) (fun b o hb q => eb b o hb q) f0 f1 f3 f4 f5⟩
  self := fun A i s Q E ⟨⟨_, he⟩, _⟩ h => wpAny_pyIter_enum he h
theorem meets_enum1 {v : Value} {o : Obj} {H : Heap → Prop} (B : Begins v o H) :
    Meets (Builtin.«enumerate.__new__» ⟨[.type "enumerate", v], []⟩) (fun _ R s => H s.heap ∧
      R (.ok (.ret (.ref (s.heap.push o).objs.size))) { s with heap := (s.heap.push o).push { cls := .type "enumerate", data := .fields #[.none, .bool false, .ref s.heap.objs.size, rawInt 0, .none, .none] } }) :=
  .of_wp fun prog w A R s h => by
    obtain ⟨hp, g, d, tk, os⟩ := s
    obtain ⟨h1, h⟩ := h
    have sub := sub_enumerate
    have it : ∀ {A' : Around} {E : Value → Shared → Prop} {Q : Value → Shared → Prop}, Q (.ref hp.objs.size) ⟨hp.push o, g, d, tk, os⟩ → wpAny (model prog w) A' (pyIter v) Q E ⟨hp, g, d, tk, os⟩ := by
      intro A' E Q q
      exact B.iter prog w _ _ ⟨hp, g, d, tk, os⟩ _ h1 q
    wp_walk using it
    refine wpAny_stack_any fun st => wpAny_pure ?_
    split
    · rename_i c _ _ _ _ _
      cases (c == Value.type "enumerate") <;> (wp_walk using it; exact ⟨_, rfl, h⟩)
    · wp_walk using it
      exact ⟨_, rfl, h⟩
section
variable {prog : Program} {w : World} {A : Around} {E : Value → Shared → Prop} {s : Shared}
theorem call_enumK {κ : Kd} {a : Addr} {its : Array Value} {Q : Value → Shared → Prop} (h1 : IsK κ s.heap a its)
    (h : ∀ h', IsEnum h' (s.heap.objs.size + 1) s.heap.objs.size 0 .none → ItK κ h' s.heap.objs.size a 0 → (∀ b o, s.heap.get? b = some o → h'.get? b = some o) → Q (.ref (s.heap.objs.size + 1)) { s with heap := h' }) :
    wpAny (model prog w) A (call (.type "enumerate") [.ref a]) Q E s := by
  refine callType_new F.called_enumerate (by decide) (F.typeCall_enumerate_1 _) (F.newCall_enumerate_1 _) (fun obj => F.args_object_init_2 obj _) F.entry_enumerate_new (meets_enum1 (begins_K κ a its)) ⟨h1, ?_⟩
  have hz : (s.heap.push (itO κ a)).objs.size = s.heap.objs.size + 1 := Heap.size_push ..
  show _ ∧ _
  rw [hz]
  have he : IsEnum ((s.heap.push (itO κ a)).push { cls := .type "enumerate", data := .fields #[.none, .bool false, .ref s.heap.objs.size, rawInt 0, .none, .none] }) (s.heap.objs.size + 1) s.heap.objs.size 0 .none := by
    have q := Heap.get?_push_size (s.heap.push (itO κ a)) (o := { cls := .type "enumerate", data := .fields #[.none, .bool false, .ref s.heap.objs.size, rawInt 0, .none, .none] }) rfl
    rw [hz] at q
    exact q
  exact ⟨⟨_, he, rfl⟩, h _ he (itK_new (Heap.get?_push_of_some _ (Heap.get?_push_size _ (itO_free κ a)))) fun b o x => Heap.get?_push_of_some _ (Heap.get?_push_of_some _ x)⟩
end
section
variable {X : Cx}
theorem pi_enumK {e : Expr} {ta : TA} {p pos tpos : Pos} {elts : List Expr} {kk : Nat} (hg : Gl X "enumerate") (hm : X.mg "enumerate" = none) (he : PA X [e] ta) (hs : starEach [e] X.env = [(false, eval e X.env)] := by rfl) :
    PI X (.Tuple elts kk tpos) (.Call (.Name "enumerate" p) [e] [] pos) (fun σ H R => ta σ H fun vs H1 => ∃ a κ xs, vs = [.ref a] ∧ SqK κ X.K H1 a xs ∧ R (IteK κ X.K a) H1) := by
  refine ⟨fun pins s σ H R I h => ?_⟩
  refine Call_ (ld_blt I hg hm boot_enumerate (PyProof.Rows.callWith_type1 (thn (he.run pos pins s σ H _ I h) ?_) hs rfl))
  rintro us s1 ⟨vs, H1, I1, r1, a, κ, xs, ex, hq, q⟩
  subst ex
  obtain ⟨u, rfl, ru⟩ := vals1 r1
  cases ru
  obtain ⟨its, rv, p', hz⟩ := sq_get I1 hq
  refine call_enumK p' fun h' he' hit hk => wpAny_pyIter_enum he' ?_
  have fr : ∀ b ∈ [s1.heap.objs.size + 1, s1.heap.objs.size], FpOk X pins H1 b := fun b hb => by
    have e' : b = s1.heap.objs.size + 1 ∨ b = s1.heap.objs.size := by simpa using hb
    have hle : s1.heap.objs.size ≤ b := by
      rcases e' with z | z
      · rw [z]; exact Nat.le_succ _
      · rw [z]; exact Nat.le_refl _
    exact I1.fpOk hle (I1.hok.fresh hle)
  exact ⟨_, _, _, _, H1, rfl, I1.kept (t' := s1.toks) hk, turn_enumK κ a (s1.heap.objs.size + 1) s1.heap.objs.size, ⟨⟨.none, he'⟩, hit, Nat.succ_ne_self _⟩, fr, q⟩
def enumL (l : List D) : List D := l.mapIdx fun (i : Nat) d => D.tup [.int (i : Int), d]
def iEnu (f : FE) : FI := fun ρ S => match f ρ S with
  | some (d, S1) => (match wkOf d S1 with
    | some k => some (⟨enumL k.l, k.gd⟩, S1)
    | none => none)
  | none => none
theorem si_enum {e : Expr} {f : FE} {p pos tpos : Pos} {elts : List Expr} {kk : Nat} (hm : X.mg "enumerate" = none) (h : SE X e f) (hg : Gl X "enumerate") (hs : starEach [e] X.env = [(false, eval e X.env)] := by rfl) :
    SI X (.Tuple elts kk tpos) (.Call (.Name "enumerate" p) [e] [] pos) (iEnu f) := by
  obtain ⟨t, pt, ht⟩ := h.ex
  refine ⟨_, pi_enumK hg hm (pa_cons pt pa_nil hs) hs, fun m S H ρ σ R k S' w er h q => ?_⟩
  unfold iEnu at h
  split at h
  · rename_i d S1 e1
    split at h
    · rename_i k' e2
      cases h
      refine ht m S H ρ σ _ d S' w er e1 fun v m1 H1 st1 w1 r1 => ?_
      obtain ⟨g0, a, κ, ev, sq⟩ := wk_sq w1 r1 e2
      obtain ⟨xs0, q0, _⟩ := sq m1 S' H1 Stp.refl.w w1 g0
      subst ev
      refine ⟨a, κ, xs0, rfl, q0, q _ m1 H1 st1 w1 fun i m2 S2 H2 st2 w2 gd => ?_⟩
      obtain ⟨xs, qs, rs⟩ := sq m2 S2 H2 st2 w2 gd
      refine ⟨fun hl => ⟨xs, qs, ?_⟩, fun d hd => ?_⟩
      · have hl : (enumL k'.l).length = i := hl
        unfold enumL at hl
        rw [List.length_mapIdx] at hl
        rw [← rs.length]
        exact hl
      · have hd : (enumL k'.l)[i]? = some d := hd
        unfold enumL at hd
        rw [List.getElem?_mapIdx] at hd
        cases hk : k'.l[i]? with
        | none => rw [hk] at hd; cases hd
        | some d0 =>
          rw [hk] at hd
          have ed : D.tup [.int (i : Int), d0] = d := Option.some.inj hd
          subst ed
          obtain ⟨v, hv, rv⟩ := rs.get hk
          refine ⟨⟨xs, v, qs, hv⟩, fun x H' y => ?_⟩
          obtain ⟨T, z, ex, hT, eH, hz⟩ := y
          subst ex
          subst eH
          have ez := hz xs qs
          rw [hv] at ez
          cases ez
          exact ⟨stp_new hT, wr_new w2 hT, .tup (.inl (fz_new w2 hT)) (.cons (.int _) (.cons (rv.mono (stp_new hT)) .nil))⟩
    · cases h
  · cases h
end
end Nw
namespace Nw
open PySem PySem.Spec PyProof.Rows L2
/-! ### values as plain data -/
def keyPy : Key → PyData
  | .inl i => .int i
  | .inr x => .str x
mutual
def toPy : D → PyData
  | .non => .none
  | .bl b => .bool b
  | .int i => .int i
  | .str x => .str x
  | .ty _ => .none
  | .tup l => .tuple (toPys l)
  | .lst l => .list (toPys l)
  | .scr l => .list (toPys l)
  | .dct ks l => .dict ((ks.map keyPy).zip (toPys l))
  | .ref _ => .none
def toPys : List D → List PyData
  | [] => []
  | d :: l => toPy d :: toPys l
end
mutual
/-- no dict, no class, no cell within -/
def isDp : D → Bool
  | .ty _ => false
  | .ref _ => false
  | .dct _ _ => false
  | .tup l => isDps l
  | .lst l => isDps l
  | .scr l => isDps l
  | .non => true
  | .bl _ => true
  | .int _ => true
  | .str _ => true
def isDps : List D → Bool
  | [] => true
  | d :: l => isDp d && isDps l
end
theorem toPys_map : ∀ l : List D, toPys l = l.map toPy
  | [] => by simp [toPys]
  | d :: l => by simp [toPys, toPys_map l]
theorem isDps_all : ∀ l : List D, isDps l = l.all isDp
  | [] => by simp [isDps]
  | d :: l => by simp [isDps, isDps_all l]
section
variable {K : PySem.W.Frag} {m : Mp} {H : Hp}
mutual
theorem DR.dp : ∀ {d : D} {v : V}, DR K m H d v → isDp d = true → Dp K H v (toPy d)
  | _, _, .non, _ => by simp only [toPy]; exact .non
  | _, _, .bl b, _ => by simp only [toPy]; exact .bl b
  | _, _, .int i, _ => by simp only [toPy]; exact .int i
  | _, _, .str x, _ => by simp only [toPy]; exact .str x
  | _, _, .ty n, h => by simp [isDp] at h
  | _, _, .tup h1 hs, h => by
    simp only [toPy]
    exact .tup (sqt_of h1) (DRs.dp hs (by simpa [isDp] using h))
  | _, _, .lst h1 _ hs, h => by
    simp only [toPy]
    exact .lst (SqL.of h1) (DRs.dp hs (by simpa [isDp] using h))
  | _, _, .scr h1 hs, h => by
    simp only [toPy]
    exact .lst (sql_of h1) (DRs.dp hs (by simpa [isDp] using h))
  | _, _, .dct _ _ _ _, h => by simp [isDp] at h
  | _, _, .ref _, h => by simp [isDp] at h
theorem DRs.dp : ∀ {ds : List D} {vs : List V}, DRs K m H ds vs → isDps ds = true → DpAll K H vs (toPys ds)
  | _, _, .nil, _ => by simp only [toPys]; exact .nil
  | _, _, .cons h1 hs, h => by
    simp only [isDps, Bool.and_eq_true] at h
    simp only [toPys]
    exact .cons (DR.dp h1 h.1) (DRs.dp hs h.2)
end
end
/-- a cell of the store is read as the list that it holds -/
def rdD (S : Sto) (d : D) : D := match d with
  | .ref n => (match S[n]? with
    | some (.lst l) => .lst l
    | none => .ref n)
  | d => d
theorem rd_dp {K : PySem.W.Frag} {m : Mp} {S : Sto} {H : Hp} {d : D} {v : V} (w : WR K m S H) (r : DR K m H d v) (h : isDp (rdD S d) = true) : Dp K H v (toPy (rdD S d)) := by
  cases d with
  | ref n =>
    unfold rdD at h ⊢
    simp only at h ⊢
    split at h
    · rename_i l e
      cases r with
      | ref hm =>
        obtain ⟨xs, h1, h2⟩ := w.at hm e
        simp only [toPy]
        exact .lst (SqL.of h1) (h2.dp (by simpa [isDp] using h))
    · simp [isDp] at h
  | _ => exact r.dp h
/-! ### == and !=, in -/
def okD (d : D) : Bool := isDp d && SeqAt.shaped (toPy d)
def eqD (x y : D) : Bool := PyData.eqv (toPy x) (toPy y)
noncomputable def dEq : D → D → Mo D := fun x y S => match x, y with
  | .int i, .int j => some (.bl (cl (i = j)), S)
  | .str i, .str j => some (.bl (decide (i = j)), S)
  | .bl i, .bl j => some (.bl (decide (i = j)), S)
  | x, y => if cl ((okD (rdD S x) && okD (rdD S y)) = true) = true then some (.bl (eqD (rdD S x) (rdD S y)), S) else none
noncomputable def dNe : D → D → Mo D := fun x y S => match x, y with
  | .int i, .int j => some (.bl (!cl (i = j)), S)
  | .str i, .str j => some (.bl (!decide (i = j)), S)
  | .bl i, .bl j => some (.bl (!decide (i = j)), S)
  | x, y => if cl ((okD (rdD S x) && okD (rdD S y)) = true) = true then some (.bl (!eqD (rdD S x) (rdD S y)), S) else none
theorem okD_split {d : D} (h : okD d = true) : isDp d = true ∧ SeqAt.shaped (toPy d) = true := by
  unfold okD at h
  simpa using h
def rEqX (K : PySem.W.Frag) : R2 := fun x y H Q => rEq x y H Q ∨ rEqD K x y H Q
def rNeX (K : PySem.W.Frag) : R2 := fun x y H Q => rNe x y H Q ∨ rNeD K x y H Q
theorem pv_here {K : PySem.W.Frag} {m : Mp} {S : Sto} {H : Hp} {d : D} {v : V} {Q : VK} (w : WR K m S H) (r : DR K m H d v) (q : PV K m H d S Q) : Q v H := q v m H .refl w r
theorem opd_eq {K : PySem.W.Frag} : OpD K (rEqX K) dEq := by
  intro m S H x y v u d S' Q w rx ry h q
  have deep : (if cl ((okD (rdD S x) && okD (rdD S y)) = true) = true then some (D.bl (eqD (rdD S x) (rdD S y)), S) else none) = some (d, S') → rEqD K v u H Q := by
    intro h
    split at h
    · rename_i hc
      rw [cl_iff, Bool.and_eq_true] at hc
      obtain ⟨a1, a2⟩ := okD_split hc.1
      obtain ⟨b1, b2⟩ := okD_split hc.2
      cases h
      exact ⟨_, _, rd_dp w rx a1, rd_dp w ry b1, a2, b2, pv_here w (.bl _) q⟩
    · cases h
  unfold dEq at h
  split at h
  · cases h
    cases rx
    cases ry
    refine .inl ⟨rfl, ?_⟩
    rename_i i j
    have e : decide (V.int i = V.int j) = cl (i = j) := by rw [cl_dec]; simp
    rw [e]
    exact pv_here w (.bl _) q
  · cases h
    cases rx
    cases ry
    refine .inl ⟨rfl, ?_⟩
    rename_i i j
    have e : decide (V.str i = V.str j) = decide (i = j) := by simp
    rw [e]
    exact pv_here w (.bl _) q
  · cases h
    cases rx
    cases ry
    refine .inl ⟨rfl, ?_⟩
    rename_i i j
    have e : decide (V.bl i = V.bl j) = decide (i = j) := by simp
    rw [e]
    exact pv_here w (.bl _) q
  · exact .inr (deep h)
theorem opd_ne {K : PySem.W.Frag} : OpD K (rNeX K) dNe := by
  intro m S H x y v u d S' Q w rx ry h q
  have deep : (if cl ((okD (rdD S x) && okD (rdD S y)) = true) = true then some (D.bl (!eqD (rdD S x) (rdD S y)), S) else none) = some (d, S') → rNeD K v u H Q := by
    intro h
    split at h
    · rename_i hc
      rw [cl_iff, Bool.and_eq_true] at hc
      obtain ⟨a1, a2⟩ := okD_split hc.1
      obtain ⟨b1, b2⟩ := okD_split hc.2
      cases h
      exact ⟨_, _, rd_dp w rx a1, rd_dp w ry b1, a2, b2, pv_here w (.bl _) q⟩
    · cases h
  unfold dNe at h
  split at h
  · cases h
    cases rx
    cases ry
    refine .inl ⟨rfl, ?_⟩
    rename_i i j
    have e : decide (V.int i = V.int j) = cl (i = j) := by rw [cl_dec]; simp
    rw [e]
    exact pv_here w (.bl _) q
  · cases h
    cases rx
    cases ry
    refine .inl ⟨rfl, ?_⟩
    rename_i i j
    have e : decide (V.str i = V.str j) = decide (i = j) := by simp
    rw [e]
    exact pv_here w (.bl _) q
  · cases h
    cases rx
    cases ry
    refine .inl ⟨rfl, ?_⟩
    rename_i i j
    have e : decide (V.bl i = V.bl j) = decide (i = j) := by simp
    rw [e]
    exact pv_here w (.bl _) q
  · exact .inr (deep h)
/-- x in a list or a tuple -/
def inD (x : D) (l : List D) : Bool := l.any fun z => PyData.eqv (toPy z) (toPy x)
noncomputable def dIn : D → D → Mo D := fun x y S => match wkOf y S with
  | some k => if cl ((okD (rdD S x) && (isDps k.l && SeqAt.shaped (.list (toPys k.l)))) = true) = true then some (.bl (inD (rdD S x) k.l), S) else none
  | none => none
noncomputable def dNotIn : D → D → Mo D := fun x y S => match wkOf y S with
  | some k => if cl ((okD (rdD S x) && (isDps k.l && SeqAt.shaped (.list (toPys k.l)))) = true) = true then some (.bl (!inD (rdD S x) k.l), S) else none
  | none => none
def rInX (K : PySem.W.Frag) (neg : Bool) : R2 := fun x y H Q => ∃ (d : PyData) (ds : List PyData) (a : Addr) (κ : Kd) (xs : List V), y = .ref a ∧ Dp K H x d ∧ SqK κ K H a xs ∧ DpAll K H xs ds ∧ SeqAt.shaped d = true ∧ SeqAt.shaped (.list ds) = true ∧ Q (.bl (if neg then !ds.any fun z => PyData.eqv z d else ds.any fun z => PyData.eqv z d)) H
theorem op_inX {X : Cx} (hu : X.A.units + 65 < cLine) : OpR X (compareOp .In) (rInX X.K false) := by
  intro pins s σ H x y v u Q I rx ry h
  obtain ⟨d, ds, a, κ, xs, rfl, hd, hq, ha, sd, se, q⟩ := h
  obtain ⟨as, r1⟩ := Dp.reads I d x v hd rx
  cases κ with
  | l =>
    obtain ⟨bs, r2⟩ := Dp.reads I (.list ds) _ u (.lst hq ha) ry
    exact SeqAt.in_list_reads r2 r1 (SeqAt.canLay_of_shaped se) (SeqAt.canLay_of_shaped sd) (room_in_shaped sd hu) ⟨.bl _, H, I, rfl, q⟩
  | t =>
    obtain ⟨bs, r2⟩ := Dp.reads I (.tuple ds) _ u (.tup hq ha) ry
    exact SeqAt.in_tuple_reads r2 r1 (SeqAt.canLay_of_shaped se) (SeqAt.canLay_of_shaped sd) (room_in_shaped sd hu) ⟨.bl _, H, I, rfl, q⟩
theorem op_notInX {X : Cx} (hu : X.A.units + 65 < cLine) : OpR X (compareOp .NotIn) (rInX X.K true) := by
  intro pins s σ H x y v u Q I rx ry h
  obtain ⟨d, ds, a, κ, xs, rfl, hd, hq, ha, sd, se, q⟩ := h
  obtain ⟨as, r1⟩ := Dp.reads I d x v hd rx
  cases κ with
  | l =>
    obtain ⟨bs, r2⟩ := Dp.reads I (.list ds) _ u (.lst hq ha) ry
    exact SeqAt.notIn_list_reads r2 r1 (SeqAt.canLay_of_shaped se) (SeqAt.canLay_of_shaped sd) (room_in_shaped sd hu) ⟨.bl _, H, I, rfl, q⟩
  | t =>
    obtain ⟨bs, r2⟩ := Dp.reads I (.tuple ds) _ u (.tup hq ha) ry
    exact SeqAt.notIn_tuple_reads r2 r1 (SeqAt.canLay_of_shaped se) (SeqAt.canLay_of_shaped sd) (room_in_shaped sd hu) ⟨.bl _, H, I, rfl, q⟩
theorem any_toPys (x : PyData) : ∀ l : List D, (toPys l).any (fun z => PyData.eqv z x) = l.any fun z => PyData.eqv (toPy z) x
  | [] => by simp [toPys]
  | d :: l => by simp [toPys, any_toPys x l]
theorem opd_in {K : PySem.W.Frag} : OpD K (rInX K false) dIn := by
  intro m S H x y v u d S' Q w rx ry h q
  unfold dIn at h
  split at h
  · rename_i k e
    split at h
    · rename_i hc
      rw [cl_iff, Bool.and_eq_true, Bool.and_eq_true] at hc
      obtain ⟨a1, a2⟩ := okD_split hc.1
      cases h
      obtain ⟨g0, a, κ, ev, sq⟩ := wk_sq w ry e
      obtain ⟨xs, hq, rs⟩ := sq m S H Stp.refl.w w g0
      refine ⟨_, _, a, κ, xs, ev, rd_dp w rx a1, hq, rs.dp hc.2.1, a2, hc.2.2, ?_⟩
      rw [if_neg Bool.false_ne_true, any_toPys]
      exact pv_here w (.bl _) q
    · cases h
  · cases h
theorem opd_notIn {K : PySem.W.Frag} : OpD K (rInX K true) dNotIn := by
  intro m S H x y v u d S' Q w rx ry h q
  unfold dNotIn at h
  split at h
  · rename_i k e
    split at h
    · rename_i hc
      rw [cl_iff, Bool.and_eq_true, Bool.and_eq_true] at hc
      obtain ⟨a1, a2⟩ := okD_split hc.1
      cases h
      obtain ⟨g0, a, κ, ev, sq⟩ := wk_sq w ry e
      obtain ⟨xs, hq, rs⟩ := sq m S H Stp.refl.w w g0
      refine ⟨_, _, a, κ, xs, ev, rd_dp w rx a1, hq, rs.dp hc.2.1, a2, hc.2.2, ?_⟩
      rw [if_pos rfl, any_toPys]
      exact pv_here w (.bl _) q
    · cases h
  · cases h
/-! ### ints -/
def MulOk (i j : Int) : Prop := ((-(2 ^ 64) < i ∧ i < 2 ^ 64) ∨ (-(2 ^ 64) < j ∧ j < 2 ^ 64)) ∨ i.natAbs.log2 + j.natAbs.log2 < 1000000
noncomputable def dI (C : Int → Int → Prop) (g : Int → Int → D) : D → D → Mo D := fun x y S => match x, y with
  | .int i, .int j => if cl (C i j) = true then some (g i j, S) else none
  | _, _ => none
def dI0 (g : Int → Int → D) : D → D → Mo D := fun x y S => match x, y with
  | .int i, .int j => some (g i j, S)
  | _, _ => none
noncomputable def dMul : D → D → Mo D := dI MulOk fun i j => .int (i * j)
def dSub : D → D → Mo D := dI0 fun i j => .int (i - j)
noncomputable def dFdiv : D → D → Mo D := dI (fun _ j => 0 < j ∧ j.natAbs.log2 < 9000) fun i j => .int (i / j)
noncomputable def dMod : D → D → Mo D := dI (fun _ j => 0 < j) fun i j => .int (i % j)
noncomputable def dPow : D → D → Mo D := dI (fun i j => 0 ≤ j ∧ j ≤ 1000000 ∧ i.natAbs < 2 ^ 64) fun i j => .int (i ^ j.toNat)
noncomputable def dLt : D → D → Mo D := dI0 fun i j => .bl (cl (i < j))
noncomputable def dLe : D → D → Mo D := dI0 fun i j => .bl (cl (i ≤ j))
noncomputable def dGt : D → D → Mo D := dI0 fun i j => .bl (cl (j < i))
noncomputable def dGe : D → D → Mo D := dI0 fun i j => .bl (cl (j ≤ i))
theorem opd_dI {K : PySem.W.Frag} {C : Int → Int → Prop} {C' : Int → Int → Prop} {g : Int → Int → D} {gV : Int → Int → V} (hc : ∀ i j, C i j → C' i j) (hg : ∀ m H i j, DR K m H (g i j) (gV i j)) : OpD K (rI C' gV) (dI C g) := by
  intro m S H x y v u d S' Q w rx ry h q
  unfold dI at h
  split at h
  · rename_i i j
    split at h
    · rename_i c
      cases h
      cases rx
      cases ry
      exact ⟨i, j, rfl, rfl, hc i j (cl_iff.mp c), pv_here w (hg m H i j) q⟩
    · cases h
  · cases h
theorem opd_dI0 {K : PySem.W.Frag} {g : Int → Int → D} {gV : Int → Int → V} (hg : ∀ m H i j, DR K m H (g i j) (gV i j)) : OpD K (rI0 gV) (dI0 g) := by
  intro m S H x y v u d S' Q w rx ry h q
  unfold dI0 at h
  split at h
  · rename_i i j
    cases h
    cases rx
    cases ry
    exact ⟨i, j, rfl, rfl, pv_here w (hg m H i j) q⟩
  · cases h
def CMulX2 (i j : Int) : Prop := CMul i j ∨ CMulW i j
theorem op_mulX2 {X : Cx} : OpR X (binaryOp .Mult) (rI CMulX2 fun i j => .int (i * j)) := opI fun _ _ _ _ _ _ _ hc q => hc.elim (fun z => mul_int q z.ok) fun z => mul_int q z.ok
theorem opd_mul {K : PySem.W.Frag} : OpD K (rI CMulX2 fun i j => .int (i * j)) dMul := opd_dI (fun i j h => h.elim .inl .inr) fun _ _ _ _ => .int _
theorem opd_sub {K : PySem.W.Frag} : OpD K (rI0 fun i j => .int (i - j)) dSub := opd_dI0 fun _ _ _ _ => .int _
theorem opd_fdiv {K : PySem.W.Frag} : OpD K (rI CDivW fun i j => .int (i / j)) dFdiv := opd_dI (fun i j h => h) fun _ _ _ _ => .int _
theorem opd_mod {K : PySem.W.Frag} : OpD K (rI (fun _ j => 0 < j) fun i j => .int (i % j)) dMod := opd_dI (fun i j h => h) fun _ _ _ _ => .int _
theorem opd_pow {K : PySem.W.Frag} : OpD K (rI CPow fun i j => .int (i ^ j.toNat)) dPow := opd_dI (fun i j h => h) fun _ _ _ _ => .int _
theorem opd_lt {K : PySem.W.Frag} : OpD K (rI0 fun i j => .bl (decide (i < j))) dLt := opd_dI0 fun _ _ _ _ => by rw [cl_dec]; exact .bl _
theorem opd_le {K : PySem.W.Frag} : OpD K (rI0 fun i j => .bl (decide (i ≤ j))) dLe := opd_dI0 fun _ _ _ _ => by rw [cl_dec]; exact .bl _
theorem opd_gt {K : PySem.W.Frag} : OpD K (rI0 fun i j => .bl (decide (j < i))) dGt := opd_dI0 fun _ _ _ _ => by rw [cl_dec]; exact .bl _
theorem opd_ge {K : PySem.W.Frag} : OpD K (rI0 fun i j => .bl (decide (j ≤ i))) dGe := opd_dI0 fun _ _ _ _ => by rw [cl_dec]; exact .bl _
def dNeg : D → Mo D := fun x S => match x with
  | .int i => some (.int (-i), S)
  | _ => none
theorem und_neg {K : PySem.W.Frag} : UnD K (rU fun i => .int (-i)) dNeg := by
  intro m S H x v d S' Q w rx h q
  unfold dNeg at h
  split at h
  · cases h
    cases rx
    exact ⟨_, rfl, pv_here w (.int _) q⟩
  · cases h
/-- is None -/
def dIsN : D → D → Mo D := fun x y S => match y with
  | .non => some (.bl (match x with
    | .non => true
    | _ => false), S)
  | _ => none
def dNotN : D → D → Mo D := fun x y S => match y with
  | .non => some (.bl (match x with
    | .non => false
    | _ => true), S)
  | _ => none
theorem opd_isN {K : PySem.W.Frag} : OpD K (fun x y H Q => y = .non ∧ Q (.bl (decide (x = .non))) H) dIsN := by
  intro m S H x y v u d S' Q w rx ry h q
  unfold dIsN at h
  split at h
  · cases h
    cases ry
    refine ⟨rfl, ?_⟩
    cases rx <;> exact pv_here w (.bl _) q
  · cases h
theorem opd_notN {K : PySem.W.Frag} : OpD K (fun x y H Q => y = .non ∧ Q (.bl (!decide (x = .non))) H) dNotN := by
  intro m S H x y v u d S' Q w rx ry h q
  unfold dNotN at h
  split at h
  · cases h
    cases ry
    refine ⟨rfl, ?_⟩
    cases rx <;> exact pv_here w (.bl _) q
  · cases h
/-! ### + of ints, texts, tuples -/
def dAdd : D → D → Mo D := fun x y S => match x, y with
  | .int i, .int j => some (.int (i + j), S)
  | .str i, .str j => if i.length + j.length ≤ sizeLine then some (.str (i ++ j), S) else none
  | .tup xs, .tup ys => if xs.length + ys.length ≤ sizeLine then some (.tup (xs ++ ys), S) else none
  | _, _ => none
def rAddX (K : PySem.W.Frag) : R2 := fun x y H Q => rI0 (fun i j => .int (i + j)) x y H Q ∨ (∃ i j, x = .str i ∧ y = .str j ∧ i.length + j.length ≤ sizeLine ∧ Q (.str (i ++ j)) H) ∨ rCatA K x y H Q
theorem op_addX {X : Cx} : OpR X (binaryOp .Add) (rAddX X.K) := op_add.or (op_add_str.or op_catA)
theorem opd_add {K : PySem.W.Frag} : OpD K (rAddX K) dAdd := by
  intro m S H x y v u d S' Q w rx ry h q
  unfold dAdd at h
  split at h
  · cases h
    cases rx
    cases ry
    exact .inl ⟨_, _, rfl, rfl, pv_here w (.int _) q⟩
  · split at h
    · rename_i hl
      cases h
      cases rx
      cases ry
      exact .inr (.inl ⟨_, _, rfl, rfl, hl, pv_here w (.str _) q⟩)
    · cases h
  · split at h
    · rename_i hl
      cases h
      cases rx with
      | @tup a xs ds hq hs =>
        cases ry with
        | @tup b ys es hq2 hs2 =>
          refine .inr (.inr ⟨a, b, xs, ys, rfl, rfl, sqt_of hq, sqt_of hq2, ?_, fun e => ?_, fun e1 e => ?_, fun e1 e2 p hp => ?_⟩)
          · rw [← hs.length, ← hs2.length]; exact hl
          · subst e
            cases hs
            exact pv_here w (.tup hq2 hs2) q
          · subst e
            cases hs2
            rw [List.append_nil] at q
            exact pv_here w (.tup hq hs) q
          · exact q _ m _ (stp_new hp) (wr_new w hp) (.tup (.inl (fz_new w hp)) ((hs.append hs2).mono (stp_new hp)))
    · cases h
  · cases h
/-! ### items, slices -/
def strOne (c : Nat) : Str := ⟨#[c]⟩
def dIx : D → D → Mo D := fun x y S => match y with
  | .int i => (match x with
    | .str z => if z.length ≤ sizeLine then (match atI z.cps.toList i with
      | some c => some (.str (strOne c), S)
      | none => none) else none
    | x => (match wkOf x S with
      | some k => (match atI k.l i with
        | some d => some (d, S)
        | none => none)
      | none => none))
  | _ => none
theorem atI_rel {K : PySem.W.Frag} {m : Mp} {H : Hp} {ds : List D} {vs : List V} {i : Int} {d : D} (r : DRs K m H ds vs) (h : atI ds i = some d) : ∃ v, atI vs i = some v ∧ DR K m H d v := by
  unfold atI at h ⊢
  rw [← r.length]
  cases e : ixN ds.length i with
  | none => rw [e] at h; cases h
  | some j =>
    rw [e] at h
    exact r.get h
theorem opd_ix {K : PySem.W.Frag} : OpD K (rIx K) dIx := by
  intro m S H x y v u d S' Q w rx ry h q
  unfold dIx at h
  split at h
  · rename_i i
    cases ry
    split at h
    · rename_i z
      split at h
      · rename_i hz
        split at h
        · rename_i c e
          cases h
          cases rx
          exact .inr (.inr ⟨z, i, c, rfl, rfl, hz, e, pv_here w (.str _) q⟩)
        · cases h
      · cases h
    · split at h
      · rename_i k e
        split at h
        · rename_i d' e2
          cases h
          obtain ⟨g0, a, κ, ev, sq⟩ := wk_sq w rx e
          obtain ⟨xs, hq, rs⟩ := sq m S H Stp.refl.w w g0
          obtain ⟨z, e3, r3⟩ := atI_rel rs e2
          subst ev
          cases κ with
          | l => exact .inl ⟨a, xs, i, z, rfl, rfl, hq, e3, pv_here w r3 q⟩
          | t => exact .inr (.inl ⟨a, xs, i, z, rfl, rfl, hq, e3, pv_here w r3 q⟩)
        · cases h
      · cases h
  · cases h
def cutD (xs : List D) (lo hi : Option Int) : List D := (xs.drop (HT.sIx xs.length 0 lo)).take (HT.sIx xs.length xs.length hi - HT.sIx xs.length 0 lo)
theorem cut_rel {K : PySem.W.Frag} {m : Mp} {H : Hp} {ds : List D} {vs : List V} {lo hi : Option Int} (r : DRs K m H ds vs) : DRs K m H (cutD ds lo hi) (cutV vs lo hi) := by
  unfold cutD cutV
  rw [r.length]
  exact (r.drop _).take _
/-- a slice of a tuple; of a list: al tells what becomes of the new list -/
def dSl (al : List D → Mo D) : D → Option Int → Option Int → Mo D := fun x lo hi S => match x with
  | .tup l => some (.tup (cutD l lo hi), S)
  | .str z => if z.length ≤ sizeLine then some (.str (cutS z lo hi), S) else none
  | x => (match wkOf x S with
    | some k => al (cutD k.l lo hi) S
    | none => none)
/-- what becomes of a list that has just been made -/
def AlEnd (K : PySem.W.Frag) (al : List D → Mo D) : Prop := ∀ (m : Mp) (S S2 : Sto) (H : Hp) (a : Addr) (xs : List V) (ds : List D) (d : D), WR K m S H → H a = none → DRs K m H ds xs → al ds S = some (d, S2) →
  ∃ m2, Stp m H m2 (upd H a (.lst xs)) ∧ WR K m2 S2 (upd H a (.lst xs)) ∧ DR K m2 (upd H a (.lst xs)) d (.ref a)
theorem alEnd_lst {K : PySem.W.Frag} : AlEnd K gLstD := by
  intro m S S2 H a xs ds d w ha r e
  cases e
  exact ⟨m, stp_new ha, wr_new w ha, .lst upd_same (w.notin ha) (r.mono (stp_new ha))⟩
theorem alEnd_new {K : PySem.W.Frag} : AlEnd K gNewD := by
  intro m S S2 H a xs ds d w ha r e
  cases e
  refine ⟨m.push a, stp_push ha, wr_push w ha r, .ref ?_⟩
  rw [← w.len]
  simp [Mp.push]
def rSlX2 (K : PySem.W.Frag) : V → Option Int → Option Int → Hp → VK → Prop := fun x lo hi H Q => rSlA K x lo hi H Q ∨ rSlS x lo hi H Q ∨ rSlL K x lo hi H Q
theorem sl_any {X : Cx} : SlR X (rSlX2 X.K) := sl_tupA.or (sl_str.or sl_list)
theorem cutV_all (xs : List V) (lo hi : Option Int) (h : HT.sIx xs.length 0 lo = 0 ∧ HT.sIx xs.length xs.length hi = xs.length) : cutV xs lo hi = xs := by
  unfold cutV
  rw [h.1, h.2]
  simp
theorem cutD_all (xs : List D) (lo hi : Option Int) (h : HT.sIx xs.length 0 lo = 0 ∧ HT.sIx xs.length xs.length hi = xs.length) : cutD xs lo hi = xs := by
  unfold cutD
  rw [h.1, h.2]
  simp
theorem sld_any {K : PySem.W.Frag} {al : List D → Mo D} (hal : AlEnd K al) : SlD K (rSlX2 K) (dSl al) := by
  intro m S H x v lo hi d S' Q w rx h q
  unfold dSl at h
  split at h
  · rename_i l
    cases h
    cases rx with
    | @tup a xs ds hq hs =>
      refine .inl ⟨a, xs, rfl, sqt_of hq, fun z => ?_, fun _ p hp => ?_⟩
      · rw [cutD_all l lo hi (by rw [hs.length]; exact z)] at q
        exact pv_here w (.tup hq hs) q
      · exact q _ m _ (stp_new hp) (wr_new w hp) (.tup (.inl (fz_new w hp)) ((cut_rel hs).mono (stp_new hp)))
  · rename_i z
    split at h
    · rename_i hz
      cases h
      cases rx
      exact .inr (.inl ⟨z, rfl, hz, pv_here w (.str _) q⟩)
    · cases h
  · rename_i hn1 hn2
    split at h
    · rename_i k e
      obtain ⟨g0, a, κ, ev, sq⟩ := wk_sq w rx e
      obtain ⟨xs, hq, rs⟩ := sq m S H Stp.refl.w w g0
      subst ev
      cases κ with
      | l =>
        refine .inr (.inr ⟨a, xs, rfl, hq, fun p hp => ?_⟩)
        obtain ⟨m2, s2, w2, r2⟩ := hal m S S' H p _ _ d w hp (cut_rel rs) h
        exact q _ m2 _ s2 w2 r2
      | t =>
        cases rx with
        | tup _ _ => exact absurd rfl (hn1 _)
        | lst hq2 _ hs2 =>
          cases e
          refine .inr (.inr ⟨a, _, rfl, SqL.of hq2, fun p hp => ?_⟩)
          obtain ⟨m2, s2, w2, r2⟩ := hal m S S' H p _ _ d w hp (cut_rel hs2) h
          exact q _ m2 _ s2 w2 r2
        | scr hq2 hs2 =>
          cases e
          refine .inr (.inr ⟨a, _, rfl, sql_of hq2, fun p hp => ?_⟩)
          obtain ⟨m2, s2, w2, r2⟩ := hal m S S' H p _ _ d w hp (cut_rel hs2) h
          exact q _ m2 _ s2 w2 r2
        | dct _ _ _ _ => cases e
        | ref hm =>
          unfold wkOf at e
          simp only at e
          split at e
          · rename_i l el
            cases e
            obtain ⟨ys, h1, h2⟩ := w.at hm el
            refine .inr (.inr ⟨a, ys, rfl, SqL.of h1, fun p hp => ?_⟩)
            obtain ⟨m2, s2, w2, r2⟩ := hal m S S' H p _ _ d w hp (cut_rel h2) h
            exact q _ m2 _ s2 w2 r2
          · cases e
    · cases h
end Nw
namespace Nw
open PySem PySem.Spec PyProof.Rows L2
section
variable {K : PySem.W.Frag}
/-! ### len, int, max, min, abs, gcd -/
def dLen : List D → Mo D := fun xs S => match xs with
  | [.str z] => if z.length ≤ sizeLine then some (.int (z.length : Nat), S) else none
  | [d] => (match wkOf d S with
    | some k => some (.int (k.l.length : Nat), S)
    | none => none)
  | _ => none
theorem ard_len : ArD K (fun xs H Q => ∃ x n, xs = [x] ∧ LenV K x H n ∧ Q (.int n) H) dLen := by
  intro m S H xs vs d S' Q w r h q
  unfold dLen at h
  split at h
  · rename_i z
    split at h
    · rename_i hz
      cases h
      cases r with
      | cons r1 r2 =>
        cases r2
        cases r1
        exact ⟨_, _, rfl, ⟨hz, rfl⟩, pv_here w (.int _) q⟩
    · cases h
  · rename_i d0 _
    split at h
    · rename_i k e
      cases h
      cases r with
      | cons r1 r2 =>
        cases r2
        obtain ⟨g0, a, κ, ev, sq⟩ := wk_sq w r1 e
        obtain ⟨ys, hq, rs⟩ := sq m S H Stp.refl.w w g0
        subst ev
        refine ⟨_, k.l.length, rfl, ?_, pv_here w (.int _) q⟩
        cases κ with
        | l => exact .inl ⟨ys, hq, rs.length⟩
        | t => exact .inr ⟨ys, hq, rs.length⟩
    · cases h
  · cases h
def dInt1 : List D → Mo D := fun xs S => match xs with
  | [.int i] => some (.int i, S)
  | [.bl b] => some (.int (if b then 1 else 0), S)
  | _ => none
theorem ard_int1 : ArD K (fun xs H Q => (∃ i, xs = [.int i] ∧ Q (.int i) H) ∨ ∃ k, xs = [.bl k] ∧ Q (.int (if k then 1 else 0)) H) dInt1 := by
  intro m S H xs vs d S' Q w r h q
  unfold dInt1 at h
  split at h
  · cases h
    cases r with
    | cons r1 r2 =>
      cases r2
      cases r1
      exact .inl ⟨_, rfl, pv_here w (.int _) q⟩
  · cases h
    cases r with
    | cons r1 r2 =>
      cases r2
      cases r1
      exact .inr ⟨_, rfl, pv_here w (.int _) q⟩
  · cases h
def dMax2 : List D → Mo D := fun xs S => match xs with
  | [.int i, .int j] => some (.int (if j > i then j else i), S)
  | _ => none
def dMin2 : List D → Mo D := fun xs S => match xs with
  | [.int i, .int j] => some (.int (if j < i then j else i), S)
  | _ => none
def dAbs : List D → Mo D := fun xs S => match xs with
  | [.int i] => some (.int (if i < 0 then -i else i), S)
  | _ => none
def dGcd : List D → Mo D := fun xs S => match xs with
  | [.int i, .int j] => some (.int ((Nat.gcd i.natAbs j.natAbs : Nat) : Int), S)
  | _ => none
theorem ard_2 {f : Int → Int → D} {g : Int → Int → V} (hr : ∀ m H i j, DR K m H (f i j) (g i j)) {F : List D → Mo D} (hF : ∀ xs S d S', F xs S = some (d, S') → ∃ i j, xs = [.int i, .int j] ∧ d = f i j ∧ S' = S) : ArD K (fun xs H Q => ∃ i j, xs = [.int i, .int j] ∧ Q (g i j) H) F := by
  intro m S H xs vs d S' Q w r h q
  obtain ⟨i, j, rfl, rfl, rfl⟩ := hF _ _ _ _ h
  cases r with
  | cons r1 r2 =>
    cases r2 with
    | cons r2 r3 =>
      cases r3
      cases r1
      cases r2
      exact ⟨i, j, rfl, pv_here w (hr m H i j) q⟩
theorem ard_max2 : ArD K (fun xs H Q => ∃ i j, xs = [.int i, .int j] ∧ Q (.int (if j > i then j else i)) H) dMax2 := ard_2 (fun _ _ _ _ => .int _) fun xs S d S' h => by
  unfold dMax2 at h
  split at h
  · cases h; exact ⟨_, _, rfl, rfl, rfl⟩
  · cases h
theorem ard_min2 : ArD K (fun xs H Q => ∃ i j, xs = [.int i, .int j] ∧ Q (.int (if j < i then j else i)) H) dMin2 := ard_2 (fun _ _ _ _ => .int _) fun xs S d S' h => by
  unfold dMin2 at h
  split at h
  · cases h; exact ⟨_, _, rfl, rfl, rfl⟩
  · cases h
theorem ard_gcd : ArD K rGcd dGcd := ard_2 (f := fun i j => .int ((Nat.gcd i.natAbs j.natAbs : Nat) : Int)) (fun _ _ _ _ => .int _) fun xs S d S' h => by
  unfold dGcd at h
  split at h
  · cases h; exact ⟨_, _, rfl, rfl, rfl⟩
  · cases h
theorem ard_abs : ArD K (fun xs H Q => ∃ i, xs = [.int i] ∧ Q (.int (if i < 0 then -i else i)) H) dAbs := by
  intro m S H xs vs d S' Q w r h q
  unfold dAbs at h
  split at h
  · cases h
    cases r with
    | cons r1 r2 =>
      cases r2
      cases r1
      exact ⟨_, rfl, pv_here w (.int _) q⟩
  · cases h
/-! ### tuple(..), list(..) -/
def dTup : List D → Mo D := fun xs S => match xs with
  | [d] => (match wkOf d S with
    | some k => some (.tup k.l, S)
    | none => none)
  | _ => none
theorem ard_tup : ArD K (fun xs H Q => ∃ p ys, xs = [.ref p] ∧ ((SqL K H p ys ∧ ∀ l, H l = none → Q (.ref l) (upd H l (.tup ys))) ∨ (SqT K H p ys ∧ Q (.ref p) H))) dTup := by
  intro m S H xs vs d S' Q w r h q
  unfold dTup at h
  split at h
  · rename_i d0
    split at h
    · rename_i k e
      cases h
      cases r with
      | cons r1 r2 =>
        cases r2
        have key : ∀ a ys, SqL K H a ys → DRs K m H k.l ys → ∀ l, H l = none → Q (.ref l) (upd H l (.tup ys)) := fun a ys hq rs l hl => q _ m _ (stp_new hl) (wr_new w hl) (.tup (.inl (fz_new w hl)) (rs.mono (stp_new hl)))
        cases r1 with
        | tup hq hs =>
          cases e
          exact ⟨_, _, rfl, .inr ⟨sqt_of hq, pv_here w (.tup hq hs) q⟩⟩
        | lst hq hn hs =>
          cases e
          exact ⟨_, _, rfl, .inl ⟨SqL.of hq, key _ _ (SqL.of hq) hs⟩⟩
        | scr hq hs =>
          cases e
          exact ⟨_, _, rfl, .inl ⟨sql_of hq, key _ _ (sql_of hq) hs⟩⟩
        | ref hm =>
          unfold wkOf at e
          simp only at e
          split at e
          · rename_i l el
            cases e
            obtain ⟨ys, h1, h2⟩ := w.at hm el
            exact ⟨_, _, rfl, .inl ⟨SqL.of h1, key _ _ (SqL.of h1) h2⟩⟩
          · cases e
        | _ => cases e
    · cases h
  · cases h
def dLst (al : List D → Mo D) : List D → Mo D := fun xs S => match xs with
  | [d] => (match wkOf d S with
    | some k => al k.l S
    | none => none)
  | _ => none
theorem ard_lst {al : List D → Mo D} (hal : AlEnd K al) : ArD K (fun xs H Q => ∃ p ys, xs = [.ref p] ∧ (SqL K H p ys ∨ SqT K H p ys) ∧ ∀ l, H l = none → Q (.ref l) (upd H l (.lst ys))) (dLst al) := by
  intro m S H xs vs d S' Q w r h q
  unfold dLst at h
  split at h
  · rename_i d0
    split at h
    · rename_i k e
      cases r with
      | cons r1 r2 =>
        cases r2
        obtain ⟨g0, a, κ, ev, sq⟩ := wk_sq w r1 e
        obtain ⟨ys, hq, rs⟩ := sq m S H Stp.refl.w w g0
        subst ev
        refine ⟨a, ys, rfl, ?_, fun l hl => ?_⟩
        · cases κ with
          | l => exact .inl hq
          | t => exact .inr hq
        · obtain ⟨m2, s2, w2, r2⟩ := hal m S S' H l ys k.l d w hl rs h
          exact q _ m2 _ s2 w2 r2
    · cases h
  · cases h
/-! ### sum, all, any of a list -/
def intsOf : List D → Option (List Int)
  | [] => some []
  | .int i :: l => (match intsOf l with
    | some ns => some (i :: ns)
    | none => none)
  | _ :: _ => none
theorem ints_rel {m : Mp} {H : Hp} : ∀ {l : List D} {vs : List V} {ns : List Int}, DRs K m H l vs → intsOf l = some ns → vs = ns.map V.int
  | _, _, _, .nil, e => by cases e; rfl
  | _, _, _, .cons r rs, e => by
    cases r with
    | int i =>
      unfold intsOf at e
      split at e
      · rename_i ns e2
        cases e
        rw [ints_rel rs e2]
        rfl
      · cases e
    | _ => cases e
theorem intsOf_map (ns : List Int) : intsOf (ns.map D.int) = some ns := by
  induction ns with
  | nil => rfl
  | cons n ns ih => simp [intsOf, ih]
def bolsOf : List D → Option (List Bool)
  | [] => some []
  | .bl i :: l => (match bolsOf l with
    | some ns => some (i :: ns)
    | none => none)
  | _ :: _ => none
theorem bols_rel {m : Mp} {H : Hp} : ∀ {l : List D} {vs : List V} {ns : List Bool}, DRs K m H l vs → bolsOf l = some ns → vs = ns.map V.bl
  | _, _, _, .nil, e => by cases e; rfl
  | _, _, _, .cons r rs, e => by
    cases r with
    | bl i =>
      unfold bolsOf at e
      split at e
      · rename_i ns e2
        cases e
        rw [bols_rel rs e2]
        rfl
      · cases e
    | _ => cases e
theorem bolsOf_map (ns : List Bool) : bolsOf (ns.map D.bl) = some ns := by
  induction ns with
  | nil => rfl
  | cons n ns ih => simp [bolsOf, ih]
/-- a list (no tuple) as it is seen -/
def lsOf (d : D) (S : Sto) : Option (List D) := match d with
  | .lst l => some l
  | .ref n => (match S[n]? with
    | some (.lst l) => some l
    | none => none)
  | _ => none
theorem ls_rel {m : Mp} {S : Sto} {H : Hp} {d : D} {v : V} {l : List D} (w : WR K m S H) (r : DR K m H d v) (h : lsOf d S = some l) : ∃ a xs, v = .ref a ∧ H a = some (.lst xs) ∧ DRs K m H l xs := by
  cases r with
  | lst hq hn hs =>
    cases h
    exact ⟨_, _, rfl, hq, hs⟩
  | ref hm =>
    unfold lsOf at h
    simp only at h
    split at h
    · rename_i l el
      cases h
      obtain ⟨ys, h1, h2⟩ := w.at hm el
      exact ⟨_, _, rfl, h1, h2⟩
    · cases h
  | _ => cases h
def dL1 {α : Type} (of : List D → Option α) (f : α → Option D) : List D → Mo D := fun xs S => match xs with
  | [d] => (match lsOf d S with
    | some l => (match of l with
      | some ns => (match f ns with
        | some r => some (r, S)
        | none => none)
      | none => none)
    | none => none)
  | _ => none
theorem inv_L1 {α : Type} {of : List D → Option α} {f : α → Option D} {xs : List D} {S S' : Sto} {d : D} (h : dL1 of f xs S = some (d, S')) : ∃ x l ns, xs = [x] ∧ lsOf x S = some l ∧ of l = some ns ∧ f ns = some d ∧ S' = S := by
  unfold dL1 at h
  split at h
  · split at h
    · rename_i l e1
      split at h
      · rename_i ns e2
        split at h
        · rename_i r e3
          cases h
          exact ⟨_, l, ns, rfl, e1, e2, e3, rfl⟩
        · cases h
      · cases h
    · cases h
  · cases h
def dSum : List D → Mo D := dL1 intsOf fun ns => some (.int ns.sum)
theorem ard_sum : ArD K (rSum K) dSum := by
  intro m S H xs vs d S' Q w r h q
  obtain ⟨x, l, ns, rfl, e1, e2, e3, rfl⟩ := inv_L1 h
  cases e3
  cases r with
  | cons r1 r2 =>
    cases r2
    obtain ⟨a, ys, rfl, hq, rs⟩ := ls_rel w r1 e1
    have e := ints_rel rs e2
    subst e
    exact ⟨a, ns, rfl, SqL.of hq, pv_here w (.int _) q⟩
def dAll : List D → Mo D := dL1 bolsOf fun ns => some (.bl (ns.all id))
theorem ard_all : ArD K (rAll K) dAll := by
  intro m S H xs vs d S' Q w r h q
  obtain ⟨x, l, ns, rfl, e1, e2, e3, rfl⟩ := inv_L1 h
  cases e3
  cases r with
  | cons r1 r2 =>
    cases r2
    obtain ⟨a, ys, rfl, hq, rs⟩ := ls_rel w r1 e1
    have e := bols_rel rs e2
    subst e
    exact ⟨a, ns, rfl, SqL.of hq, pv_here w (.bl _) q⟩
def dAny : List D → Mo D := dL1 bolsOf fun ns => some (.bl (ns.any id))
theorem ard_any : ArD K (rAny K) dAny := by
  intro m S H xs vs d S' Q w r h q
  obtain ⟨x, l, ns, rfl, e1, e2, e3, rfl⟩ := inv_L1 h
  cases e3
  cases r with
  | cons r1 r2 =>
    cases r2
    obtain ⟨a, ys, rfl, hq, rs⟩ := ls_rel w r1 e1
    have e := bols_rel rs e2
    subst e
    exact ⟨a, ns, rfl, SqL.of hq, pv_here w (.bl _) q⟩
end
/-! ### repr -/
def okShow (p : PyData) : Bool := p.showable && decide (p.depth ≤ 60) && decide (p.shown.length ≤ sizeLine)
noncomputable def dRepr : List D → Mo D := fun xs S => match xs with
  | [d] => if cl ((isDp (rdD S d) && okShow (toPy (rdD S d))) = true) = true then some (.str (toPy (rdD S d)).shown, S) else none
  | _ => none
def rRepr (K : PySem.W.Frag) : List V → Hp → VK → Prop := fun xs H Q => ∃ x d, xs = [x] ∧ Dp K H x d ∧ okShow d = true ∧ Q (.str d.shown) H
theorem dp_noDict {K : PySem.W.Frag} {H : Hp} : (∀ d v, Dp K H v d → d.hasDict = false) := by
  have key : (∀ (v : V) (d : PyData), Dp K H v d → d.hasDict = false) := by
    intro v d h
    refine Dp.rec (motive_1 := fun v d _ => d.hasDict = false) (motive_2 := fun vs ds _ => PyData.hasDictAll ds = false) ?_ ?_ ?_ ?_ ?_ ?_ ?_ ?_ h
    · simp [PyData.hasDict]
    · intro b; simp [PyData.hasDict]
    · intro b; simp [PyData.hasDict]
    · intro b; simp [PyData.hasDict]
    · intro a xs ds _ _ ih; simpa [PyData.hasDict] using ih
    · intro a xs ds _ _ ih; simpa [PyData.hasDict] using ih
    · simp [PyData.hasDictAll]
    · intro v vs d ds _ _ h1 h2; simp [PyData.hasDictAll, h1, h2]
  exact fun d v h => key v d h
theorem call_reprX {X : Cx} {k : Nat} (c : Cxo k X) : CallR X (.builtin "repr") (rRepr X.K) := by
  intro pins s σ H xs us Q I r h
  obtain ⟨x, d, rfl, hd, hok, q⟩ := h
  obtain ⟨u, rfl, ru⟩ := vals1 r
  unfold okShow at hok
  simp only [Bool.and_eq_true, decide_eq_true_eq] at hok
  obtain ⟨⟨h1, h2⟩, h3⟩ := hok
  obtain ⟨as, rd⟩ := Dp.reads I d x u hd ru
  have un := c.room.un
  have hnd := dp_noDict d x hd
  have fin : ∀ h' t tk, (∀ b o, s.heap.get? b = some o → h'.get? b = some o) → EP X pins σ Q (.str d.shown t) { s with heap := h', toks := tk } := fun h' t tk hk => ⟨.str d.shown, H, I.kept hk, ⟨_, rfl⟩, q⟩
  have big : ∀ a, u = .ref a → wpAny (model X.prog X.w) X.A (call (.builtin "repr") [u]) (EP X pins σ Q) X.xe s := fun a e => by
    subst e
    exact repr_of_reads' rd h1 (PyData.noDict_hsm hnd) c.gu (by omega) (fun b o z => z) (fun h' t tk hk => fin h' t tk hk) h3
  cases hd with
  | non =>
    cases ru
    have q' : Q (.str "None") H := by simpa [PyData.shown] using q
    exact PySem.P.repr_of_none ⟨.str _, H, I.tok _, ⟨_, rfl⟩, q'⟩
  | bl b =>
    cases ru
    have q' : Q (.str (if b then "True" else "False")) H := by simpa [PyData.shown] using q
    exact PySem.P.repr_of_bool ⟨.str _, H, I.tok _, ⟨_, rfl⟩, q'⟩
  | int i =>
    obtain ⟨t, rfl⟩ := ru
    have q' : Q (.str (toString i)) H := by simpa [PyData.shown] using q
    exact PySem.P.repr_of_int (by simpa [PyData.showable] using h1) ⟨.str _, H, I.tok _, ⟨_, rfl⟩, q'⟩
  | str z =>
    obtain ⟨t, rfl⟩ := ru
    have q' : Q (.str (reprText z)) H := by simpa [PyData.shown] using q
    exact PySem.P.repr_of_str ⟨.str _, H, I.tok _, ⟨_, rfl⟩, q'⟩ (by simpa [PyData.shown] using h3)
  | lst _ _ =>
    cases ru
    exact big _ rfl
  | tup _ _ =>
    cases ru
    exact big _ rfl
theorem ard_repr {K : PySem.W.Frag} : ArD K (rRepr K) dRepr := by
  intro m S H xs vs d S' Q w r h q
  unfold dRepr at h
  split at h
  · split at h
    · rename_i hc
      rw [cl_iff, Bool.and_eq_true] at hc
      cases h
      cases r with
      | cons r1 r2 =>
        cases r2
        exact ⟨_, _, rfl, rd_dp w r1 hc.1, hc.2, pv_here w (.str _) q⟩
    · cases h
  · cases h
/-! ### isinstance -/
def tyNm : D → Option String
  | .non => some "NoneType"
  | .bl _ => some "bool"
  | .int _ => some "int"
  | .str _ => some "str"
  | .tup _ => some "tuple"
  | .lst _ => some "list"
  | .scr _ => some "list"
  | .dct _ _ => some "dict"
  | .ref _ => some "list"
  | .ty _ => none
def isiNm (t c : String) : Bool := t == c || (t == "bool" && c == "int")
def okNm (c : String) : Bool := ["int", "bool", "str", "tuple", "list", "dict"].contains c
def dIsi : List D → Mo D := fun xs S => match xs with
  | [x, .ty c] => (match tyNm x with
    | some t => if okNm c = true then some (.bl (isiNm t c), S) else none
    | none => none)
  | _ => none
theorem kit_all {K : PySem.W.Frag} : ∀ t ∈ ["NoneType", "bool", "int", "str", "tuple", "list", "dict"], ∀ c ∈ ["int", "bool", "str", "tuple", "list", "dict"], PySem.W.kitOne K (.type t) (.type c) = some (isiNm t c) := by
  intro t ht c hc
  simp only [List.mem_cons, List.not_mem_nil, or_false] at ht hc
  rcases ht with rfl | rfl | rfl | rfl | rfl | rfl | rfl <;> rcases hc with rfl | rfl | rfl | rfl | rfl | rfl <;> with_unfolding_all rfl
theorem ty_rel {K : PySem.W.Frag} {m : Mp} {S : Sto} {H : Hp} {x : D} {v : V} {t : String} (w : WR K m S H) (r : DR K m H x v) (h : tyNm x = some t) : TyX K H v (.type t) := by
  cases r with
  | non => cases h; exact .base .non
  | bl b => cases h; exact .base (.bl b)
  | int b => cases h; exact .base (.int b)
  | str b => cases h; exact .base (.str b)
  | ty b => cases h
  | tup hq hs =>
    cases h
    rcases hq with ⟨(hq | ⟨o, hq⟩), _⟩ | (hq | ⟨o, hq⟩) | ⟨o, its, n, hk, hc, _⟩
    · exact .base (.tup hq)
    · exact .fTuple hq
    · cases hq
    · cases hq
    · exact .kTuple hk hc
  | lst hq hn hs => cases h; exact .base (.lst hq)
  | scr hq hs =>
    cases h
    rcases hq with ⟨(hq | ⟨o, hq⟩), _⟩ | (hq | ⟨o, hq⟩) | ⟨o, its, n, hk, hc, _⟩
    · exact .base (.lst hq)
    · exact .base (.frz hq)
    · cases hq
    · cases hq
    · exact .kList hk hc
  | dct hq _ _ _ =>
    cases h
    rcases hq with ⟨(hq | ⟨o, hq⟩), _⟩
    · exact .base (.dK hq)
    · exact .fDict hq
  | @ref n a hm =>
    cases h
    have hl : n < S.length := by rw [← w.len]; exact (List.getElem?_eq_some_iff.mp hm).1
    have q := w.get n a _ hm (List.getElem?_eq_getElem hl)
    cases e : S[n] with
    | lst ds =>
      rw [e] at q
      obtain ⟨xs, h1, _⟩ := q
      exact .base (.lst h1)
theorem tyNm_mem {x : D} {t : String} (h : tyNm x = some t) : t ∈ ["NoneType", "bool", "int", "str", "tuple", "list", "dict"] := by
  cases x <;> simp only [tyNm, Option.some.injEq, reduceCtorEq] at h <;> subst h <;> decide
theorem ard_isi {K : PySem.W.Frag} : ArD K (rIsi K) dIsi := by
  intro m S H xs vs d S' Q w r h q
  unfold dIsi at h
  split at h
  · rename_i x c
    split at h
    · rename_i t et
      split at h
      · rename_i hc
        cases h
        cases r with
        | cons r1 r2 =>
          cases r2 with
          | cons r2 r3 =>
            cases r3
            cases r2
            have hcm : c ∈ ["int", "bool", "str", "tuple", "list", "dict"] := by simpa [okNm] using hc
            exact ⟨_, _, _, _, _, rfl, .ty c, ty_rel w r1 et, kit_all t (tyNm_mem et) c hcm, pv_here w (.bl _) q⟩
      · cases h
    · cases h
  · cases h
/-! ### methods of lists -/
def eMeth (g : D → List D → Mo D) (fo : FE) (fa : FA) : FE := fun ρ S => match fo ρ S with
  | some (.ref n, S1) => (match fa ρ S1 with
    | some (xs, S2) => g (.ref n) xs S2
    | none => none)
  | _ => none
theorem se_lmeth {X : Cx} {id : String} {r : V → List V → Hp → VK → Prop} {g : D → List D → Mo D} {fo : FE} {fa : FA} {o e : Expr} {es : List Expr} {name : Str} {apos cpos : Pos} (slot : Slot "list" name id) (hty : typeOf (.builtin id) = pure (.type "method_descriptor")) (hm : MtR X id r) (hd : MtD X.K r g) (ho : SE X o fo) (ha : SA X (e :: es) fa)
    (hbase : attributeBase o name X.env (eval o X.env) = eval o X.env := by rfl)
    (hfew : ((backTo cpos (starEach (e :: es) X.env)).all (fun x => !x.1) && (backToKw cpos (keywordEach [] X.env)).all (fun x => x.1.isSome)
      && decide ((e :: es).length + ([] : List Keyword).length + (if ([] : List Keyword).isEmpty then 0 else 1) < 30)) = true := by rfl)
    (hline : (apos.endLine == cpos.line) = true := by rfl) (hs : starEach (e :: es) X.env = (false, eval e X.env) :: starEach es X.env := by rfl) (hplain : (backTo cpos (starEach es X.env)).any (·.1) = false := by rfl) :
    SE X (.Call (.Attribute o name apos) (e :: es) [] cpos) (eMeth g fo fa) := by
  obtain ⟨t, p, ht⟩ := ho.ex
  obtain ⟨u, pu, hu⟩ := ha.ex
  refine ⟨_, pe_bm PySem.F.plainAttrs_list slot hty hm p pu hbase hfew hline hs hplain, fun m S H ρ σ Q d S' w er h q => ?_⟩
  unfold eMeth at h
  split at h
  · rename_i n S1 e1
    split at h
    · rename_i xs S2 e2
      refine ht m S H ρ σ _ _ S1 w er e1 fun v m1 H1 st1 w1 r1 => ⟨?_, ?_⟩
      · cases r1 with
        | ref hmn =>
          have hl : n < S1.length := by rw [← w1.len]; exact (List.getElem?_eq_some_iff.mp hmn).1
          have q := w1.get n _ _ hmn (List.getElem?_eq_getElem hl)
          cases e : S1[n] with
          | lst ds =>
            rw [e] at q
            obtain ⟨ys, h1, _⟩ := q
            exact .inl ⟨rfl, ys, SqL.of h1⟩
      · refine hu m1 S1 H1 ρ σ _ xs S2 w1 (er.mono st1) e2 fun vs m2 H2 st2 w2 r2 => ?_
        exact hd m2 S2 H2 _ v xs vs d S' Q w2 (r1.mono st2) r2 h (q.step (st1.trans st2))
    · cases h
  · cases h
theorem se_lmeth0 {X : Cx} {id : String} {r : V → List V → Hp → VK → Prop} {g : D → List D → Mo D} {fo : FE} {o : Expr} {name : Str} {apos cpos : Pos} (slot : Slot "list" name id) (hty : typeOf (.builtin id) = pure (.type "method_descriptor")) (hm : MtR X id r) (hd : MtD X.K r g) (ho : SE X o fo)
    (hbase : attributeBase o name X.env (eval o X.env) = eval o X.env := by rfl) (hline : (apos.endLine == cpos.line) = true := by rfl) :
    SE X (.Call (.Attribute o name apos) [] [] cpos) (eMeth g fo aNil) := by
  obtain ⟨t, p, ht⟩ := ho.ex
  refine ⟨_, pe_bm0 PySem.F.plainAttrs_list slot hty hm p hbase (hline := hline), fun m S H ρ σ Q d S' w er h q => ?_⟩
  unfold eMeth at h
  split at h
  · rename_i n S1 e1
    simp only [aNil] at h
    refine ht m S H ρ σ _ _ S1 w er e1 fun v m1 H1 st1 w1 r1 => ⟨?_, ?_⟩
    · cases r1 with
      | ref hmn =>
        have hl : n < S1.length := by rw [← w1.len]; exact (List.getElem?_eq_some_iff.mp hmn).1
        have q := w1.get n _ _ hmn (List.getElem?_eq_getElem hl)
        cases e : S1[n] with
        | lst ds =>
          rw [e] at q
          obtain ⟨ys, h1, _⟩ := q
          exact .inl ⟨rfl, ys, SqL.of h1⟩
    · exact hd m1 S1 H1 _ v [] [] d S' Q w1 r1 .nil h (q.step st1)
  · cases h
section
variable {K : PySem.W.Frag}
def dAppend : D → List D → Mo D := fun x xs S => match x, xs with
  | .ref n, [d] => (match S[n]? with
    | some (.lst l) => if l.length < sizeLine then some (.non, S.set n (.lst (l ++ [d]))) else none
    | none => none)
  | _, _ => none
theorem mtd_append : MtD K rAppend dAppend := by
  intro m S H x v xs vs d S' Q w rx rs h q
  unfold dAppend at h
  split at h
  · rename_i n d0
    split at h
    · rename_i l el
      split at h
      · rename_i hl
        cases h
        cases rx with
        | ref hm =>
          obtain ⟨ys, h1, h2⟩ := w.at hm el
          cases rs with
          | cons r1 r2 =>
            cases r2
            refine ⟨_, ys, _, rfl, rfl, h1, by rw [← h2.length]; exact hl, ?_⟩
            exact q _ m _ (stp_write hm) (wr_write w hm (h2.append (.cons r1 .nil))) .non
      · cases h
    · cases h
  · cases h
def dExtend : D → List D → Mo D := fun x xs S => match x, xs with
  | .ref n, [d] => (match S[n]?, lsOf d S with
    | some (.lst l), some l2 => if l.length + l2.length ≤ sizeLine then some (.non, S.set n (.lst (l ++ l2))) else none
    | _, _ => none)
  | _, _ => none
theorem mtd_extend : MtD K rExtend dExtend := by
  intro m S H x v xs vs d S' Q w rx rs h q
  unfold dExtend at h
  split at h
  · rename_i n d0
    split at h
    · rename_i l l2 el e2
      split at h
      · rename_i hl
        cases h
        cases rx with
        | ref hm =>
          obtain ⟨ys, h1, h2⟩ := w.at hm el
          cases rs with
          | cons r1 r2 =>
            cases r2
            obtain ⟨b, zs, rfl, hb, rz⟩ := ls_rel w r1 e2
            refine ⟨_, b, ys, zs, rfl, rfl, h1, hb, by rw [← h2.length, ← rz.length]; exact hl, ?_⟩
            exact q _ m _ (stp_write hm) (wr_write w hm (h2.append rz)) .non
      · cases h
    · cases h
  · cases h
def dPop : D → List D → Mo D := fun x xs S => match x, xs with
  | .ref n, [] => (match S[n]? with
    | some (.lst l) => (match l[l.length - 1]? with
      | some d => some (d, S.set n (.lst l.dropLast))
      | none => none)
    | none => none)
  | _, _ => none
theorem DRs.dropLast {m : Mp} {H : Hp} {ds : List D} {vs : List V} (h : DRs K m H ds vs) : DRs K m H ds.dropLast vs.dropLast := by
  rw [List.dropLast_eq_take, List.dropLast_eq_take, h.length]
  exact h.take _
theorem mtd_pop : MtD K rPop dPop := by
  intro m S H x v xs vs d S' Q w rx rs h q
  unfold dPop at h
  split at h
  · rename_i n
    split at h
    · rename_i l el
      split at h
      · rename_i d0 ed
        cases h
        cases rx with
        | ref hm =>
          obtain ⟨ys, h1, h2⟩ := w.at hm el
          cases rs
          obtain ⟨y, hy, ry⟩ := h2.get ed
          refine ⟨_, ys, y, rfl, rfl, h1, by rw [← h2.length]; exact hy, ?_⟩
          exact q _ m _ (stp_write hm) (wr_write w hm h2.dropLast) (ry.mono (stp_write hm))
      · cases h
    · cases h
  · cases h
end
/-! ### a list of some items, so often -/
noncomputable def dRep (al : List D → Mo D) : D → D → Mo D := fun x y S => match y with
  | .int k => (match lsOf x S with
    | some l => if cl (-(2 ^ 63) ≤ k ∧ k < 2 ^ 63 ∧ l.length * k.toNat ≤ sizeLine) = true then al (List.replicate k.toNat l).flatten S else none
    | none => none)
  | _ => none
theorem drs_rep {K : PySem.W.Frag} {m : Mp} {H : Hp} {ds : List D} {vs : List V} (h : DRs K m H ds vs) : ∀ n : Nat, DRs K m H (List.replicate n ds).flatten (List.replicate n vs).flatten
  | 0 => .nil
  | n + 1 => by
    rw [List.replicate_succ, List.replicate_succ, List.flatten_cons, List.flatten_cons]
    exact h.append (drs_rep h n)
theorem opd_rep {K : PySem.W.Frag} {al : List D → Mo D} (hal : AlEnd K al) : OpD K rRep (dRep al) := by
  intro m S H x y v u d S' Q w rx ry h q
  unfold dRep at h
  split at h
  · rename_i k
    split at h
    · rename_i l e
      split at h
      · rename_i hb
        have hb := cl_iff.mp hb
        cases ry
        obtain ⟨a, xs, rfl, hq, rs⟩ := ls_rel w rx e
        refine ⟨a, k, xs, rfl, rfl, hq, hb.1, hb.2.1, by rw [← rs.length]; exact hb.2.2, fun p hp => ?_⟩
        obtain ⟨m2, s2, w2, r2⟩ := hal m S S' H p _ _ d w hp (drs_rep rs k.toNat) h
        exact q _ m2 _ s2 w2 r2
      · cases h
    · cases h
  · cases h
/-! ### + of lists -/
def dCat (al : List D → Mo D) : D → D → Mo D := fun x y S => match lsOf x S, lsOf y S with
  | some l, some l2 => if l.length + l2.length ≤ sizeLine then al (l ++ l2) S else none
  | _, _ => none
theorem opd_cat {K : PySem.W.Frag} {al : List D → Mo D} (hal : AlEnd K al) : OpD K rCat (dCat al) := by
  intro m S H x y v u d S' Q w rx ry h q
  unfold dCat at h
  split at h
  · rename_i l l2 e1 e2
    split at h
    · rename_i hb
      obtain ⟨a, xs, rfl, hq, rs⟩ := ls_rel w rx e1
      obtain ⟨b, ys, rfl, hq2, rs2⟩ := ls_rel w ry e2
      refine ⟨a, b, xs, ys, rfl, rfl, hq, hq2, by rw [← rs.length, ← rs2.length]; exact hb, fun p hp => ?_⟩
      obtain ⟨m2, s2, w2, r2⟩ := hal m S S' H p _ _ d w hp (rs.append rs2) h
      exact q _ m2 _ s2 w2 r2
    · cases h
  · cases h
/-! ### a test by truth -/
def truD (d : D) (S : Sto) : Option Bool := match d with
  | .non => some false
  | .bl b => some b
  | .int i => some (i != 0)
  | .str z => if z.length ≤ sizeLine then some ((z.length : Int) != 0) else none
  | .dct _ _ => none
  | d => (match wkOf d S with
    | some k => some (!k.l.isEmpty)
    | none => none)
end Nw
namespace Nw
open PySem PySem.Spec PyProof.Rows L2
/-! ### truth of a value -/
def tTru (f : FE) : FT := fun ρ S => match f ρ S with
  | some (d, S1) => (match truD d S1 with
    | some b => some (b, S1)
    | none => none)
  | none => none
section
variable {X : Cx}
/-! ### three names at once -/
def sPar3 (i j l : Nat) (f : FA) : FS := fun ρ S => match f ρ S with
  | some ([x, y, z], S1) => some (.nx, ((ρ.set i (some x)).set j (some y)).set l (some z), S1)
  | _ => none
theorem ss_par3 {i j l : Nat} {x y z : Str} {a b c : Expr} {f : FA} {px py pz pt : Pos} {kt k2 : Nat} {pt2 pos : Pos} (hc : X.calm = true) (hN : X.N.Nodup) (hi : X.N[i]? = some x) (hj : X.N[j]? = some y) (hl : X.N[l]? = some z) (hij : i ≠ j) (hil : i ≠ l) (hjl : j ≠ l)
    (hx : X.env.scope.names.lookup x = some .local) (hy : X.env.scope.names.lookup y = some .local) (hz : X.env.scope.names.lookup z = some .local) (ha : SA X [a, b, c] f)
    (hw : swappedStores [.Tuple [.Name x px, .Name y py, .Name z pz] kt pt] (.Tuple [a, b, c] k2 pt2) X.env = pure (some [x, y, z]))
    (hs : swapsWithSole [.Tuple [.Name x px, .Name y py, .Name z pz] kt pt] (.Tuple [a, b, c] k2 pt2) pos.line X.env = pure false := by rfl) :
    SS X (.Assign [.Tuple [.Name x px, .Name y py, .Name z pz] kt pt] (.Tuple [a, b, c] k2 pt2) pos) (sPar3 i j l f) := by
  obtain ⟨t, p, ht⟩ := ha.ex
  refine ⟨_, ps_par3 hc hN hi hj hl hij hil hjl hx hy hz p hw hs, fun m S H ρ σ E r w er h q => ?_⟩
  unfold sPar3 at h
  split at h
  · rename_i d1 d2 d3 S1 e1
    cases h
    refine ht m S H ρ σ _ _ S1 w er e1 fun vs m1 H1 st1 w1 r1 => ?_
    cases r1 with
    | cons ra r1 => cases r1 with
      | cons rb r1 => cases r1 with
        | cons rc r1 =>
          cases r1
          exact ⟨_, _, _, rfl, q _ m1 H1 st1 w1 ((((er.mono st1).set ra i).set rb j).set rc l)⟩
  · cases h
/-! ### keyword arguments -/
structure SK (X : Cx) (kws : List Keyword) (f : FA) : Prop where
  ex : ∃ t, PK X kws t ∧ ∀ (m : Mp) (S : Sto) (H : Hp) (ρ : Rho) (σ : L2.St) (Q : List V → Hp → Prop) (ds : List D) (S' : Sto), WR X.K m S H → ER X.K m H ρ σ → f ρ S = some (ds, S') → PVs X.K m H ds S' Q → t σ H Q
theorem sk_nil : SK X [] aNil := ⟨_, pk_nil, fun m S H ρ σ Q d S' w er h q => by
  cases h
  exact q [] m H .refl w .nil⟩
theorem sk_cons {e : Expr} {kws : List Keyword} {nm : Option Str} {kpos : Pos} {f : FE} {g : FA} (ha : SE X e f) (hr : SK X kws g) : SK X (⟨nm, e, kpos⟩ :: kws) (aCons f g) := by
  obtain ⟨ta, pa, h1⟩ := ha.ex
  obtain ⟨tr, pr, h2⟩ := hr.ex
  refine ⟨_, pk_cons pa pr, fun m S H ρ σ Q ds S' w er h q => ?_⟩
  obtain ⟨x, S1, xs, e1, e2, rfl⟩ := inv_cons h
  refine h1 m S H ρ σ _ x S1 w er e1 fun v m1 H1 st1 w1 r1 => ?_
  refine h2 m1 S1 H1 ρ σ _ xs S' w1 (er.mono st1) e2 fun vs m2 H2 st2 w2 r2 => ?_
  exact q _ m2 H2 (st1.trans st2) w2 (.cons (r1.mono st2) r2)
def permL {α : Type} (ix : List Nat) (l : List α) : List α := ix.filterMap fun i => l[i]?
theorem permL_vals {vs : List V} {us : List Value} (r : Vals vs us) : ∀ ix : List Nat, Vals (permL ix vs) (permL ix us)
  | [] => .nil
  | i :: ix => by
    unfold permL
    cases h : vs[i]? with
    | none =>
      have h2 : us[i]? = none := by rw [List.getElem?_eq_none_iff] at h ⊢; rw [← r.length]; exact h
      rw [List.filterMap_cons_none h, List.filterMap_cons_none h2]
      exact permL_vals r ix
    | some v =>
      obtain ⟨u, hu, ru⟩ := r.get h
      rw [List.filterMap_cons_some h, List.filterMap_cons_some hu]
      exact .cons ru (permL_vals r ix)
theorem permL_drs {K : PySem.W.Frag} {m : Mp} {H : Hp} {ds : List D} {vs : List V} (r : DRs K m H ds vs) : ∀ ix : List Nat, DRs K m H (permL ix ds) (permL ix vs)
  | [] => .nil
  | i :: ix => by
    unfold permL
    cases h : ds[i]? with
    | none =>
      have h2 : vs[i]? = none := by rw [List.getElem?_eq_none_iff] at h ⊢; rw [← r.length]; exact h
      rw [List.filterMap_cons_none h, List.filterMap_cons_none h2]
      exact permL_drs r ix
    | some v =>
      obtain ⟨u, hu, ru⟩ := r.get h
      rw [List.filterMap_cons_some h, List.filterMap_cons_some hu]
      exact .cons ru (permL_drs r ix)
theorem vals_app : ∀ {vs zs : List V} {us ws : List Value}, Vals vs us → Vals zs ws → Vals (vs ++ zs) (us ++ ws)
  | _, _, _, _, .nil, s => s
  | _, _, _, _, .cons r t, s => .cons r (vals_app t s)
/-- no defaults: n values by place, the others by name -/
theorem kbinds_ix {K : PySem.W.Frag} {x qual : Str} {params : Arguments} {body : List Stmt} {scope : Scope} {kws : List (Str × V)} {f : Addr} {fd : FuncData} {ps : List Str} (F : FunD K x qual params body scope [] kws f fd) (n : Nat) (ks : List Str) (ix : List Nat)
    (h : ∀ (kV doc pm : Value) (an : Option Addr) (cdv ct : Value) (us ws : List Value), us.length = n → ws.length = ks.length → bindArgs (PySem.W.fnOf x qual params body scope .none kV doc pm an cdv ct) ⟨us, ks.zip ws⟩ = pure (ps.zip (permL ix (us ++ ws)))) :
    KBn K fd ps n ks (fun us ws => permL ix (us ++ ws)) (fun vs zs => permL ix (vs ++ zs)) := by
  obtain ⟨oc, od, dV, kV, doc, pm, an, cdv, ct, osl, rfl, lk, hcd, hD, _⟩ := F.ex
  rcases hD with ⟨_, rfl⟩ | ⟨e, _⟩
  · exact ⟨fun s us ws _ l1 l2 => BindsTo.of_eq (h kV doc pm an cdv ct us ws l1 l2), fun r1 r2 => permL_vals (vals_app r1 r2) ix⟩
  · exact absurd rfl e
def eArgK (F : List D → Mo D) (ix : List Nat) (fa fk : FA) : FE := fun ρ S => match fa ρ S with
  | some (xs, S1) => (match fk ρ S1 with
    | some (ys, S2) => F (permL ix (xs ++ ys)) S2
    | none => none)
  | none => none
theorem inv_argK {F : List D → Mo D} {ix : List Nat} {fa fk : FA} {ρ : Rho} {S S' : Sto} {d : D} (h : eArgK F ix fa fk ρ S = some (d, S')) : ∃ xs S1 ys S2, fa ρ S = some (xs, S1) ∧ fk ρ S1 = some (ys, S2) ∧ F (permL ix (xs ++ ys)) S2 = some (d, S') := by
  unfold eArgK at h
  split at h
  · rename_i xs S1 e1
    split at h
    · rename_i ys S2 e2
      exact ⟨xs, S1, ys, S2, e1, e2, h⟩
    · cases h
  · cases h
section
variable {k : Nat} {f : Addr} {fd : FuncData} {ps ks : List Str} {n N : Nat} {F : List D → Mo D} {x : Str} {p pos : Pos} {e : Expr} {es : List Expr} {kws : List Keyword} {fa fk : FA} {ix : List Nat}
theorem run_fngK {pins : List (Addr × Obj)} {σ : L2.St} {H : Hp} {s : Shared} {Q : VK} {us ws : List Value} {vs zs : List V} {sp : SpG} (G : FnG X.prog X.w X.K X.mg X.base k f fd ps sp) (c : Cxo k X) (hb : KBn X.K fd ps n ks (fun us ws => permL ix (us ++ ws)) (fun vs zs => permL ix (vs ++ zs)))
    (I : Inv X pins σ H s) (r : Vals vs us) (rz : Vals zs ws) (l1 : vs.length = n) (l2 : zs.length = ks.length) (h : sp (permL ix (vs ++ zs)) H Q) : wpAny (model X.prog X.w) X.A (call (.ref f) us (ks.zip ws)) (EP X pins σ Q) X.xe s := by
  refine wpAny_call (codeAny_mono (G.run X.A X.stack s H ⟨us, ks.zip ws⟩ _ _ Q c.room c.gu I.env0 (hb.to s us ws I.kIn (r.length.symm.trans l1) (rz.length.symm.trans l2)) (hb.rel r rz) h) fun z s' hq => ?_)
  cases z with
  | ok fl =>
    cases fl with
    | ret u => exact I.after hq
    | _ => exact False.elim hq
  | error e => exact False.elim hq
theorem se_callK (G : FnG X.prog X.w X.K X.mg X.base k f fd ps (spF X.K N F)) (c : Cxo k X) (hm : X.mg x = some (.ref f)) (hk : PySem.W.keepIn X.K (.ref f) = true) (hb : KBn X.K fd ps n ks (fun us ws => permL ix (us ++ ws)) (fun vs zs => permL ix (vs ++ zs))) (ha : SA X (e :: es) fa) (hkw : SK X kws fk) (hn : ALen fa n) (hnk : ALen fk ks.length)
    (hN : ∀ (l : List V), l.length = n + ks.length → (permL ix l).length = N) (hg : Gl X x)
    (hall : (backToKw pos (keywordEach kws X.env)).all (·.1.isSome) = true := by rfl) (hks : (backToKw pos (keywordEach kws X.env)).filterMap (·.1) = ks := by rfl)
    (hdb : (x == ("__debug__" : Str)) = false := by decide) (he : starEach (e :: es) X.env = (false, eval e X.env) :: starEach es X.env := by rfl)
    (hpl : ((backTo pos (starEach (e :: es) X.env)).any (·.1) || (backToKw pos (keywordEach kws X.env)).any (·.1.isNone)) = false := by rfl) :
    SE X (.Call (.Name x p) (e :: es) kws pos) (eArgK F ix fa fk) := by
  obtain ⟨t, pt, ht⟩ := ha.ex
  obtain ⟨tk, pk, htk⟩ := hkw.ex
  refine ⟨fun σ H Q => t σ H fun vs H1 => tk σ H1 fun zs H2 => vs.length = n ∧ zs.length = ks.length ∧ spF X.K N F (permL ix (vs ++ zs)) H2 Q, ⟨fun pins s σ H Q I h => ?_⟩, fun m S H ρ σ Q d S' w er h q => ?_⟩
  · refine wpAny_Call_Name_kw (ld_glob I hg hm ?_ hdb)
    refine PySem.W.callWith_KW (h₀ := X.base) I.ok.mod.kin hk hall (thn (pt.run pos pins s σ H _ I h) fun us s1 ⟨vs, H1, I1, r, q⟩ => ?_) hpl he
    refine thn (pk.run pos pins s1 σ H1 _ I1 q) fun ws s2 ⟨zs, H2, I2, rz, l1, l2, q2⟩ => ⟨I2.kIn, ?_⟩
    rw [hks]
    exact run_fngK G c hb I2 r rz l1 l2 q2
  · obtain ⟨xs, S1, ys, S2, e1, e2, e3⟩ := inv_argK h
    refine ht m S H ρ σ _ xs S1 w er e1 fun vs m1 H1 st1 w1 r1 => ?_
    refine htk m1 S1 H1 ρ σ _ ys S2 w1 (er.mono st1) e2 fun zs m2 H2 st2 w2 r2 => ?_
    have l1 : vs.length = n := by rw [← r1.length]; exact hn _ _ _ _ e1
    have l2 : zs.length = ks.length := by rw [← r2.length]; exact hnk _ _ _ _ e2
    exact ⟨l1, l2, hN _ (by rw [List.length_append, l1, l2]), m2, S2, _, d, S', w2, permL_drs ((r1.mono st2).append r2) ix, e3, q.step (st1.trans st2)⟩
theorem se_callK0 (G : FnG X.prog X.w X.K X.mg X.base k f fd ps (spF X.K N F)) (c : Cxo k X) (hm : X.mg x = some (.ref f)) (hk : PySem.W.keepIn X.K (.ref f) = true) (hb : KBn X.K fd ps 0 ks (fun us ws => permL ix (us ++ ws)) (fun vs zs => permL ix (vs ++ zs))) (hkw : SK X kws fk) (hnk : ALen fk ks.length)
    (hN : ∀ (l : List V), l.length = ks.length → (permL ix l).length = N) (hg : Gl X x)
    (hall : (backToKw pos (keywordEach kws X.env)).all (·.1.isSome) = true := by rfl) (hks : (backToKw pos (keywordEach kws X.env)).filterMap (·.1) = ks := by rfl)
    (hdb : (x == ("__debug__" : Str)) = false := by decide)
    (hpl : ((backTo pos (starEach [] X.env)).any (·.1) || (backToKw pos (keywordEach kws X.env)).any (·.1.isNone)) = false := by rfl) :
    SE X (.Call (.Name x p) [] kws pos) (eArgK F ix aNil fk) := by
  obtain ⟨tk, pk, htk⟩ := hkw.ex
  refine ⟨fun σ H Q => tk σ H fun zs H2 => zs.length = ks.length ∧ spF X.K N F (permL ix zs) H2 Q, ⟨fun pins s σ H Q I h => ?_⟩, fun m S H ρ σ Q d S' w er h q => ?_⟩
  · refine wpAny_Call_Name_kw (ld_glob I hg hm ?_ hdb)
    refine PySem.W.callWith_KW0 (h₀ := X.base) I.ok.mod.kin hk hall ?_ hpl
    refine thn (pk.run pos pins s σ H _ I h) fun ws s2 ⟨zs, H2, I2, rz, l2, q2⟩ => ⟨I2.kIn, ?_⟩
    rw [hks]
    exact run_fngK (us := []) (vs := []) G c hb I2 .nil rz rfl l2 q2
  · obtain ⟨xs, S1, ys, S2, e1, e2, e3⟩ := inv_argK h
    cases e1
    refine htk m S H ρ σ _ ys S2 w er e2 fun zs m2 H2 st2 w2 r2 => ?_
    have l2 : zs.length = ks.length := by rw [← r2.length]; exact hnk _ _ _ _ e2
    exact ⟨l2, hN _ l2, m2, S2, _, d, S', w2, permL_drs r2 ix, e3, q.step st2⟩
end
/-- a module's name for a built-in function -/
theorem se_callG {x : Str} {e : Expr} {es : List Expr} {p pos : Pos} {id : String} {r : List V → Hp → VK → Prop} {g : List D → Mo D} {f : FA} (hc : CallR X (.builtin id) r) (hd : ArD X.K r g) (hm : X.mg x = some (.builtin id)) (ha : SA X (e :: es) f) (hg : Gl X x)
    (hdb : (x == ("__debug__" : Str)) = false := by decide) (he : starEach (e :: es) X.env = (false, eval e X.env) :: starEach es X.env := by rfl) (hpl : (backTo pos (starEach es X.env)).any (·.1) = false := by rfl) :
    SE X (.Call (.Name x p) (e :: es) [] pos) (eArg g f) := by
  obtain ⟨t, pt, ht⟩ := ha.ex
  refine ⟨_, pe_callBfun hc hg hm pt hdb he hpl, fun m S H ρ σ Q d S' w er h q => ?_⟩
  obtain ⟨xs, S1, e1, e2⟩ := inv_arg h
  exact ht m S H ρ σ _ xs S1 w er e1 fun vs m1 H1 st1 w1 r1 => hd m1 S1 H1 xs vs d S' Q w1 r1 e2 (q.step st1)
end
end Nw
namespace Nw
open PySem PySem.Spec PyProof.Rows L2
/-! ### truth of a value -/
theorem tru_rel {K : PySem.W.Frag} {m : Mp} {S : Sto} {H : Hp} {d : D} {v : V} {b : Bool} (w : WR K m S H) (r : DR K m H d v) (h : truD d S = some b) : TruV K v H b := by
  have key : ∀ (k : Wk), wkOf d S = some k → ∃ a xs, v = .ref a ∧ (SqL K H a xs ∨ SqT K H a xs) ∧ xs.isEmpty = k.l.isEmpty := by
    intro k hk
    obtain ⟨g, a, κ, rfl, hf⟩ := wk_sq w r hk
    obtain ⟨xs, hs, rs⟩ := hf m S H (Stp.refl.w) w g
    have hl := rs.length
    refine ⟨a, xs, rfl, ?_, ?_⟩
    · cases κ with
      | l => exact .inl hs
      | t => exact .inr hs
    · cases xs with
      | nil => cases hk2 : k.l with
        | nil => rfl
        | cons => rw [hk2] at hl; cases hl
      | cons => cases hk2 : k.l with
        | nil => rw [hk2] at hl; cases hl
        | cons => rfl
  have fin : ∀ (k : Wk), wkOf d S = some k → b = !k.l.isEmpty → TruV K v H b := by
    intro k hk hb
    obtain ⟨a, xs, rfl, hs, he⟩ := key k hk
    subst hb
    rw [← he]
    rcases hs with hs | hs
    · exact .inl ⟨xs, hs, rfl⟩
    · exact .inr (.inl ⟨xs, hs, rfl⟩)
  have go : ∀ o, wkOf d S = o → (match o with
    | some k => some (!k.l.isEmpty)
    | none => none) = some b → TruV K v H b := by
    intro o ho hm
    cases o with
    | none => cases hm
    | some k => exact fin k ho (Option.some.inj hm).symm
  cases r with
  | non => cases h; rfl
  | bl c => cases h; rfl
  | int i => cases h; rfl
  | str z =>
    have h2 : (if z.length ≤ sizeLine then some ((z.length : Int) != 0) else none) = some b := h
    by_cases hz : z.length ≤ sizeLine
    · rw [if_pos hz] at h2
      exact ⟨hz, (Option.some.inj h2).symm⟩
    · rw [if_neg hz] at h2
      cases h2
  | ty n => cases h
  | dct _ _ _ _ => cases h
  | tup h1 hs => exact go _ rfl h
  | lst h1 h2 hs => exact go _ rfl h
  | scr h1 hs => exact go _ rfl h
  | ref hm => exact go _ rfl h
section
variable {X : Cx}
theorem st_truth {e : Expr} {f : FE} (he : SE X e f) (ht : ∀ whole, isTrue e X.env whole = (do let v ← whole; standAt e.pos; holding [v] (truthy v)) := by intro _; rfl) : ST X e (tTru f) := by
  obtain ⟨t, p, h0⟩ := he.ex
  refine ⟨_, pt_truth p ht, fun m S H ρ σ Q b S' w er h q => ?_⟩
  unfold tTru at h
  split at h
  · rename_i d S1 e1
    split at h
    · rename_i b2 e2
      cases h
      refine h0 m S H ρ σ _ d _ w er e1 fun v m1 H1 st1 w1 r1 => ?_
      exact ⟨b, tru_rel w1 r1 e2, q m1 H1 st1 w1⟩
    · cases h
  · cases h
/-! ### len of a written set of ints -/
def dcnt (S : Int → Bool) (n : Nat) : List Int → Nat
  | [] => n
  | x :: xs => dcnt (fun y => S y || decide (y = x)) (if S x then n else n + 1) xs
section
variable {P : Program} {w : World} {A : Around} {E : Value → Shared → Prop} {s : Shared} {a : Addr}
theorem unledI {S : Int → Bool} {n : Nat} {Q : Unit → Shared → Prop} (hS : s.heap.SetOf (intKind P w) a S n) (h : ∀ h', h'.SetOf (intKind P w) a S n → (∀ b o, b ≠ a → s.heap.get? b = some o → h'.get? b = some o) → Q () { s with heap := h' }) :
    wpAny (model P w) A (setUnled a) Q E s := by
  obtain ⟨o, es, ep, t, ho, hex, hd, hel, hmem, hb, hf, hn⟩ := hS
  have hf' : ({ t with led := false } : SetTable).fits es.size = true := by cases t; exact hf
  unfold setUnled
  refine wpAny_bind (wpAny_setState_of ho hd hf ?_)
  dsimp only
  refine wpAny_storeSet_of ho hd ?_ (fits_of_scanBound hb)
  obtain ⟨_, hS⟩ := SetOf_store (knd := intKind P w) ho hex hd hel hmem hb hf'
  rw [hn] at hS
  have sb := Heap.SameBut.update s.heap a (Obj.putSet es { t with led := false })
  exact h _ hS fun b o hb e => (sb.2 b hb).trans e
theorem fill_ints {u : Bool} {h₀ : Heap} {vs : List Value} {ws : List Int} (r : IntsAre vs ws) : ∀ (h : Heap) (k : Nat) (S : Int → Bool) (n : Nat) (Q : Value → Shared → Prop), h.SetOf (intKind P w) a S n →
    (∀ b o, b ≠ a → h₀.get? b = some o → h.get? b = some o) → n + ws.length < 4000 →
    (∀ h' k' S', h'.SetOf (intKind P w) a S' (dcnt S n ws) → (∀ b o, b ≠ a → h₀.get? b = some o → h'.get? b = some o) → PySem.W.KdsFill (model P w) A E u a Q [] { s with heap := h', toks := k' }) →
    PySem.W.KdsFill (model P w) A E u a Q vs { s with heap := h, toks := k } := by
  induction r with
  | nil =>
    intro h k S n Q hS hk _ q
    exact q h k S hS hk
  | cons y t r ih =>
    intro h k S n Q hS hk hn q
    rw [List.length_cons] at hn
    refine PySem.W.kds_fill_cons ?_
    unfold setAdd
    refine wpAny_holding (wpAny_bind ((intKind P w).pyHash (k := y) (intKind_is _ _ _ _) ?_))
    refine wpAny_setAddHashed_of (knd := intKind P w) (s := { s with heap := h, toks := k + 1 }) (intKind_is _ _ _ _) rfl hS (by unfold scanBound; omega) fun h' sb hS' => ?_
    exact ih h' (k + 1) _ _ Q hS' (fun b o hb e => (sb.2 b hb).trans (hk b o hb e)) (by split <;> omega) fun h2 k2 S2 a b => q h2 k2 S2 a b
end
/-- items one by one -/
inductive SL (X : Cx) : List Expr → FA → Prop
  | nil : SL X [] aNil
  | cons {e : Expr} {es : List Expr} {f : FE} {g : FA} : SE X e f → SL X es g → SL X (e :: es) (aCons f g)
theorem SL.run {es : List Expr} {f : FA} (h : SL X es f) : ∀ (pins : List (Addr × Obj)) (m : Mp) (S : Sto) (H : Hp) (ρ : Rho) (σ : L2.St) (ds : List D) (S' : Sto) (s : Shared) (Q : List Value → Shared → Prop), Inv X pins σ H s → WR X.K m S H → ER X.K m H ρ σ → f ρ S = some (ds, S') →
    (∀ vs us m' H' s', Stp m H m' H' → WR X.K m' S' H' → DRs X.K m' H' ds vs → Vals vs us → Inv X pins σ H' s' → Q us s') → PySem.W.KdsAll (model X.prog X.w) X.A X.xe X.env es Q s := by
  induction h with
  | nil =>
    intro pins m S H ρ σ ds S' s Q I w er e q
    cases e
    exact q [] [] m H s .refl w .nil .nil I
  | cons h1 _ ih =>
    intro pins m S H ρ σ ds S' s Q I w er e q
    obtain ⟨t, pt, ht⟩ := h1.ex
    obtain ⟨x, S1, xs, e1, e2, rfl⟩ := inv_cons e
    refine thn (pt.run pins s σ H (fun v H1 => ∃ m1, Stp m H m1 H1 ∧ WR X.K m1 S1 H1 ∧ DR X.K m1 H1 x v) I (ht m S H ρ σ _ x S1 w er e1 fun v m1 H1 st w1 r => ⟨m1, st, w1, r⟩)) fun u s1 ⟨v, H1, I1, ru, m1, st1, w1, r1⟩ => ?_
    refine ih pins m1 S1 H1 ρ σ xs S' s1 _ I1 w1 (er.mono st1) e2 fun vs us m2 H2 s2 st2 w2 rs ru2 I2 => ?_
    exact q (v :: vs) (u :: us) m2 H2 s2 (st1.trans st2) w2 (.cons (r1.mono st2) rs) (.cons ru ru2) I2
def eLenSet (f : FA) : FE := fun ρ S => match f ρ S with
  | some (ds, S1) => (match intsOf ds with
    | some ns => if ns.length ≤ 30 then some (.int (dcnt (fun _ => false) 0 ns : Nat), S1) else none
    | none => none)
  | none => none
theorem dcnt_le : ∀ (ns : List Int) (S : Int → Bool) (n : Nat), dcnt S n ns ≤ n + ns.length
  | [], S, n => Nat.le_refl _
  | x :: xs, S, n => by
    unfold dcnt
    rw [List.length_cons]
    cases S x with
    | true =>
      have := dcnt_le xs (fun y => S y || decide (y = x)) n
      rw [if_pos rfl]
      omega
    | false =>
      have := dcnt_le xs (fun y => S y || decide (y = x)) (n + 1)
      rw [if_neg (by decide)]
      omega
theorem se_lenSet {es : List Expr} {f : FA} {p q pos : Pos} (ha : SL X es f) (hcd : PySem.W.kdsCode X.K X.env.code = true) (hm : X.mg "len" = none) (hg : Gl X "len") (hp : es.all PySem.W.kdsPlain = true := by rfl) (hl : es.length ≤ 30 := by decide) :
    SE X (.Call (.Name "len" p) [.Set es 0 q] [] pos) (eLenSet f) := by
  refine ⟨fun σ H Q => ∃ m S ρ d S', WR X.K m S H ∧ ER X.K m H ρ σ ∧ eLenSet f ρ S = some (d, S') ∧ PV X.K m H d S' Q, ⟨fun pins s σ H Q I h => ?_⟩, fun m S H ρ σ Q d S' w er h q => ⟨m, S, ρ, d, S', w, er, h, q⟩⟩
  obtain ⟨m, S, ρ, d, S', w, er, h, qv⟩ := h
  refine Call_ (ld_blt I hg hm PySem.boot_len ?_)
  refine PyProof.Rows.callWith_builtin1 (PyProof.Rows.args_cons ?_ rfl) rfl rfl
  rw [arm_eval_Set]
  refine wpAny_bind (wpAny_standAt ?_)
  refine wpAny_bind (PySem.W.kds_main I.kIn hcd fun b => ?_)
  rw [PySem.W.kds_star es hp, List.map_map]
  refine PySem.W.kds_core (ts := (evalEach es X.env).map fun t => do let v ← t; standAt q; pure v) (road0 es) ?_ ?_ ?_ fun led => ?_
  · refine List.findIdx?_eq_none_iff.mpr fun x hx => ?_
    obtain ⟨t, _, rfl⟩ := List.mem_map.mp hx
    rfl
  · rw [List.length_map, PySem.W.kds_len]
    exact hl
  · rw [List.map_map]
    try rfl
  · have hD : H s.heap.objs.size = none := I.hok.fresh (Nat.le_refl _)
    have fo := I.fpOk (b := s.heap.objs.size) (Nat.le_refl _) hD
    have I0 : Inv X pins σ H { s with heap := s.heap.push { cls := .type "set", dict := none, data := .set #[] 0 (.fresh 0 0 led) } } := I.kept (t' := s.toks) fun b u e => Heap.get?_push_of_some _ e
    have I1 : Inv X ((s.heap.objs.size, { cls := .type "set", dict := none, data := .set #[] 0 (.fresh 0 0 led) }) :: pins) σ H { s with heap := s.heap.push { cls := .type "set", dict := none, data := .set #[] 0 (.fresh 0 0 led) } } := I0.pins_of fun z hz => by
      rcases List.mem_cons.mp hz with e | hz
      · subst e
        obtain ⟨f0, f1, f2, _⟩ := fo
        exact ⟨Heap.get?_push_size _ rfl, f0, f1, f2, fun v e => by cases e⟩
      · exact I0.pin z (List.mem_append_right _ hz)
    unfold eLenSet at h
    split at h
    · rename_i ds S1 e1
      split at h
      · rename_i ns e2
        split at h
        · rename_i hn
          cases h
          refine PySem.W.kds_all q es _ _ (ha.run _ m S H ρ σ ds _ _ _ I1 w er e1 fun vs us m1 H1 s1 st1 w1 r1 ru I2 => ?_)
          have hv := ints_rel r1 e2
          subst hv
          obtain ⟨hg1, hD1, hL1, hF1, _⟩ := I2.pin _ (List.mem_append_right _ (List.mem_cons_self ..))
          have I3 : Inv X pins σ H1 s1 := I2.pins_of fun z hz => I2.pin z (List.mem_append_right _ (List.mem_cons_of_mem _ (by simpa using hz)))
          have hn2 := dcnt_le ns (fun _ => false) 0
          have fin : ∀ (h' : Heap) (k' : Nat) (S2 : Int → Bool), h'.SetOf (intKind X.prog X.w) s.heap.objs.size S2 (dcnt (fun _ => false) 0 ns) → (∀ b o, b ≠ s.heap.objs.size → s1.heap.get? b = some o → h'.get? b = some o) →
              wpAny (model X.prog X.w) X.A (call (.builtin "len") [.ref s.heap.objs.size]) (EP X pins σ Q) X.xe { s1 with heap := h', toks := k' } := by
            intro h' k' S2 hS hk
            obtain ⟨o, es, ep, t, ho, hex, hd, _, _, _, hf, hn3⟩ := hS
            have I4 : Inv X pins σ H1 { s1 with heap := h', toks := k' } := I3.turned hk hD1 hL1 fo.2.2.2.1 fo.2.2.2.2.1 fo.2.2.2.2.2
            refine call_len_set ho hex hd hf (by rw [hn3]; omega) ⟨.int (dcnt (fun _ => false) 0 ns : Nat), H1, I4.tok _, ⟨_, by rw [hn3]⟩, qv _ m1 H1 st1 w1 (.int _)⟩
          refine fill_ints (s := s1) (h₀ := s1.heap) ru.ints s1.heap s1.toks (fun _ => false) 0 _ ((setObjOf_fresh (knd := intKind X.prog X.w) led).setOf hg1 (by decide)) (fun b o _ e => e) (by omega) fun h' k' S2 hS hk => ?_
          cases hu : (displayRoad 0 es == DisplayRoad.unsure) with
          | false => exact PySem.W.kds_fill_nil rfl (PyProof.Rows.args_nil (fin h' k' S2 hS hk))
          | true => exact PySem.W.kds_fill_unled rfl (unledI (s := { s1 with heap := h', toks := k' }) hS fun h2 hS2 sb => PyProof.Rows.args_nil (fin h2 k' S2 hS2 fun b o hb e => sb b o hb (hk b o hb e)))
        · cases h
      · cases h
    · cases h
end
end Nw
namespace Nw
open PySem PySem.Spec PyProof.Rows L2
/-! ### what the top leaves, by names -/
structure Cf where
  fn : List He.DefD
  fr : List Str
  bi : List (Str × String)
  tp : List (Str × List Int)
  it : List (Str × Int)
  st : List (Str × Str)
def Cf.fa (C : Cf) : List He.Fa := C.fn.map (fun d => .glo d.name) ++ C.fr.map .free ++ C.tp.map (fun p => .glo p.1) ++ C.it.map (fun p => .int p.1 p.2) ++ C.st.map fun p => .str p.1 p.2
def Cf.more (C : Cf) (K : PySem.W.Frag) : Bool :=
  (C.bi.all fun p => He.eqO (PySem.W.nsIn K mainGlobals p.1) (some (some (.builtin p.2)))) && ((C.tp.all fun p => He.tupB K p.1 (p.2.map He.Dv.int)) && C.fn.all fun d => decide (d.at_ = (d.name, none)) && (d.dfl.isEmpty && d.kwd.isEmpty))
abbrev AlN : Type := Bool × He.AlD
def obsN (C : Cf) (K : PySem.W.Frag) : AlN := (C.more K, He.obsD C.fa C.fn K)
def valN (C : Cf) : AlN := (true, He.valD C.fn)
def obsNG (n : Nat) (C : Cf) (g : Addr → Option Obj) : AlN := obsN C (He.frG g (He.asD g n))
def hookN (n : Nat) (C : Cf) : PySem.W.Hook where
  α := AlN
  obs := fun s => obsNG n C s.heap.get?
  val := fun _ => valN C
  says := fun _ h => ∃ K : PySem.W.Frag, K.In h ∧ obsN C K = valN C
  of := fun _ _ e => ⟨_, He.frG_in, e⟩
  keeps := fun _ _ _ ⟨K, hK, c⟩ k => ⟨K, PySem.W.Frag.In.keeps hK k, c⟩
theorem obsNG_eq {n : Nat} {C : Cf} {g : Addr → Option Obj} {s : Shared} (h : ∀ a, g a = s.heap.get? a) : obsNG n C g = (hookN n C).obs s := by
  have e : g = s.heap.get? := funext h
  rw [e]
  rfl
structure En (C : Cf) (K : PySem.W.Frag) (mg : Str → Option Value) : Prop where
  df : ∀ (i : Nat) (d : He.DefD), C.fn[i]? = some d → (∃ fd, FunD K d.name d.qual d.params d.body d.scope [] [] (He.ga K d.name) fd) ∧ mg d.name = some (.ref (He.ga K d.name)) ∧ PySem.W.keepIn K (.ref (He.ga K d.name)) = true
  fr : ∀ (i : Nat) (x : Str), C.fr[i]? = some x → mg x = none
  bi : ∀ (i : Nat) (p : Str × String), C.bi[i]? = some p → mg p.1 = some (.builtin p.2)
  tp : ∀ (i : Nat) (p : Str × List Int), C.tp[i]? = some p → ∃ a, mg p.1 = some (.ref a) ∧ SqT K H0 a (p.2.map V.int)
  it : ∀ (i : Nat) (p : Str × Int), C.it[i]? = some p → ∃ t, mg p.1 = some (.int p.2 t)
  st : ∀ (i : Nat) (p : Str × Str), C.st[i]? = some p → ∃ t, mg p.1 = some (.str p.2 t)
theorem en_of {C : Cf} {K : PySem.W.Frag} {h : Heap} {mg : Str → Option Value} (X : K.In h) (G : h.Ns mainGlobals mg) (c : obsN C K = valN C) : En C K mg := by
  have c1 : C.more K = true := congrArg (fun z : AlN => z.1) c
  have c2 : He.SaysD C.fa C.fn K := congrArg (fun z : AlN => z.2) c
  obtain ⟨m1, c1⟩ := He.ba c1
  obtain ⟨m2, m3⟩ := He.ba c1
  have cf : ∀ f ∈ C.fa, f.ok K = true := fun f hf => by
    obtain ⟨i, hi⟩ := List.mem_iff_getElem?.mp hf
    exact c2.fact i hi
  have glo : ∀ x : Str, (He.Fa.glo x) ∈ C.fa → mg x = some (.ref (He.ga K x)) := fun x hx => He.glo_ok X G (cf _ hx)
  refine ⟨fun i d hd => ?_, fun i x hx => ?_, fun i p hp => ?_, fun i p hp => ?_, fun i p hp => ?_, fun i p hp => ?_⟩
  · have hm : d ∈ C.fn := List.mem_of_getElem? hd
    have q := List.all_eq_true.mp m3 d hm
    obtain ⟨q1, q2⟩ := He.ba q
    obtain ⟨q2, q3⟩ := He.ba q2
    have e1 : d.at_ = (d.name, none) := of_decide_eq_true q1
    obtain ⟨fd, F⟩ := c2.def_ i hd
    have e2 : d.dvs K = [] := by
      unfold He.DefD.dvs
      rw [List.isEmpty_iff.mp q2]
      rfl
    have e3 : d.kws K = [] := by
      unfold He.DefD.kws
      rw [List.isEmpty_iff.mp q3]
      rfl
    have e4 : He.fAd K d.at_ = He.ga K d.name := by rw [e1]; rfl
    rw [e2, e3, e4] at F
    exact ⟨⟨fd, F⟩, glo _ (by unfold Cf.fa; simp only [List.mem_append, List.mem_map]; exact .inl (.inl (.inl (.inl ⟨d, hm, rfl⟩)))), F.kp⟩
  · exact He.free_ok X G (cf _ (by unfold Cf.fa; simp only [List.mem_append, List.mem_map]; exact .inl (.inl (.inl (.inr ⟨x, List.mem_of_getElem? hx, rfl⟩)))))
  · exact PySem.W.mg_of X G (He.eqO_ok (List.all_eq_true.mp m1 p (List.mem_of_getElem? hp)))
  · refine ⟨He.ga K p.1, glo _ (by unfold Cf.fa; simp only [List.mem_append, List.mem_map]; exact .inl (.inl (.inr ⟨p, List.mem_of_getElem? hp, rfl⟩))), ?_⟩
    have q := He.tupB_ok (List.all_eq_true.mp m2 p (List.mem_of_getElem? hp)) H0
    rw [List.map_map] at q
    exact q
  · exact He.int_ok X G (cf _ (by unfold Cf.fa; simp only [List.mem_append, List.mem_map]; exact .inl (.inr ⟨p, List.mem_of_getElem? hp, rfl⟩)))
  · exact He.str_ok X G (cf _ (by unfold Cf.fa; simp only [List.mem_append, List.mem_map]; exact .inr ⟨p, List.mem_of_getElem? hp, rfl⟩))
/-! ### a def that keeps to its mirror -/
structure OkF (P : Program) (w : World) (K : PySem.W.Frag) (mg : Str → Option Value) (base : Heap) (k : Nat) (d : He.DefD) (ps : List Str) (F : List D → Mo D) : Prop where
  ex : ∃ fd, FunD K d.name d.qual d.params d.body d.scope [] [] (He.ga K d.name) fd ∧ FnG P w K mg base k (He.ga K d.name) fd ps (spF K ps.length F) ∧ Binds K fd ps []
  g : mg d.name = some (.ref (He.ga K d.name))
  kp : PySem.W.keepIn K (.ref (He.ga K d.name)) = true
section
variable {P : Program} {w : World} {K : PySem.W.Frag} {mg : Str → Option Value} {base : Heap} {C : Cf}
theorem okf_of (E : En C K mg) (i : Nat) {d : He.DefD} (hi : C.fn[i]? = some d) {N ps : List Str} (S : FnScope N ps d.scope) {k : Nat} {b : FS}
    (hbn : ∀ (kV doc pm : Value) (an : Option Addr) (cdv ct : Value) (us : List Value), us.length = ps.length → bindArgs (PySem.W.fnOf d.name d.qual d.params d.body d.scope .none kV doc pm an cdv ct) ⟨us, []⟩ = pure (ps.zip us))
    (hb : ∀ (cdv : Value) (A : Around) (outer : List Env) (s : Shared) (H : Hp), Cxo k (cxOf CX0 P w K mg base N d.qual d.scope (He.ga K d.name) cdv A outer s H E0).nox → PySem.W.kdsCode K cdv = true → SSs (cxOf CX0 P w K mg base N d.qual d.scope (He.ga K d.name) cdv A outer s H E0).nox d.body b) :
    OkF P w K mg base (k + 1) d ps (fRun N.length b) := by
  obtain ⟨⟨fd, F⟩, g, kp⟩ := E.df i d hi
  refine ⟨⟨fd, F, fng_of F S fun cdv A outer s H hcd hr hg => hb cdv A outer s H ⟨rfl, S.nd, hr, hg⟩ (kdsCode_of hcd), F.bindsN hbn⟩, g, kp⟩
theorem OkF.mono {j k : Nat} {d : He.DefD} {ps : List Str} {F : List D → Mo D} (O : OkF P w K mg base j d ps F) (h : j ≤ k) : OkF P w K mg base k d ps F :=
  let ⟨fd, a, b, c⟩ := O.ex
  ⟨⟨fd, a, b.mono h, c⟩, O.g, O.kp⟩
end
section
variable {X : Cx} {j k : Nat} {d : He.DefD} {ps ks : List Str} {n : Nat} {F : List D → Mo D} {p pos : Pos} {e : Expr} {es : List Expr} {kws : List Keyword} {fa fk : FA}
theorem se_cal (O : OkF X.prog X.w X.K X.mg X.base j d ps F) (c : Cxo k X) (hjk : j ≤ k) (ha : SA X (e :: es) fa) (hn : ALen fa ps.length) (hg : Gl X d.name)
    (hdb : (d.name == ("__debug__" : Str)) = false := by decide) (he : starEach (e :: es) X.env = (false, eval e X.env) :: starEach es X.env := by rfl) (hpl : (backTo pos (starEach es X.env)).any (·.1) = false := by rfl) :
    SE X (.Call (.Name d.name p) (e :: es) [] pos) (eArg F fa) := by
  obtain ⟨fd, a, b, hb⟩ := O.ex
  exact se_call (b.mono hjk) c O.g O.kp hb ha hn hg hdb he hpl
theorem se_cal0 (O : OkF X.prog X.w X.K X.mg X.base j d [] F) (c : Cxo k X) (hjk : j ≤ k) (hg : Gl X d.name)
    (hdb : (d.name == ("__debug__" : Str)) = false := by decide) : SE X (.Call (.Name d.name p) [] [] pos) (eArg F aNil) := by
  obtain ⟨fd, a, b, hb⟩ := O.ex
  exact se_call0 (b.mono hjk) c O.g O.kp hb hg hdb
theorem permL_len {α : Type} {ix : List Nat} {l : List α} (h : ∀ i ∈ ix, i < l.length) : (permL ix l).length = ix.length := by
  induction ix with
  | nil => rfl
  | cons i ix ih =>
    unfold permL
    have hi := h i (List.mem_cons_self ..)
    rw [List.filterMap_cons_some (List.getElem?_eq_getElem hi), List.length_cons, List.length_cons]
    exact congrArg Nat.succ (ih fun j hj => h j (List.mem_cons_of_mem _ hj))
theorem se_calK (O : OkF X.prog X.w X.K X.mg X.base j d ps F) (c : Cxo k X) (hjk : j ≤ k) (n : Nat) (ks : List Str) (ix : List Nat)
    (hbn : ∀ (kV doc pm : Value) (an : Option Addr) (cdv ct : Value) (us ws : List Value), us.length = n → ws.length = ks.length → bindArgs (PySem.W.fnOf d.name d.qual d.params d.body d.scope .none kV doc pm an cdv ct) ⟨us, ks.zip ws⟩ = pure (ps.zip (permL ix (us ++ ws))))
    (hix : (ix.length == ps.length && ix.all fun i => decide (i < n + ks.length)) = true)
    (ha : SA X (e :: es) fa) (hkw : SK X kws fk) (hn : ALen fa n) (hnk : ALen fk ks.length) (hg : Gl X d.name)
    (hall : (backToKw pos (keywordEach kws X.env)).all (·.1.isSome) = true := by rfl) (hks : (backToKw pos (keywordEach kws X.env)).filterMap (·.1) = ks := by rfl)
    (hdb : (d.name == ("__debug__" : Str)) = false := by decide) (he : starEach (e :: es) X.env = (false, eval e X.env) :: starEach es X.env := by rfl)
    (hpl : ((backTo pos (starEach (e :: es) X.env)).any (·.1) || (backToKw pos (keywordEach kws X.env)).any (·.1.isNone)) = false := by rfl) :
    SE X (.Call (.Name d.name p) (e :: es) kws pos) (eArgK F ix fa fk) := by
  obtain ⟨fd, a, b, _⟩ := O.ex
  obtain ⟨h1, h2⟩ := He.ba hix
  exact se_callK (b.mono hjk) c O.g O.kp (kbinds_ix a n ks ix hbn) ha hkw hn hnk (fun l hl => by
    rw [permL_len fun i hi => by rw [hl]; exact of_decide_eq_true (List.all_eq_true.mp h2 i hi)]
    exact beq_iff_eq.mp h1) hg hall hks hdb he hpl
theorem se_calK0 (O : OkF X.prog X.w X.K X.mg X.base j d ps F) (c : Cxo k X) (hjk : j ≤ k) (ks : List Str) (ix : List Nat)
    (hbn : ∀ (kV doc pm : Value) (an : Option Addr) (cdv ct : Value) (us ws : List Value), us.length = 0 → ws.length = ks.length → bindArgs (PySem.W.fnOf d.name d.qual d.params d.body d.scope .none kV doc pm an cdv ct) ⟨us, ks.zip ws⟩ = pure (ps.zip (permL ix (us ++ ws))))
    (hix : (ix.length == ps.length && ix.all fun i => decide (i < ks.length)) = true) (hkw : SK X kws fk) (hnk : ALen fk ks.length) (hg : Gl X d.name)
    (hall : (backToKw pos (keywordEach kws X.env)).all (·.1.isSome) = true := by rfl) (hks : (backToKw pos (keywordEach kws X.env)).filterMap (·.1) = ks := by rfl)
    (hdb : (d.name == ("__debug__" : Str)) = false := by decide)
    (hpl : ((backTo pos (starEach [] X.env)).any (·.1) || (backToKw pos (keywordEach kws X.env)).any (·.1.isNone)) = false := by rfl) :
    SE X (.Call (.Name d.name p) [] kws pos) (eArgK F ix aNil fk) := by
  obtain ⟨fd, a, b, _⟩ := O.ex
  obtain ⟨h1, h2⟩ := He.ba hix
  exact se_callK0 (b.mono hjk) c O.g O.kp (kbinds_ix a 0 ks ix hbn) hkw hnk (fun l hl => by
    rw [permL_len fun i hi => by rw [hl]; exact of_decide_eq_true (List.all_eq_true.mp h2 i hi)]
    exact beq_iff_eq.mp h1) hg hall hks hdb hpl
end
/-! ### the law's call -/
section
variable {P : Program} {w : World} {K : PySem.W.Frag} {mg mb : Str → Option Value} {k : Nat} {fa a : Addr} {fd : FuncData} {x : Str} {s : Shared} {vs : List Value} {ns : List Int}
/-- what is tracked at the law's call: the script at most -/
def scrH (K : PySem.W.Frag) (a : Addr) (o : Obj) (ns : List Int) : Hp := fun b => match K.lookup a with
  | some _ => none
  | none => if b = a then some (.frz o (.lst (ns.map V.int))) else none
theorem scrH_some {a b : Addr} {o : Obj} {u : HO} (h : scrH K a o ns b = some u) : K.lookup a = none ∧ b = a ∧ u = .frz o (.lst (ns.map V.int)) := by
  unfold scrH at h
  split at h
  · cases h
  · rename_i hk
    split at h
    · rename_i hb
      exact ⟨hk, hb, (Option.some.inj h).symm⟩
    · cases h
theorem law_in (KX : K.In s.heap) (hns : s.heap.Ns mainGlobals mg) (hb : s.heap.Ns builtinsNs mb) (hbb : ∀ x : Str, x ≠ "__name__" → mb x = bootBuiltins x) (hlim : s.heap.NoLimit) (hg : s.gens = #[])
    (ha : s.heap.get? a = some { cls := .type "list", data := .seq vs.toArray }) (hi : IntsAre vs ns) (hl : ns.length ≤ sizeLine) (hr : Room k callerA) {F : List D → Mo D}
    (hG : ∀ base : Heap, K.In base → base.Ns mainGlobals mg → FnG P w K mg base k fa fd [x] (spF K 1 F)) (hbind : ∀ (s : Shared) (u : Value), BindsTo s fd ⟨[u], []⟩ [(x, u)])
    (hF : ∃ S', F [.scr (ns.map D.int)] [] = some (.bl true, S')) :
    codeAny (model P w) callerA (.call (.ref fa) ⟨[.ref a], []⟩) (fun r s' => r = .ok (.ret (.bool true)) ∧ OldK s.heap s'.heap ∧ s'.os = s.os ∧ AllBare s'.gens) s := by
  obtain ⟨S', hF⟩ := hF
  have rv := vals_ints hi
  generalize ho : ({ cls := .type "list", data := .seq vs.toArray } : Obj) = ob at ha
  generalize hHe : scrH K a ob ns = H
  have key : ∀ {b : Addr} {u : HO}, H b = some u → K.lookup a = none ∧ b = a ∧ u = .frz ob (.lst (ns.map V.int)) := fun h => by
    rw [← hHe] at h
    exact scrH_some h
  have hok : HOk P w H s.heap := fun b u z => by
    obtain ⟨_, rfl, rfl⟩ := key z
    refine ⟨ha, ?_⟩
    subst ho
    exact ⟨by rw [List.length_map]; exact hl, vs, _, rv, ha⟩
  have quiet : ∀ {b : Addr} {o : Obj}, s.heap.get? b = some o → (∀ v n, o.data ≠ .seq v n) → H b = none := fun {b o} e d => by
    cases q : H b with
    | none => rfl
    | some u =>
      obtain ⟨_, rfl, _⟩ := key q
      rw [ha] at e
      cases e
      subst ho
      exact absurd rfl (d _ _)
  have dicts : ∀ {b : Addr} {m : Str → Option Value}, s.heap.Ns b m → (hidT s.heap H).Ns b m := fun ⟨o, es, ep, e, d, r⟩ => ⟨o, es, ep, hidT_get e (quiet e fun v n z => by rw [d] at z; cases z), d, r⟩
  have KB : K.In (hidT s.heap H) := fun b o e => hidT_get (KX b o e) (by
    cases q : H b with
    | none => rfl
    | some u =>
      obtain ⟨hk, rfl, _⟩ := key q
      rw [hk] at e
      cases e)
  have M : Mod K mg (hidT s.heap H) := { kin := KB, glob := dicts hns, blt := ⟨mb, dicts hb, hbb⟩, nolimit := by obtain ⟨mc, h1, h2⟩ := hlim; exact ⟨mc, dicts h1, h2⟩ }
  have E : Env0 P w K mg (hidT s.heap H) callerA [] s H := { frames := rfl, mod := M, bs := fun _ _ e => of_hidT e, bsz := Nat.le_of_eq (hidT_size _ _), funs := trivial, frf := fun b hb => (nomatch (show b ∈ ([] : List Addr) from hb)), hok := hok, bare := .of_eq hg }
  have scr : Fz ⟨[], []⟩ H a (.lst (ns.map V.int)) ∨ SqL K H0 a (ns.map V.int) := by
    cases hk : K.lookup a with
    | some o =>
      have e := KX a o hk
      rw [ha] at e
      cases e
      subst ho
      exact .inr (.inr ⟨_, vs.toArray, _, hk, rfl, rfl, rfl, by rw [List.size_toArray, hi.length]; exact hl, by simpa using rv⟩)
    | none =>
      refine .inl ⟨.inr ⟨ob, ?_⟩, by rintro (z | z) <;> cases z⟩
      rw [← hHe]
      unfold scrH
      rw [hk]
      exact if_pos rfl
  have W0 : WR K ⟨[], []⟩ [] H := { len := rfl, nd := List.nodup_nil, dis := fun _ h => (nomatch h), trk := fun b h => (by rcases h with z | z <;> exact absurd z (by simp)), get := fun n b o e _ => (by simp at e) }
  have sp : spF K 1 F [.ref a] H (fun v _ => v = .bl true) := ⟨rfl, ⟨[], []⟩, [], _, _, S', W0, .cons (.scr scr (drs_ints ns)) .nil, hF, fun v m' H' _ _ r => by cases r; rfl⟩
  refine codeAny_mono ((hG _ KB (dicts hns)).run callerA [] s H ⟨[.ref a], []⟩ [.ref a] [.ref a] _ hr rfl E (hbind s (.ref a)) (.cons rfl .nil) sp) fun r s' h => ?_
  cases r with
  | error e => exact False.elim h
  | ok fl => cases fl with
    | ret u =>
      obtain ⟨v, H', os, bare, un, hk2, rel, q⟩ := h
      have q' : v = .bl true := q
      subst q'
      have hu : u = Value.bool true := rel
      subst hu
      refine ⟨rfl, OldK.of_keep fun b o e => ?_, os, bare⟩
      cases q : H b with
      | none => exact un.keep b o e q (fun z => nomatch (show b ∈ ([] : List Addr) from z)) (fun z => nomatch (show b ∈ ([] : List Addr) from z))
      | some u =>
        obtain ⟨_, rfl, rfl⟩ := key q
        rw [ha] at e
        cases e
        exact (hk2 b _ (un.frzs b ob _ q)).1
    | _ => exact False.elim h
/-- the law's end: its def keeps to a mirror that ends in True -/
theorem walk_nw {l : PySem.W.OpenLaw} {n : Nat} {q : Program} {loose : List Str} {XP : (Str → Option Value) → Heap → Prop} {N : Nat} {C : Cf} {d : DefRec} {dL : He.DefD} {F : List D → Mo D}
    (hn : l.most = some n) (hn2 : n ≤ sizeLine) (hdf : d.params.defaults = []) (hr : Room k callerA) (hname : d.name = dL.name)
    (hO : ∀ (w : World) (K : PySem.W.Frag) (mg : Str → Option Value) (base : Heap), En C K mg → OkF l.prog w K mg base k dL [x] F)
    (hbn : ∀ (kV doc pm : Value) (an : Option Addr) (cdv ct : Value) (us : List Value), us.length = 1 → bindArgs (PySem.W.fnOf dL.name dL.qual dL.params dL.body dL.scope .none kV doc pm an cdv ct) ⟨us, []⟩ = pure ([x].zip us))
    (hF : ∀ ns : List Int, ns.length ≤ n → (∀ z ∈ ns, Builtin.Int.intBits z ≤ 1048576) → ∃ S', F [.scr (ns.map D.int)] [] = some (.bl true, S')) :
    PySem.W.WalkO q loose XP (hookN N C).says l.row.toRowW d [] (fun f vs => PySem.call f vs) := by
  refine Att.attach_callB hn hdf fun w s₀ s₁ mg mb fa o pm cd doc a vs ns G Y ho hd hcd hmg hobj hints hlen hbits hg => ?_
  obtain ⟨K, KX, c⟩ := Y
  have E := en_of KX G.T.g c
  have base0 := hO w K mg s₁.heap E
  have e : fa = He.ga K dL.name := by
    have z : some (Value.ref fa) = some (Value.ref (He.ga K dL.name)) := by rw [← hmg, hname, base0.g]
    exact Value.ref.inj (Option.some.inj z)
  subst e
  obtain ⟨fd, Fd, _, _⟩ := base0.ex
  refine law_in (x := x) (fd := fd) KX G.T.g G.T.b G.T.builtins G.T.nolimit hg hobj hints (Nat.le_trans hlen hn2) hr (fun base _ _ => ?_) (fun s u => Fd.bindsA (ps := [x]) hbn s [u] rfl) (hF ns hlen hbits)
  obtain ⟨fd2, Fd2, Gd, _⟩ := (hO w K mg base E).ex
  have ee : fd2 = fd := by
    obtain ⟨oc, od, dV, kV, doc, pm, an, cdv, ct, osl, rfl, lk, _⟩ := Fd.ex
    obtain ⟨oc2, od2, dV2, kV2, doc2, pm2, an2, cdv2, ct2, osl2, rfl, lk2, _⟩ := Fd2.ex
    rw [lk] at lk2
    cases lk2
    rfl
  subst ee
  exact Gd
end
end Nw
namespace Nw
open PySem PySem.Spec PyProof.Rows L2
/-! ### operations for all kinds of values -/
def isLs : D → Bool
  | .lst _ => true
  | .ref _ => true
  | .scr _ => true
  | _ => false
def dAddY (al : List D → Mo D) : D → D → Mo D := fun x y S => if isLs x then dCat al x y S else dAdd x y S
noncomputable def dMulY (al : List D → Mo D) : D → D → Mo D := fun x y S => if isLs x then dRep al x y S else dMul x y S
section
variable {X : Cx} {k : Nat}
theorem o_add : OpR X (binaryOp .Add) (fun x y H Q => rAddX X.K x y H Q ∨ rCat x y H Q) := op_addX.or op_cat
theorem d_add {K : PySem.W.Frag} {al : List D → Mo D} (hal : AlEnd K al) : OpD K (fun x y H Q => rAddX K x y H Q ∨ rCat x y H Q) (dAddY al) := fun m S H x y v u d S' Q w rx ry h q => by
  unfold dAddY at h
  split at h
  · exact .inr (opd_cat hal m S H x y v u d S' Q w rx ry h q)
  · exact .inl (opd_add m S H x y v u d S' Q w rx ry h q)
theorem o_mul : OpR X (binaryOp .Mult) (fun x y H Q => rI CMulX2 (fun i j => .int (i * j)) x y H Q ∨ rRep x y H Q) := op_mulX2.or op_rep
theorem d_mul {K : PySem.W.Frag} {al : List D → Mo D} (hal : AlEnd K al) : OpD K (fun x y H Q => rI CMulX2 (fun i j => .int (i * j)) x y H Q ∨ rRep x y H Q) (dMulY al) := fun m S H x y v u d S' Q w rx ry h q => by
  unfold dMulY at h
  split at h
  · exact .inr (opd_rep hal m S H x y v u d S' Q w rx ry h q)
  · exact .inl (opd_mul m S H x y v u d S' Q w rx ry h q)
theorem Cxo.hu (c : Cxo k X) : X.A.units + 65 < cLine := by have := c.room.un; omega
theorem o_eq (c : Cxo k X) : OpR X (compareOp .Eq) (rEqX X.K) := op_eq.or (op_eqD (Nat.lt_of_succ_lt c.hu))
theorem o_ne (c : Cxo k X) : OpR X (compareOp .NotEq) (rNeX X.K) := op_ne.or (op_neD (Nat.lt_of_succ_lt c.hu))
theorem o_in (c : Cxo k X) : OpR X (compareOp .In) (rInX X.K false) := op_inX c.hu
theorem o_notIn (c : Cxo k X) : OpR X (compareOp .NotIn) (rInX X.K true) := op_notInX c.hu
theorem Cxo.blk (c : Cxo k X) (s : Shared) (H : Hp) (scope : Scope) (env : Env) (fp : List Addr) : Cxo k (X.blk s H scope env fp) := ⟨c.calm, c.nd, c.room, c.gu⟩
end
end Nw
namespace Nw
open PySem PySem.Spec PyProof.Rows L2
/-! ### loops of a mirror -/
theorem while_stop {c : FT} {b : FS} {ρ : Rho} {S S1 : Sto} (h : c ρ S = some (false, S1)) : sWhile c b ρ S = some (.nx, ρ, S1) := while_of (n := 0) (.stop h)
theorem while_step {c : FT} {b : FS} {ρ ρ2 : Rho} {S S1 S2 : Sto} {r : Fo} (h : c ρ S = some (true, S1)) (h2 : b ρ S1 = some (.nx, ρ2, S2)) (h3 : sWhile c b ρ2 S2 = some r) : sWhile c b ρ S = some r := by
  obtain ⟨n, w⟩ := while_to h3
  exact while_of (.next h h2 w)
theorem sFor_eq {f : FI} {g : FG} {b : FS} {ρ : Rho} {S S1 : Sto} {k : Wk} (h : f ρ S = some (k, S1)) : sFor f g b ρ S = forL k.gd g b k.l ρ S1 := by
  unfold sFor
  rw [h]
/-- a loop to its end, by what stands ahead of each turn -/
theorem forL_run {gd : Sto → Prop} {g : FG} {b : FS} : ∀ (l : List D) (I : Nat → Rho → Sto → Prop) (ρ : Rho) (S : Sto), I 0 ρ S →
    (∀ j d ρ S, l[j]? = some d → I j ρ S → gd S ∧ ∃ ρ1 S1, g d ρ S = some (ρ1, S1) ∧ ∃ fl ρ2 S2, b ρ1 S1 = some (fl, ρ2, S2) ∧ (fl = .nx ∨ fl = .ct) ∧ I (j + 1) ρ2 S2) →
    (∀ ρ S, I l.length ρ S → gd S) → ∃ ρ' S', forL gd g b l ρ S = some (.nx, ρ', S') ∧ I l.length ρ' S'
  | [], I, ρ, S, h0, _, he => by
    refine ⟨ρ, S, ?_, h0⟩
    unfold forL
    rw [if_pos (he ρ S h0)]
  | d :: l, I, ρ, S, h0, hs, he => by
    obtain ⟨hg, ρ1, S1, e1, fl, ρ2, S2, e2, hf, h1⟩ := hs 0 d ρ S rfl h0
    obtain ⟨ρ', S', e3, h3⟩ := forL_run l (fun j => I (j + 1)) ρ2 S2 h1 (fun j d ρ S e i => hs (j + 1) d ρ S (by simpa using e) i) (fun ρ S i => he ρ S (by simpa using i))
    refine ⟨ρ', S', ?_, by simpa using h3⟩
    unfold forL
    rw [if_pos hg, e1]
    rcases hf with rfl | rfl <;> (dsimp only; rw [e2]; exact e3)
/-- a comprehension that leaves the store alone -/
theorem lcR_pure {gd : Sto → Prop} {g : FG} {t : FT} {e : FE} {ρ : Rho} {S : Sto} (p : D → Bool) (f : D → D) (hg : gd S) : ∀ l : List D, (∀ d ∈ l, ∃ ρ1, g d ρ S = some (ρ1, S) ∧ t ρ1 S = some (p d, S) ∧ (p d = true → e ρ1 S = some (f d, S))) →
    lcR gd g t e l ρ S = some ((l.filter p).map f, S)
  | [], _ => by
    unfold lcR
    rw [if_pos hg]
    rfl
  | d :: l, h => by
    obtain ⟨ρ1, e1, e2, e3⟩ := h d (List.mem_cons_self ..)
    have ih := lcR_pure p f hg l fun d hd => h d (List.mem_cons_of_mem _ hd)
    unfold lcR
    rw [if_pos hg, e1]
    dsimp only
    rw [e2]
    cases hp : p d with
    | true =>
      dsimp only
      rw [e3 hp]
      dsimp only
      rw [ih, List.filter_cons_of_pos hp]
      rfl
    | false =>
      dsimp only
      rw [ih, List.filter_cons_of_neg (by rw [hp]; decide)]
/-- a comprehension without a test whose items are drawn -/
theorem lcR_run {gd : Sto → Prop} {g : FG} {e : FE} {ρ : Rho} (I : Sto → Prop) (P : D → D → Prop) : ∀ (l : List D) (S : Sto), I S →
    (∀ d ∈ l, ∀ S, I S → gd S ∧ ∃ ρ1, g d ρ S = some (ρ1, S) ∧ ∃ y S2, e ρ1 S = some (y, S2) ∧ P d y ∧ I S2) → (∀ S, I S → gd S) →
    ∃ ys S', lcR gd g tTrue e l ρ S = some (ys, S') ∧ ys.length = l.length ∧ (∀ (i : Nat) (d y : D), l[i]? = some d → ys[i]? = some y → P d y) ∧ I S'
  | [], S, h0, _, he => by
    refine ⟨[], S, ?_, rfl, fun i d y h => by simp at h, h0⟩
    unfold lcR
    rw [if_pos (he S h0)]
  | d :: l, S, h0, hs, he => by
    obtain ⟨hg, ρ1, e1, y, S2, e2, hp, h1⟩ := hs d (List.mem_cons_self ..) S h0
    obtain ⟨ys, S', e3, hl, hP, h3⟩ := lcR_run I P l S2 h1 (fun d hd => hs d (List.mem_cons_of_mem _ hd)) he
    refine ⟨y :: ys, S', ?_, by simp [hl], fun i d' y' h1 h2 => ?_, h3⟩
    · unfold lcR
      rw [if_pos hg, e1]
      dsimp only [tTrue]
      rw [e2]
      dsimp only
      rw [e3]
    · cases i with
      | zero => simp at h1 h2; subst h1 h2; exact hp
      | succ i => exact hP i d' y' (by simpa using h1) (by simpa using h2)
/-- a comprehension with a test that draws: the items kept stand for items of the list -/
theorem lcR_sub {gd : Sto → Prop} {g : FG} {t : FT} {e : FE} {ρ : Rho} (I : Sto → Prop) (P : D → D → Prop) : ∀ (l : List D) (S : Sto), I S →
    (∀ d ∈ l, ∀ S, I S → gd S ∧ ∃ ρ1, g d ρ S = some (ρ1, S) ∧ ∃ b S1, t ρ1 S = some (b, S1) ∧ I S1 ∧ (b = true → ∃ y S2, e ρ1 S1 = some (y, S2) ∧ P d y ∧ I S2)) → (∀ S, I S → gd S) →
    ∃ ys S', lcR gd g t e l ρ S = some (ys, S') ∧ ys.length ≤ l.length ∧ (∃ ds, List.Sublist ds l ∧ ds.length = ys.length ∧ ∀ (i : Nat) (d y : D), ds[i]? = some d → ys[i]? = some y → P d y) ∧ I S'
  | [], S, h0, _, he => by
    refine ⟨[], S, ?_, Nat.le_refl _, ⟨[], .slnil, rfl, fun i d y h => by simp at h⟩, h0⟩
    unfold lcR
    rw [if_pos (he S h0)]
  | d :: l, S, h0, hs, he => by
    obtain ⟨hg, ρ1, e1, b, S1, e2, h1, h2⟩ := hs d (List.mem_cons_self ..) S h0
    cases b with
    | false =>
      obtain ⟨ys, S', e3, hl, ⟨ds, sl, hd, hP⟩, h3⟩ := lcR_sub I P l S1 h1 (fun d hd => hs d (List.mem_cons_of_mem _ hd)) he
      refine ⟨ys, S', ?_, by simp; omega, ⟨ds, .cons d sl, hd, hP⟩, h3⟩
      unfold lcR
      rw [if_pos hg, e1]
      dsimp only
      rw [e2]
      exact e3
    | true =>
      obtain ⟨y, S2, e4, hp, h5⟩ := h2 rfl
      obtain ⟨ys, S', e3, hl, ⟨ds, sl, hd, hP⟩, h3⟩ := lcR_sub I P l S2 h5 (fun d hd => hs d (List.mem_cons_of_mem _ hd)) he
      refine ⟨y :: ys, S', ?_, by simp; omega, ⟨d :: ds, .cons₂ d sl, by simp [hd], fun i d' y' q1 q2 => ?_⟩, h3⟩
      · unfold lcR
        rw [if_pos hg, e1]
        dsimp only
        rw [e2]
        dsimp only
        rw [e4]
        dsimp only
        rw [e3]
      · cases i with
        | zero => simp at q1 q2; subst q1 q2; exact hp
        | succ i => exact hP i d' y' (by simpa using q1) (by simpa using q2)
theorem iRan1_eq {f : FE} {ρ : Rho} {S S1 : Sto} {j : Int} (h : f ρ S = some (.int j, S1)) (h1 : -4611686018427387904 ≤ j) (h2 : j < 4611686018427387904) : iRan1 f ρ S = some (⟨rangeL 0 j.toNat, fun _ => True⟩, S1) := by
  unfold iRan1
  rw [h]
  exact if_pos (cl_yes ⟨by omega, by omega⟩)
theorem iRan2_eq {f g : FE} {ρ : Rho} {S S1 S2 : Sto} {i j : Int} (h : f ρ S = some (.int i, S1)) (h' : g ρ S1 = some (.int j, S2)) (h0 : -4611686018427387904 ≤ i ∧ i < 4611686018427387904) (h1 : -4611686018427387904 ≤ j) (h2 : j < 4611686018427387904) : iRan2 f g ρ S = some (⟨rangeL i (j - i).toNat, fun _ => True⟩, S2) := by
  unfold iRan2
  rw [h]
  dsimp only
  rw [h']
  exact if_pos (cl_yes ⟨by omega, by omega, by omega, by omega⟩)
theorem fLc_eq {f : FI} {g : FG} {t : FT} {e : FE} {vs : List Nat} {ρ : Rho} {S S1 : Sto} {k : Wk} (h : f ρ S = some (k, S1)) (hk : k.l.length ≤ sizeLine) : fLc f g t e vs ρ S = lcR k.gd g t e k.l (wipeR ρ vs) S1 := by
  unfold fLc
  rw [h]
  exact if_pos hk
/-! ### values that are shown, that are compared -/
mutual
def fit (B : Nat) : Nat → D → Bool
  | _, .non => true
  | _, .bl _ => true
  | _, .int i => decide (i.natAbs < 10 ^ B)
  | _, .str x => PyData.strOk x
  | n + 1, .tup l => fits B n l
  | n + 1, .lst l => fits B n l
  | n + 1, .scr l => fits B n l
  | _, _ => false
def fits (B : Nat) : Nat → List D → Bool
  | _, [] => true
  | n, d :: l => fit B n d && fits B n l
end
mutual
def nodes : D → Nat
  | .str x => 1 + x.length
  | .tup l => 1 + nodess l
  | .lst l => 1 + nodess l
  | .scr l => 1 + nodess l
  | _ => 1
def nodess : List D → Nat
  | [] => 0
  | d :: l => nodes d + nodess l
end
theorem fits_all (B n : Nat) : ∀ l : List D, fits B n l = l.all (fit B n)
  | [] => by simp [fits]
  | d :: l => by simp [fits, fits_all B n l]
theorem nodess_sum : ∀ l : List D, nodess l = (l.map nodes).sum
  | [] => by simp [nodess]
  | d :: l => by simp [nodess, nodess_sum l]
theorem nodess_le {c : Nat} : ∀ {l : List D}, (∀ d ∈ l, nodes d ≤ c) → nodess l ≤ l.length * c
  | [], _ => by simp [nodess]
  | d :: l, h => by
    have h1 := h d (List.mem_cons_self ..)
    have h2 := nodess_le (l := l) fun d hd => h d (List.mem_cons_of_mem _ hd)
    simp only [nodess, List.length_cons, Nat.add_mul]
    omega
mutual
theorem fit_dp {B : Nat} : ∀ {n : Nat} {d : D}, fit B n d = true → isDp d = true ∧ (toPy d).canLay0 = true ∧ (toPy d).depth ≤ n
  | _, .non, _ => by simp [isDp, toPy, PyData.canLay0, PyData.depth]
  | _, .bl _, _ => by simp [isDp, toPy, PyData.canLay0, PyData.depth]
  | _, .int i, _ => by simp [isDp, toPy, PyData.canLay0, PyData.depth]
  | _, .str x, h => by
    have h2 : PyData.strOk x = true := by cases ‹Nat› <;> simpa [fit] using h
    simp [isDp, toPy, PyData.canLay0, PyData.depth, h2]
  | n + 1, .tup l, h => by
    obtain ⟨a, b, c⟩ := fits_dp (B := B) (n := n) (l := l) (by simpa [fit] using h)
    simp only [isDp, toPy, PyData.canLay0, PyData.depth]
    exact ⟨a, b, by omega⟩
  | n + 1, .lst l, h => by
    obtain ⟨a, b, c⟩ := fits_dp (B := B) (n := n) (l := l) (by simpa [fit] using h)
    simp only [isDp, toPy, PyData.canLay0, PyData.depth]
    exact ⟨a, b, by omega⟩
  | n + 1, .scr l, h => by
    obtain ⟨a, b, c⟩ := fits_dp (B := B) (n := n) (l := l) (by simpa [fit] using h)
    simp only [isDp, toPy, PyData.canLay0, PyData.depth]
    exact ⟨a, b, by omega⟩
  | 0, .tup l, h => by simp [fit] at h
  | 0, .lst l, h => by simp [fit] at h
  | 0, .scr l, h => by simp [fit] at h
  | n, .ty _, h => by cases n <;> simp [fit] at h
  | n, .ref _, h => by cases n <;> simp [fit] at h
  | n, .dct _ _, h => by cases n <;> simp [fit] at h
theorem fits_dp {B : Nat} : ∀ {n : Nat} {l : List D}, fits B n l = true → isDps l = true ∧ PyData.canLayAll0 (toPys l) = true ∧ PyData.depthAll (toPys l) ≤ n
  | _, [], _ => by simp [isDps, toPys, PyData.canLayAll0, PyData.depthAll]
  | n, d :: l, h => by
    simp only [fits, Bool.and_eq_true] at h
    obtain ⟨a, b, c⟩ := fit_dp h.1
    obtain ⟨a2, b2, c2⟩ := fits_dp h.2
    simp only [isDps, toPys, PyData.canLayAll0, PyData.depthAll, a, a2, b, b2, Bool.and_self, true_and]
    exact Nat.max_le.mpr ⟨c, c2⟩
end
theorem fit_okD {B n : Nat} {d : D} (h : fit B n d = true) (hn : n ≤ 64) : okD d = true := by
  obtain ⟨a, b, c⟩ := fit_dp h
  unfold okD SeqAt.shaped
  rw [a, b]
  simp only [Bool.true_and, decide_eq_true_eq]
  omega
theorem log_lt {i : Int} {B : Nat} (hB : B ≤ 570) (h : i.natAbs < 10 ^ B) : i.natAbs.log2 < 1920 := by
  by_cases h0 : i.natAbs = 0
  · rw [h0]; decide
  · rw [Nat.log2_lt h0]
    have h1 : 10 ^ B ≤ 10 ^ 570 := Nat.pow_le_pow_right (by decide) hB
    have h2 : (10 : Nat) ^ 570 < 2 ^ 1920 := by decide +kernel
    omega
mutual
theorem fit_show {B : Nat} (hB0 : 0 < B) (hB : B ≤ 570) : ∀ {n : Nat} {d : D}, fit B n d = true → (toPy d).showable = true ∧ (toPy d).shown.length + 2 ≤ (B + 12) * nodes d
  | _, .non, _ => by
    have e : (PyData.shown .none).length = 4 := rfl
    simp only [toPy, nodes, e]
    exact ⟨rfl, by omega⟩
  | _, .bl b, _ => by
    have e : (PyData.shown (.bool b)).length ≤ 5 := by cases b <;> decide
    simp only [toPy, nodes]
    exact ⟨rfl, by omega⟩
  | n, .int i, h => by
    have h2 : i.natAbs < 10 ^ B := by cases n <;> simpa [fit] using h
    have h3 : (toString i).length ≤ B + 1 := int_text_length_le10 hB0 h2
    have e : (PyData.shown (.int i)).length ≤ B + 1 := by
      show (Str.ofString (toString i)).length ≤ B + 1
      rw [PySem.ofString_length]
      exact h3
    simp only [toPy, nodes, PyData.showable, decide_eq_true_eq]
    exact ⟨log_lt hB h2, by omega⟩
  | n, .str x, h => by
    have h2 : PyData.strOk x = true := by cases n <;> simpa [fit] using h
    have hx : ∀ c ∈ x.cps.toList, c < 16 ^ 8 := by
      intro c hcm
      have h0 : x.cps.all (· < 0x110000) = true := h2
      have := (Array.all_eq_true_iff_forall_mem.mp h0) c (Array.mem_toList_iff.mp hcm)
      have e : (16 : Nat) ^ 8 = 4294967296 := by decide
      have : c < 0x110000 := by simpa using this
      omega
    have e := StrLaws.reprText_len x hx
    have e2 : x.length = x.cps.size := rfl
    simp only [toPy, nodes, PyData.shown, PyData.showable]
    refine ⟨trivial, ?_⟩
    rw [Nat.mul_add]
    have : 12 * x.length ≤ (B + 12) * x.length := Nat.mul_le_mul_right _ (by omega)
    omega
  | n + 1, .tup l, h => by
    obtain ⟨a, b⟩ := fits_show hB0 hB (n := n) (l := l) (by simpa [fit] using h)
    have h3 := tupleText_len_le (PyData.shownAll (toPys l))
    have h4 := PyData.shownAll_length (toPys l)
    simp only [toPy, nodes, PyData.shown, PyData.showable]
    refine ⟨a, ?_⟩
    rw [Nat.mul_add]
    omega
  | n + 1, .lst l, h => by
    obtain ⟨a, b⟩ := fits_show hB0 hB (n := n) (l := l) (by simpa [fit] using h)
    have h3 := listText_len_le (PyData.shownAll (toPys l))
    have h4 := PyData.shownAll_length (toPys l)
    simp only [toPy, nodes, PyData.shown, PyData.showable]
    refine ⟨a, ?_⟩
    rw [Nat.mul_add]
    omega
  | n + 1, .scr l, h => by
    obtain ⟨a, b⟩ := fits_show hB0 hB (n := n) (l := l) (by simpa [fit] using h)
    have h3 := listText_len_le (PyData.shownAll (toPys l))
    have h4 := PyData.shownAll_length (toPys l)
    simp only [toPy, nodes, PyData.shown, PyData.showable]
    refine ⟨a, ?_⟩
    rw [Nat.mul_add]
    omega
  | 0, .tup l, h => by simp [fit] at h
  | 0, .lst l, h => by simp [fit] at h
  | 0, .scr l, h => by simp [fit] at h
  | n, .ty _, h => by cases n <;> simp [fit] at h
  | n, .ref _, h => by cases n <;> simp [fit] at h
  | n, .dct _ _, h => by cases n <;> simp [fit] at h
theorem fits_show {B : Nat} (hB0 : 0 < B) (hB : B ≤ 570) : ∀ {n : Nat} {l : List D}, fits B n l = true → PyData.showableAll (toPys l) = true ∧ ((PyData.shownAll (toPys l)).map (·.length)).sum + 2 * (toPys l).length ≤ (B + 12) * nodess l
  | _, [], _ => by simp [toPys, PyData.showableAll, PyData.shownAll, nodess]
  | n, d :: l, h => by
    simp only [fits, Bool.and_eq_true] at h
    obtain ⟨a, b⟩ := fit_show hB0 hB h.1
    obtain ⟨a2, b2⟩ := fits_show hB0 hB h.2
    simp only [toPys, PyData.showableAll, PyData.shownAll, nodess, a, a2, Bool.and_self, true_and, List.map_cons, List.sum_cons, List.length_cons, Nat.mul_add]
    omega
end
theorem repr_ok {B n : Nat} {d : D} {S : Sto} (hB0 : 0 < B) (hB : B ≤ 570) (h : fit B n (rdD S d) = true) (hn : n ≤ 60) (hc : (B + 12) * nodes (rdD S d) ≤ 16000000) : dRepr [d] S = some (.str (toPy (rdD S d)).shown, S) := by
  obtain ⟨a, b⟩ := fit_show hB0 hB h
  obtain ⟨a1, b1, c1⟩ := fit_dp h
  have e : (isDp (rdD S d) && okShow (toPy (rdD S d))) = true := by
    unfold okShow
    rw [a1, a]
    simp only [Bool.true_and, Bool.and_eq_true, decide_eq_true_eq]
    exact ⟨by omega, by rw [sizeLine_eq]; omega⟩
  show (if cl ((isDp (rdD S d) && okShow (toPy (rdD S d))) = true) = true then some (D.str (toPy (rdD S d)).shown, S) else none) = _
  rw [if_pos (cl_yes e)]
theorem eqvAll_ints : ∀ xs ys : List Int, PyData.eqvAll (toPys (xs.map D.int)) (toPys (ys.map D.int)) = decide (xs = ys)
  | [], [] => by simp [toPys, PyData.eqvAll]
  | [], _ :: _ => by simp [toPys, PyData.eqvAll]
  | _ :: _, [] => by simp [toPys, PyData.eqvAll]
  | x :: xs, y :: ys => by
    have ih := eqvAll_ints xs ys
    simp only [List.map_cons, toPys, PyData.eqvAll, toPy, PyData.eqv, ih]
    by_cases h : x = y <;> simp [h]
theorem inD_ints (x : Int) (l : List Int) : inD (.int x) (l.map D.int) = decide (x ∈ l) := by
  unfold inD
  induction l with
  | nil => simp
  | cons y l ih =>
    rw [List.map_cons, List.any_cons, ih]
    simp only [toPy, PyData.eqv]
    by_cases h : y = x
    · subst h; simp
    · have h2 : x ≠ y := fun e => h e.symm
      simp [h, h2]
theorem fits_ints {B n : Nat} {l : List Int} (h : ∀ i ∈ l, i.natAbs < 10 ^ B) : fits B n (l.map D.int) = true := by
  rw [fits_all, List.all_eq_true]
  intro d hd
  obtain ⟨i, hi, rfl⟩ := List.mem_map.mp hd
  cases n <;> simpa [fit] using h i hi
theorem nodess_ints (l : List Int) : nodess (l.map D.int) = l.length := by
  induction l with
  | nil => simp [nodess]
  | cons i l ih => simp [nodess, nodes, ih]; omega
/-- plain values of ints of any size can be compared -/
theorem okD_ints (l : List Int) : isDps (l.map D.int) = true ∧ PyData.canLayAll0 (toPys (l.map D.int)) = true ∧ PyData.depthAll (toPys (l.map D.int)) = 0 := by
  induction l with
  | nil => simp [isDps, toPys, PyData.canLayAll0, PyData.depthAll]
  | cons i l ih => simp [isDps, toPys, PyData.canLayAll0, PyData.depthAll, isDp, toPy, PyData.canLay0, PyData.depth, ih]
theorem okD_lints (l : List Int) : okD (.lst (l.map D.int)) = true := by
  obtain ⟨a, b, c⟩ := okD_ints l
  simp [okD, SeqAt.shaped, isDp, toPy, PyData.canLay0, PyData.depth, a, b, c]
theorem okD_tints (l : List Int) : okD (.tup (l.map D.int)) = true := by
  obtain ⟨a, b, c⟩ := okD_ints l
  simp [okD, SeqAt.shaped, isDp, toPy, PyData.canLay0, PyData.depth, a, b, c]
theorem okD_int (i : Int) : okD (.int i) = true := by simp [okD, SeqAt.shaped, isDp, toPy, PyData.canLay0, PyData.depth]
section
variable {i j : Int} {S : Sto}
theorem dMul_R (h1 : -18446744073709551616 < j) (h2 : j < 18446744073709551616) : dMul (.int i) (.int j) S = some (.int (i * j), S) := by
  show (if cl (MulOk i j) = true then some (D.int (i * j), S) else none) = _
  rw [if_pos (cl_yes (.inl (.inr ⟨h1, h2⟩)))]
theorem dMul_L (h1 : -18446744073709551616 < i) (h2 : i < 18446744073709551616) : dMul (.int i) (.int j) S = some (.int (i * j), S) := by
  show (if cl (MulOk i j) = true then some (D.int (i * j), S) else none) = _
  rw [if_pos (cl_yes (.inl (.inl ⟨h1, h2⟩)))]
theorem dMul_W (h : i.natAbs.log2 + j.natAbs.log2 < 1000000) : dMul (.int i) (.int j) S = some (.int (i * j), S) := by
  show (if cl (MulOk i j) = true then some (D.int (i * j), S) else none) = _
  rw [if_pos (cl_yes (.inr h))]
theorem dSub_int : dSub (.int i) (.int j) S = some (.int (i - j), S) := Eq.symm (Eq.symm rfl)
theorem dMod_int (h : 0 < j) : dMod (.int i) (.int j) S = some (.int (i % j), S) := by
  show (if cl (0 < j) = true then some (D.int (i % j), S) else none) = _
  rw [if_pos (cl_yes h)]
theorem dFdiv_W (h : 0 < j) (h2 : j.natAbs.log2 < 9000) : dFdiv (.int i) (.int j) S = some (.int (i / j), S) := by
  show (if cl (0 < j ∧ j.natAbs.log2 < 9000) = true then some (D.int (i / j), S) else none) = _
  rw [if_pos (cl_yes ⟨h, h2⟩)]
theorem log_num {x : Int} (h1 : -1606938044258990275541962092341162602522202993782792835301376 < x) (h2 : x < 1606938044258990275541962092341162602522202993782792835301376) : x.natAbs.log2 < 9000 := by
  by_cases h0 : x.natAbs = 0
  · rw [h0]; decide
  · rw [Nat.log2_lt h0]
    have h4 : (2 : Nat) ^ 200 ≤ 2 ^ 9000 := Nat.pow_le_pow_right (by decide) (by decide)
    have h3 : (2 : Nat) ^ 200 = 1606938044258990275541962092341162602522202993782792835301376 := by decide +kernel
    omega
theorem dFdiv_int (h : 0 < j) (h2 : j < 1606938044258990275541962092341162602522202993782792835301376) : dFdiv (.int i) (.int j) S = some (.int (i / j), S) := dFdiv_W h (log_num (by omega) h2)
theorem dPow_int (h : 0 ≤ j) (h2 : j ≤ 1000000) (h3 : i.natAbs < 18446744073709551616) : dPow (.int i) (.int j) S = some (.int (i ^ j.toNat), S) := by
  show (if cl (0 ≤ j ∧ j ≤ 1000000 ∧ i.natAbs < 2 ^ 64) = true then some (D.int (i ^ j.toNat), S) else none) = _
  rw [if_pos (cl_yes ⟨h, h2, h3⟩)]
theorem pow_ex (i j : Int) (h : (decide (0 ≤ j) && (decide (j ≤ 1000000) && decide (i.natAbs < 18446744073709551616))) = true) : ∃ L : Int, L = i ^ j.toNat ∧ ∀ S, dPow (.int i) (.int j) S = some (.int L, S) := by
  simp only [Bool.and_eq_true, decide_eq_true_eq] at h
  exact ⟨_, rfl, fun S => dPow_int h.1 h.2.1 h.2.2⟩
theorem dLt_int : dLt (.int i) (.int j) S = some (.bl (decide (i < j)), S) := by rw [← cl_dec (p := i < j)]; rfl
theorem dLe_int : dLe (.int i) (.int j) S = some (.bl (decide (i ≤ j)), S) := by rw [← cl_dec (p := i ≤ j)]; rfl
theorem dGt_int : dGt (.int i) (.int j) S = some (.bl (decide (j < i)), S) := by rw [← cl_dec (p := j < i)]; rfl
theorem dGe_int : dGe (.int i) (.int j) S = some (.bl (decide (j ≤ i)), S) := by rw [← cl_dec (p := j ≤ i)]; rfl
theorem dEq_int : dEq (.int i) (.int j) S = some (.bl (decide (i = j)), S) := by rw [← cl_dec (p := i = j)]; rfl
theorem dNe_int : dNe (.int i) (.int j) S = some (.bl (!decide (i = j)), S) := by rw [← cl_dec (p := i = j)]; rfl
theorem dEq_str {x y : Str} : dEq (.str x) (.str y) S = some (.bl (decide (x = y)), S) := Eq.symm (Eq.symm rfl)
theorem dNe_str {x y : Str} : dNe (.str x) (.str y) S = some (.bl (!decide (x = y)), S) := Eq.symm (Eq.symm rfl)
theorem dEq_bl {x y : Bool} : dEq (.bl x) (.bl y) S = some (.bl (decide (x = y)), S) := Eq.symm (Eq.symm rfl)
theorem dNe_bl {x y : Bool} : dNe (.bl x) (.bl y) S = some (.bl (!decide (x = y)), S) := Eq.symm (Eq.symm rfl)
theorem dAdd_int : dAdd (.int i) (.int j) S = some (.int (i + j), S) := Eq.symm (Eq.symm rfl)
theorem aYi {al : List D → Mo D} : dAddY al (.int i) (.int j) S = some (.int (i + j), S) := Eq.symm (Eq.symm rfl)
theorem mYR {al : List D → Mo D} (h1 : -18446744073709551616 < j) (h2 : j < 18446744073709551616) : dMulY al (.int i) (.int j) S = some (.int (i * j), S) := dMul_R h1 h2
theorem mYL {al : List D → Mo D} (h1 : -18446744073709551616 < i) (h2 : i < 18446744073709551616) : dMulY al (.int i) (.int j) S = some (.int (i * j), S) := dMul_L h1 h2
theorem mYW {al : List D → Mo D} (h : i.natAbs.log2 + j.natAbs.log2 < 1000000) : dMulY al (.int i) (.int j) S = some (.int (i * j), S) := dMul_W h
theorem mYrep {al : List D → Mo D} {l : List D} (h : -(2 ^ 63) ≤ j ∧ j < 2 ^ 63 ∧ l.length * j.toNat ≤ sizeLine) : dMulY al (.lst l) (.int j) S = al (List.replicate j.toNat l).flatten S := by
  show (if cl (-(2 ^ 63) ≤ j ∧ j < 2 ^ 63 ∧ l.length * j.toNat ≤ sizeLine) = true then al (List.replicate j.toNat l).flatten S else none) = _
  rw [if_pos (cl_yes h)]
theorem mYtwo {al : List D → Mo D} {x : D} : dMulY al (.lst [x]) (.int 2) S = al [x, x] S := by
  rw [mYrep ⟨by decide, by decide, by rw [sizeLine_eq]; show 1 * 2 ≤ 16777216; decide⟩]
  rfl
/-- the i-th item -/
theorem dIx_tup {l : List D} : dIx (.tup l) (.int i) S = (atI l i).map fun d => (d, S) := by
  show (match atI l i with
    | some d => some (d, S)
    | none => none) = _
  cases atI l i <;> rfl
theorem dIx_lst {l : List D} : dIx (.lst l) (.int i) S = (atI l i).map fun d => (d, S) := by
  show (match atI l i with
    | some d => some (d, S)
    | none => none) = _
  cases atI l i <;> rfl
theorem dIx_ref {n : Nat} {l : List D} (h : S[n]? = some (O.lst l)) : dIx (.ref n) (.int i) S = (atI l i).map fun d => (d, S) := by
  have e : wkOf (.ref n) S = some ⟨l, fun S' => S'[n]? = some (O.lst l)⟩ := by
    show (match S[n]? with
      | some (O.lst l) => some (⟨l, fun S' => S'[n]? = some (O.lst l)⟩ : Wk)
      | none => none) = _
    rw [h]
  show (match wkOf (.ref n) S with
    | some k => (match atI k.l i with
      | some d => some (d, S)
      | none => none)
    | none => none) = _
  rw [e]
  dsimp only
  cases atI l i <;> rfl
end
theorem atI_nat {α : Type} {l : List α} {n : Nat} {x : α} (h : l[n]? = some x) : atI l (n : Int) = some x := by
  have hl : n < l.length := by
    rcases Nat.lt_or_ge n l.length with q | q
    · exact q
    · rw [List.getElem?_eq_none q] at h; cases h
  unfold atI ixN
  rw [if_pos (by omega), if_pos (by omega)]
  simpa using h
theorem atI_0 {α : Type} {l : List α} {x : α} : atI (x :: l) 0 = some x := atI_nat (n := 0) rfl
theorem atI_1 {α : Type} {l : List α} {x y : α} : atI (x :: y :: l) 1 = some y := atI_nat (n := 1) rfl
theorem atI_2 {α : Type} {l : List α} {x y z : α} : atI (x :: y :: z :: l) 2 = some z := atI_nat (n := 2) rfl
theorem atI_3 {α : Type} {l : List α} {x y z u : α} : atI (x :: y :: z :: u :: l) 3 = some u := atI_nat (n := 3) rfl
theorem ixN_lt {n : Nat} {i : Int} (h0 : 0 ≤ i) (h1 : i < n) : ixN n i = some i.toNat := by
  unfold ixN
  rw [if_pos h0, if_pos h1]
theorem shaped_ints (l : List Int) : (isDps (l.map D.int) && SeqAt.shaped (.list (toPys (l.map D.int)))) = true := by
  obtain ⟨a, b, c⟩ := okD_ints l
  simp [SeqAt.shaped, PyData.canLay0, PyData.depth, a, b, c]
end Nw
namespace Nw
/-! ### primes up to 97, how often they divide -/
def P25 : List Nat := [2, 3, 5, 7, 11, 13, 17, 19, 23, 29, 31, 37, 41, 43, 47, 53, 59, 61, 67, 71, 73, 79, 83, 89, 97]
def Euc (p : Nat) : Prop := ∀ d, d ∣ p → d = 1 ∨ d = p
theorem p25_ok : (P25.all fun p => decide (2 ≤ p) && (List.range (p + 1)).all fun d => !(p % d == 0) || (d == 1 || d == p)) = true := by decide +kernel
theorem p25_2 {p : Nat} (h : p ∈ P25) : 2 ≤ p := by
  have := List.all_eq_true.mp p25_ok p h
  simp only [Bool.and_eq_true, decide_eq_true_eq] at this
  exact this.1
theorem p25_97 {p : Nat} (h : p ∈ P25) : p ≤ 97 := by
  have : ∀ s ∈ P25, s ≤ 97 := by decide
  exact this p h
theorem p25_euc {p : Nat} (h : p ∈ P25) : Euc p := by
  have h1 := List.all_eq_true.mp p25_ok p h
  simp only [Bool.and_eq_true] at h1
  intro d hd
  have h2 := p25_2 h
  have hle : d ≤ p := Nat.le_of_dvd (by omega) hd
  have h3 := List.all_eq_true.mp h1.2 d (List.mem_range.mpr (by omega))
  have h4 : p % d = 0 := Nat.mod_eq_zero_of_dvd hd
  simp only [h4, beq_self_eq_true, Bool.not_true, Bool.false_or, Bool.or_eq_true, beq_iff_eq] at h3
  exact h3
theorem Euc.cop {p a : Nat} (e : Euc p) (h : ¬ p ∣ a) : Nat.Coprime p a := by
  rcases e _ (Nat.gcd_dvd_left p a) with q | q
  · exact q
  · exact absurd (q ▸ Nat.gcd_dvd_right p a) h
theorem Euc.mul {p a b : Nat} (e : Euc p) (h : p ∣ a * b) : p ∣ a ∨ p ∣ b := by
  by_cases ha : p ∣ a
  · exact .inl ha
  · exact .inr (Nat.Coprime.dvd_of_dvd_mul_left (e.cop ha) h)
def vp (p n : Nat) : Nat := if h : 2 ≤ p ∧ 1 ≤ n ∧ n % p = 0 then vp p (n / p) + 1 else 0
termination_by n
decreasing_by exact Nat.div_lt_self h.2.1 h.1
theorem vp_yes {p n : Nat} (hp : 2 ≤ p) (hn : 1 ≤ n) (h : n % p = 0) : vp p n = vp p (n / p) + 1 := by
  rw [vp, dif_pos ⟨hp, hn, h⟩]
theorem vp_no {p n : Nat} (h : n % p ≠ 0) : vp p n = 0 := by
  rw [vp, dif_neg fun q => h q.2.2]
theorem vp_pmul {p n : Nat} (hp : 2 ≤ p) (hn : 1 ≤ n) : vp p (p * n) = vp p n + 1 := by
  have h1 : 1 ≤ p * n := Nat.mul_pos (by omega) hn
  rw [vp_yes hp h1 (Nat.mul_mod_right p n), Nat.mul_div_cancel_left n (by omega)]
theorem vp_mul {p : Nat} (hp : 2 ≤ p) (e : Euc p) : ∀ (k a b : Nat), a + b ≤ k → 1 ≤ a → 1 ≤ b → vp p (a * b) = vp p a + vp p b
  | 0, a, b, h, ha, hb => by omega
  | k + 1, a, b, h, ha, hb => by
    by_cases h1 : p ∣ a
    · obtain ⟨c, rfl⟩ := h1
      have hc : 1 ≤ c := Nat.pos_of_mul_pos_left ha
      have hlt : c < p * c := by
        have : 2 * c ≤ p * c := Nat.mul_le_mul_right _ hp
        omega
      rw [Nat.mul_assoc, vp_pmul hp (Nat.mul_pos hc hb), vp_pmul hp hc, vp_mul hp e k c b (by omega) hc hb]
      omega
    · by_cases h2 : p ∣ b
      · obtain ⟨c, rfl⟩ := h2
        have hc : 1 ≤ c := Nat.pos_of_mul_pos_left hb
        have hlt : c < p * c := by
          have : 2 * c ≤ p * c := Nat.mul_le_mul_right _ hp
          omega
        rw [Nat.mul_left_comm, vp_pmul hp (Nat.mul_pos ha hc), vp_pmul hp hc, vp_mul hp e k a c (by omega) ha hc]
        omega
      · have h3 : ¬ p ∣ a * b := fun q => (e.mul q).elim h1 h2
        rw [vp_no fun q => h3 (Nat.dvd_of_mod_eq_zero q), vp_no fun q => h1 (Nat.dvd_of_mod_eq_zero q), vp_no fun q => h2 (Nat.dvd_of_mod_eq_zero q)]
theorem vp_times {p a b : Nat} (hp : 2 ≤ p) (e : Euc p) (ha : 1 ≤ a) (hb : 1 ≤ b) : vp p (a * b) = vp p a + vp p b := vp_mul hp e _ a b (Nat.le_refl _) ha hb
theorem pow_dvd_vp {p : Nat} (hp : 2 ≤ p) : ∀ (k n : Nat), 1 ≤ n → (p ^ k ∣ n ↔ k ≤ vp p n)
  | 0, n, hn => by simp
  | k + 1, n, hn => by
    constructor
    · rintro ⟨c, rfl⟩
      have hc : 1 ≤ p ^ k * c := by
        have : 1 ≤ p ^ (k + 1) * c := hn
        rw [Nat.pow_succ, Nat.mul_right_comm] at this
        exact Nat.pos_of_mul_pos_right this
      have e1 : p ^ (k + 1) * c = p * (p ^ k * c) := by rw [Nat.pow_succ, Nat.mul_comm (p ^ k) p, Nat.mul_assoc]
      rw [e1, vp_pmul hp hc]
      have := (pow_dvd_vp hp k _ hc).mp ⟨c, rfl⟩
      omega
    · intro h
      by_cases h1 : n % p = 0
      · obtain ⟨c, rfl⟩ := Nat.dvd_of_mod_eq_zero h1
        have hc : 1 ≤ c := Nat.pos_of_mul_pos_left hn
        rw [vp_pmul hp hc] at h
        have := (pow_dvd_vp hp k c hc).mpr (by omega)
        rw [Nat.pow_succ, Nat.mul_comm]
        exact Nat.mul_dvd_mul_left p this
      · rw [vp_no h1] at h
        omega
theorem vp_gcd {p a b : Nat} (hp : 2 ≤ p) (ha : 1 ≤ a) (hb : 1 ≤ b) : vp p (Nat.gcd a b) = min (vp p a) (vp p b) := by
  have hg : 1 ≤ Nat.gcd a b := Nat.gcd_pos_of_pos_left b ha
  have key : ∀ k, k ≤ vp p (Nat.gcd a b) ↔ k ≤ min (vp p a) (vp p b) := fun k => by
    rw [← pow_dvd_vp hp k _ hg, Nat.dvd_gcd_iff, pow_dvd_vp hp k a ha, pow_dvd_vp hp k b hb, Nat.le_min]
  exact Nat.le_antisymm ((key _).mp (Nat.le_refl _)) ((key _).mpr (Nat.le_refl _))
theorem vp_quot {p a b : Nat} (hp : 2 ≤ p) (e : Euc p) (ha : 1 ≤ a) (hb : 1 ≤ b) : vp p (a / Nat.gcd a b) = vp p a - vp p b := by
  have hg : 1 ≤ Nat.gcd a b := Nat.gcd_pos_of_pos_left b ha
  have h1 : a / Nat.gcd a b * Nat.gcd a b = a := Nat.div_mul_cancel (Nat.gcd_dvd_left a b)
  have h2 : 1 ≤ a / Nat.gcd a b := Nat.div_pos (Nat.le_of_dvd ha (Nat.gcd_dvd_left a b)) hg
  have h3 := vp_times hp e h2 hg
  rw [h1, vp_gcd hp ha hb] at h3
  omega
theorem vp_pow_ne {p q : Nat} (hp : 2 ≤ p) (eq : Euc q) (hq : 2 ≤ q) (ep : Euc p) (h : p ≠ q) : ∀ k : Nat, vp q (p ^ k) = 0
  | 0 => by
    rw [Nat.pow_zero]
    exact vp_no (by rw [Nat.mod_eq_of_lt (by omega)]; decide)
  | k + 1 => by
    rw [Nat.pow_succ, vp_times hq eq (Nat.pow_pos (n := _) (show 0 < p by omega)) (by omega), vp_pow_ne hp eq hq ep h k]
    refine (Nat.zero_add _).trans (vp_no fun z => ?_)
    rcases ep q (Nat.dvd_of_mod_eq_zero z) with q1 | q1
    · omega
    · exact h q1.symm
inductive Smo : Nat → Prop
  | one : Smo 1
  | mul {p n : Nat} : p ∈ P25 → Smo n → Smo (n * p)
theorem Smo.pos {n : Nat} (h : Smo n) : 1 ≤ n := by
  induction h with
  | one => exact Nat.le_refl _
  | mul hp _ ih => exact Nat.mul_pos ih (by have := p25_2 hp; omega)
/-- nothing but 1 is left where no prime divides -/
theorem Smo.only {n : Nat} (h : Smo n) : ∀ m, m ∣ n → (∀ p ∈ P25, ¬ p ∣ m) → m = 1 := by
  induction h with
  | one => intro m hm _; exact Nat.dvd_one.mp hm
  | mul hp _ ih =>
    rename_i p n _
    intro m hm hno
    have hc : Nat.Coprime m p := ((p25_euc hp).cop (hno p hp)).symm
    exact ih m (Nat.Coprime.dvd_of_dvd_mul_right hc hm) hno
/-- the product of the primes of a list, each as often as it divides -/
def pprod (n : Nat) : List Nat → Nat
  | [] => 1
  | p :: l => p ^ vp p n * pprod n l
theorem pprod_split : ∀ (l : List Nat), (∀ p ∈ l, p ∈ P25) → l.Nodup → ∀ n, 1 ≤ n → ∃ m, n = pprod n l * m ∧ ∀ p ∈ l, ¬ p ∣ m
  | [], _, _, n, hn => ⟨n, by simp [pprod], fun p h => by cases h⟩
  | p :: l, h1, h2, n, hn => by
    have hp := h1 p (List.mem_cons_self ..)
    have hp2 := p25_2 hp
    rw [List.nodup_cons] at h2
    obtain ⟨n1, hn1⟩ := (pow_dvd_vp hp2 (vp p n) n hn).mpr (Nat.le_refl _)
    have hpk : 1 ≤ p ^ vp p n := Nat.pow_pos (n := _) (show 0 < p by omega)
    have n1p : 1 ≤ n1 := by
      rcases Nat.eq_zero_or_pos n1 with z | z
      · rw [z, Nat.mul_zero] at hn1; omega
      · exact z
    have hno : ¬ p ∣ n1 := fun ⟨c, hc⟩ => by
      have hd : p ^ (vp p n + 1) ∣ n := ⟨c, by rw [Nat.pow_succ, Nat.mul_assoc, ← hc]; exact hn1⟩
      have := (pow_dvd_vp hp2 _ n hn).mp hd
      omega
    obtain ⟨m, hm, hmn⟩ := pprod_split l (fun q hq => h1 q (List.mem_cons_of_mem _ hq)) h2.2 n1 n1p
    have hv : ∀ q ∈ l, vp q n = vp q n1 := fun q hq => by
      have hqP := h1 q (List.mem_cons_of_mem _ hq)
      have hne : p ≠ q := fun e => h2.1 (e ▸ hq)
      have e1 : vp q n = vp q (p ^ vp p n * n1) := congrArg (vp q) hn1
      rw [e1, vp_times (p25_2 hqP) (p25_euc hqP) hpk n1p, vp_pow_ne hp2 (p25_euc hqP) (p25_2 hqP) (p25_euc hp) hne, Nat.zero_add]
    have hpp : pprod n l = pprod n1 l := by
      clear hm hmn
      induction l with
      | nil => rfl
      | cons q l ih =>
        unfold pprod
        rw [hv q (List.mem_cons_self ..), ih (fun x hx => h1 x (by
          rcases List.mem_cons.mp hx with e | e
          · rw [e]; exact List.mem_cons_self ..
          · exact List.mem_cons_of_mem _ (List.mem_cons_of_mem _ e))) ⟨fun e => h2.1 (List.mem_cons_of_mem _ e), (List.nodup_cons.mp h2.2).2⟩ fun x hx => hv x (List.mem_cons_of_mem _ hx)]
    refine ⟨m, ?_, fun q hq => ?_⟩
    · unfold pprod
      rw [hpp, Nat.mul_assoc, ← hm]
      exact hn1
    · rcases List.mem_cons.mp hq with e | e
      · rw [e]
        exact fun hd => hno (Nat.dvd_trans hd ⟨pprod n1 l, by rw [Nat.mul_comm]; exact hm⟩)
      · exact hmn q e
theorem pprod_smo {l : List Nat} (h1 : ∀ p ∈ l, p ∈ P25) (h2 : l.Nodup) {n : Nat} (hs : Smo n) (h3 : ∀ p ∈ P25, p ∣ n → p ∈ l) : pprod n l = n := by
  obtain ⟨m, hm, hno⟩ := pprod_split l h1 h2 n hs.pos
  have e : m = 1 := hs.only m ⟨pprod n l, by rw [Nat.mul_comm]; exact hm⟩ fun p hp hd => hno p (h3 p hp (Nat.dvd_trans hd ⟨pprod n l, by rw [Nat.mul_comm]; exact hm⟩)) hd
  rw [e, Nat.mul_one] at hm
  exact hm.symm
theorem Smo.times {a b : Nat} (ha : Smo a) (hb : Smo b) : Smo (a * b) := by
  induction hb with
  | one => rw [Nat.mul_one]; exact ha
  | mul hp _ ih => rw [← Nat.mul_assoc]; exact .mul hp ih
theorem Smo.of {p : Nat} (h : p ∈ P25) : Smo p := by
  have := Smo.mul h .one
  rwa [Nat.one_mul] at this
theorem Smo.pow {a : Nat} (ha : Smo a) : ∀ k : Nat, Smo (a ^ k)
  | 0 => .one
  | k + 1 => by rw [Nat.pow_succ]; exact (Smo.pow ha k).times ha
theorem smo_2 : Smo 2 := .of (by decide)
theorem smo_3 : Smo 3 := .of (by decide)
theorem smo_5 : Smo 5 := .of (by decide)
theorem smo_6 : Smo 6 := smo_2.times smo_3
theorem smo_10 : Smo 10 := smo_2.times smo_5
theorem smo_30 : Smo 30 := smo_6.times smo_5
theorem smo_97 : Smo 97 := .of (by decide)
end Nw
namespace Gk02
open PySem PySem.Spec PyProof.Rows L2 Nw
noncomputable section
def top (i : Nat) : Stmt := PySem.Challenge.pw_narrowadds_k02_whole_primes_and_steps.main.body.getD i (.Pass ⟨0, 0, 0, 0⟩)
abbrev d__law_pot : He.DefD := ⟨("_law_pot", none), "_law_pot", "_law_pot", defArgs (top 7), defBody (top 7), defScope (top 7), [], []⟩
abbrev d__law_dip : He.DefD := ⟨("_law_dip", none), "_law_dip", "_law_dip", defArgs (top 8), defBody (top 8), defScope (top 8), [], []⟩
abbrev d__law_pick : He.DefD := ⟨("_law_pick", none), "_law_pick", "_law_pick", defArgs (top 9), defBody (top 9), defScope (top 9), [], []⟩
abbrev d__law_primes : He.DefD := ⟨("_law_primes", none), "_law_primes", "_law_primes", defArgs (top 10), defBody (top 10), defScope (top 10), [], []⟩
abbrev d__law_great : He.DefD := ⟨("_law_great", none), "_law_great", "_law_great", defArgs (top 13), defBody (top 13), defScope (top 13), [], []⟩
abbrev d__law_sizes : He.DefD := ⟨("_law_sizes", none), "_law_sizes", "_law_sizes", defArgs (top 14), defBody (top 14), defScope (top 14), [], []⟩
abbrev d__law_wires : He.DefD := ⟨("_law_wires", none), "_law_wires", "_law_wires", defArgs (top 15), defBody (top 15), defScope (top 15), [], []⟩
abbrev d__law_machine : He.DefD := ⟨("_law_machine", none), "_law_machine", "_law_machine", defArgs (top 16), defBody (top 16), defScope (top 16), [], []⟩
abbrev d_depth : He.DefD := ⟨("depth", none), "depth", "depth", defArgs (top 4), defBody (top 4), defScope (top 4), [], []⟩
abbrev d_primes_of : He.DefD := ⟨("primes_of", none), "primes_of", "primes_of", defArgs (top 3), defBody (top 3), defScope (top 3), [], []⟩
abbrev d__law_often : He.DefD := ⟨("_law_often", none), "_law_often", "_law_often", defArgs (top 17), defBody (top 17), defScope (top 17), [], []⟩
abbrev d__law_is_divided : He.DefD := ⟨("_law_is_divided", none), "_law_is_divided", "_law_is_divided", defArgs (top 18), defBody (top 18), defScope (top 18), [], []⟩
abbrev d_step : He.DefD := ⟨("step", none), "step", "step", defArgs (top 5), defBody (top 5), defScope (top 5), [], []⟩
abbrev d__law_common : He.DefD := ⟨("_law_common", none), "_law_common", "_law_common", defArgs (top 11), defBody (top 11), defScope (top 11), [], []⟩
abbrev d__law_step : He.DefD := ⟨("_law_step", none), "_law_step", "_law_step", defArgs (top 12), defBody (top 12), defScope (top 12), [], []⟩
abbrev d__law_is_least : He.DefD := ⟨("_law_is_least", none), "_law_is_least", "_law_is_least", defArgs (top 19), defBody (top 19), defScope (top 19), [], []⟩
abbrev d_law : He.DefD := ⟨("law", none), "law", "law", defArgs (top 20), defBody (top 20), defScope (top 20), [], []⟩
def Cc : Cf := { fn := [d__law_pot, d__law_dip, d__law_pick, d__law_primes, d__law_great, d__law_sizes, d__law_wires, d__law_machine, d_depth, d_primes_of, d__law_often, d__law_is_divided, d_step, d__law_common, d__law_step, d__law_is_least, d_law], fr := ["int", "len", "max", "range", "tuple", "enumerate", "repr"], bi := [("gcd", "math.gcd")], tp := [("PRIMES", [2, 3, 5, 7, 11, 13, 17, 19, 23, 29, 31, 37, 41, 43, 47, 53, 59, 61, 67, 71, 73, 79, 83, 89, 97])], it := [], st := [] }
/-! _law_pot 0=script 1=cells 2=first 3=last 4=cell -/
theorem sc__law_pot : FnScope (["script", "cells", "first", "last", "cell"] : List Str) ["script"] (defScope (top 7)) := ⟨rfl, rfl, rfl, by decide +kernel, rfl, by decide +kernel, by decide +kernel⟩
def b__law_pot : FS := sSeq (sAsg (eArg gLstD (fLc (iSeq (eSl (dSl gLstD) (eVar 0) (oNone) (oSome (eC (.int 60))))) (gNm 4) (tTrue) (eIf (tBl (eBin dGe (eVar 4) (eC (.int 0)))) (eBin (dMulY gLstD) (eC (.int 2)) (eVar 4)) (eBin (dSub) (eUn dNeg (eC (.int 1))) (eBin (dMulY gLstD) (eC (.int 2)) (eVar 4)))) [4])) (gNm 1))
    (sSeq (sPar 2 3 (aCons (eC (.int 7919)) (aCons (eBin (dAddY gNewD) (eC (.int 104729)) (eArg dLen (aCons (eVar 1) (aNil)))) (aNil))))
    (sSeq (sFor (iSeq (eVar 1)) (gNm 4) (sPar 2 3 (aCons (eBin (dMod) (eArg dInt1 (aCons (eBin (dAddY gLstD) (eBin (dAddY gLstD) (eBin (dMulY gLstD) (eVar 2) (eC (.int 69069))) (eVar 4)) (eC (.int 1))) (aNil))) (eC (.int 4294967291))) (aCons (eBin (dMod) (eArg dInt1 (aCons (eBin (dAddY gLstD) (eBin (dAddY gLstD) (eBin (dMulY gLstD) (eVar 3) (eC (.int 48271))) (eBin (dMulY gLstD) (eC (.int 5)) (eVar 4))) (eC (.int 3))) (aNil))) (eC (.int 4294967279))) (aNil)))))
    (sRet (eArg gNewD (aCons (eArg gNewD (fLc (iSeq (eVar 1)) (gNm 4) (tBl (eBin dGt (eVar 4) (eBin (dPow) (eC (.int 10)) (eC (.int 15))))) (eVar 4) [4])) (aCons (eVar 2) (aCons (eVar 3) (aCons (eC (.int 0)) (aNil)))))))))
def F__law_pot : List D → Mo D := fRun 5 b__law_pot
theorem ok__law_pot {P : Program} {w : World} {K : PySem.W.Frag} {mg : Str → Option Value} (base : Heap) (E : En Cc K mg) : OkF P w K mg base 1 d__law_pot ["script"] F__law_pot := by
  have g_int : mg "int" = none := E.fr 0 _ rfl
  have g_len : mg "len" = none := E.fr 1 _ rfl
  refine okf_of E 0 (b := b__law_pot) rfl sc__law_pot (fun _ _ _ _ _ _ us hl => match us, hl with | [_], _ => rfl) fun cdv A outer s H c hcd => ?_
  exact sss_cons ((by first | exact ss_setLc (i := 1) lcEnd_lst c.calm c.nd rfl rfl rfl (si_seq (se_slice sl_any (sld_any alEnd_lst) (se_var (i := 0) rfl (.inl rfl)) (so_none) (so_some (se_int)))) (own := [("cell", 4)]) (blkOk_by (N := ["script", "cells", "first", "last", "cell"]) (sc := defScope (top 7)) (by decide +kernel)) rfl (fun s1 H1 C1 cl1 fp1 => sn_name (i := 4) (by decide) (c.blk s1 H1 _ _ fp1).nd rfl (by first | exact .inl rfl | exact .inr rfl) (by first | exact .inr rfl | exact .inl rfl)) (fun s1 H1 C1 cl1 fp1 => sts_nil) (fun s1 H1 C1 cl1 fp1 => se_if (st_cmp op_ge opd_ge (se_var (i := 4) rfl (by first | exact .inl rfl | exact .inr (.inl rfl))) (se_int) rfl) (se_op o_mul (d_mul alEnd_lst) (se_int) (se_var (i := 4) rfl (by first | exact .inl rfl | exact .inr (.inl rfl)))) (se_op op_sub (opd_sub) (se_un un_neg und_neg (se_int)) (se_op o_mul (d_mul alEnd_lst) (se_int) (se_var (i := 4) rfl (by first | exact .inl rfl | exact .inr (.inl rfl)))))) | exact ss_set (i := 1) c.nd rfl (.inl rfl) (se_lc lcEnd_lst c.calm c.nd (si_seq (se_slice sl_any (sld_any alEnd_lst) (se_var (i := 0) rfl (.inl rfl)) (so_none) (so_some (se_int)))) (own := [("cell", 4)]) (blkOk_by (N := ["script", "cells", "first", "last", "cell"]) (sc := defScope (top 7)) (by decide +kernel)) rfl (fun s1 H1 C1 cl1 fp1 => sn_name (i := 4) (by decide) (c.blk s1 H1 _ _ fp1).nd rfl (by first | exact .inl rfl | exact .inr rfl) (by first | exact .inr rfl | exact .inl rfl)) (fun s1 H1 C1 cl1 fp1 => sts_nil) (fun s1 H1 C1 cl1 fp1 => se_if (st_cmp op_ge opd_ge (se_var (i := 4) rfl (by first | exact .inl rfl | exact .inr (.inl rfl))) (se_int) rfl) (se_op o_mul (d_mul alEnd_lst) (se_int) (se_var (i := 4) rfl (by first | exact .inl rfl | exact .inr (.inl rfl)))) (se_op op_sub (opd_sub) (se_un un_neg und_neg (se_int)) (se_op o_mul (d_mul alEnd_lst) (se_int) (se_var (i := 4) rfl (by first | exact .inl rfl | exact .inr (.inl rfl))))))) (.inr rfl) rfl))
    (sss_cons (ss_par (i := 2) (j := 3) c.calm c.nd rfl rfl (by decide) rfl rfl (sa_cons (se_int) (sa_cons (se_op o_add (d_add alEnd_new) (se_int) (se_callB call_len ard_len g_len boot_len (sa_cons (se_var (i := 1) rfl (.inl rfl)) (sa_nil)) rfl)) (sa_nil))) rfl rfl)
    (sss_cons (ss_for PassesOwn.never c.calm (si_seq (se_var (i := 1) rfl (.inl rfl))) (sg_name (i := 4) c.nd rfl (.inl rfl) (.inr rfl)) (sss_one (ss_par (i := 2) (j := 3) c.calm c.nd rfl rfl (by decide) rfl rfl (sa_cons (se_op op_mod (opd_mod) (se_callTy call_int1 ard_int1 g_int boot_int (sa_cons (se_op o_add (d_add alEnd_lst) (se_op o_add (d_add alEnd_lst) (se_op o_mul (d_mul alEnd_lst) (se_var (i := 2) rfl (.inl rfl)) (se_int)) (se_var (i := 4) rfl (.inl rfl))) (se_int)) (sa_nil)) rfl) (se_int)) (sa_cons (se_op op_mod (opd_mod) (se_callTy call_int1 ard_int1 g_int boot_int (sa_cons (se_op o_add (d_add alEnd_lst) (se_op o_add (d_add alEnd_lst) (se_op o_mul (d_mul alEnd_lst) (se_var (i := 3) rfl (.inl rfl)) (se_int)) (se_op o_mul (d_mul alEnd_lst) (se_int) (se_var (i := 4) rfl (.inl rfl)))) (se_int)) (sa_nil)) rfl) (se_int)) (sa_nil))) rfl rfl)))
    (sss_one (ss_ret (se_new (sa_cons (se_lc lcEnd_new c.calm c.nd (si_seq (se_var (i := 1) rfl (.inl rfl))) (own := [("cell", 4)]) (blkOk_by (N := ["script", "cells", "first", "last", "cell"]) (sc := defScope (top 7)) (by decide +kernel)) rfl (fun s1 H1 C1 cl1 fp1 => sn_name (i := 4) (by decide) (c.blk s1 H1 _ _ fp1).nd rfl (by first | exact .inl rfl | exact .inr rfl) (by first | exact .inr rfl | exact .inl rfl)) (fun s1 H1 C1 cl1 fp1 => sts_one (st_cmp op_gt opd_gt (se_var (i := 4) rfl (by first | exact .inl rfl | exact .inr (.inl rfl))) (se_op op_pow (opd_pow) (se_int) (se_int)) rfl)) (fun s1 H1 C1 cl1 fp1 => se_var (i := 4) rfl (by first | exact .inl rfl | exact .inr (.inl rfl)))) (sa_cons (se_var (i := 2) rfl (.inl rfl)) (sa_cons (se_var (i := 3) rfl (.inl rfl)) (sa_cons (se_int) (sa_nil))))) (al_cons (al_cons (al_cons (al_cons al_nil)))) (by decide))))))
/-! _law_dip 0=pot 1=size 2=cell 3=mixed -/
theorem sc__law_dip : FnScope (["pot", "size", "cell", "mixed"] : List Str) ["pot", "size"] (defScope (top 8)) := ⟨rfl, rfl, rfl, by decide +kernel, rfl, by decide +kernel, by decide +kernel⟩
def b__law_dip : FS := sSeq (sIf (tBl (eBin dNe (eBin dIx (eVar 0) (eC (.int 0))) (eArg gLstD (aNil)))) (sSeq (sAsg (eMeth dPop (eBin dIx (eVar 0) (eC (.int 0))) aNil) (gNm 2))
    (sSeq (sIf (tBl (eBin dGe (eVar 2) (eVar 1))) (sExpr (eMeth dAppend (eBin dIx (eVar 0) (eC (.int 0))) (aCons (eBin (dFdiv) (eVar 2) (eVar 1)) (aNil)))) (sNil))
    (sRet (eBin (dMod) (eArg dInt1 (aCons (eVar 2) (aNil))) (eVar 1))))) (sNil))
    (sSeq (sAsg (eBin (dAddY gLstD) (eBin dIx (eVar 0) (eC (.int 3))) (eC (.int 1))) (gSb (eVar 0) (eC (.int 3))))
    (sSeq (sAsg (eBin (dMod) (eBin (dAddY gLstD) (eBin dIx (eVar 0) (eC (.int 1))) (eBin (dMulY gLstD) (eBin dIx (eVar 0) (eC (.int 3))) (eC (.int 2654435761)))) (eC (.int 4294967291))) (gNm 3))
    (sSeq (sAsg (eBin (dMod) (eBin (dAddY gLstD) (eBin (dAddY gLstD) (eBin (dMulY gLstD) (eVar 3) (eVar 3)) (eBin (dMulY gLstD) (eBin dIx (eVar 0) (eC (.int 2))) (eBin dIx (eVar 0) (eC (.int 3))))) (eC (.int 12345))) (eC (.int 4294967279))) (gNm 3))
    (sRet (eBin (dMod) (eBin (dFdiv) (eBin (dMod) (eBin (dMulY gLstD) (eVar 3) (eC (.int 40503))) (eC (.int 4294967231))) (eC (.int 8192))) (eVar 1))))))
def F__law_dip : List D → Mo D := fRun 4 b__law_dip
theorem ok__law_dip {P : Program} {w : World} {K : PySem.W.Frag} {mg : Str → Option Value} (base : Heap) (E : En Cc K mg) : OkF P w K mg base 1 d__law_dip ["pot", "size"] F__law_dip := by
  have g_int : mg "int" = none := E.fr 0 _ rfl
  refine okf_of E 1 (b := b__law_dip) rfl sc__law_dip (fun _ _ _ _ _ _ us hl => match us, hl with | [_, _], _ => rfl) fun cdv A outer s H c hcd => ?_
  exact sss_cons (ss_if (st_cmp (o_ne c) opd_ne (se_ix ix_seq opd_ix (se_var (i := 0) rfl (.inl rfl)) (se_int) (fun _ _ => rfl)) (se_lst (sa_nil) (al_nil) (by decide)) rfl) (sss_cons (ss_set (i := 2) c.nd rfl (.inl rfl) (se_lmeth0 PySem.F.slot_list_pop PySem.F.type_list_pop mt_pop mtd_pop (se_ix ix_seq opd_ix (se_var (i := 0) rfl (.inl rfl)) (se_int) (fun _ _ => rfl))) (.inr rfl) rfl)
    (sss_cons (ss_if (st_cmp op_ge opd_ge (se_var (i := 2) rfl (.inl rfl)) (se_var (i := 1) rfl (.inl rfl)) rfl) (sss_one (ss_expr (se_lmeth PySem.F.slot_list_append PySem.F.type_list_append mt_append mtd_append (se_ix ix_seq opd_ix (se_var (i := 0) rfl (.inl rfl)) (se_int) (fun _ _ => rfl)) (sa_cons (se_op op_fdivW (opd_fdiv) (se_var (i := 2) rfl (.inl rfl)) (se_var (i := 1) rfl (.inl rfl))) (sa_nil))) rfl)) (sss_nil))
    (sss_one (ss_ret (se_op op_mod (opd_mod) (se_callTy call_int1 ard_int1 g_int boot_int (sa_cons (se_var (i := 2) rfl (.inl rfl)) (sa_nil)) rfl) (se_var (i := 1) rfl (.inl rfl))))))) (sss_nil))
    (sss_cons (ss_asg (se_op o_add (d_add alEnd_lst) (se_ix ix_seq opd_ix (se_var (i := 0) rfl (.inl rfl)) (se_int) (fun _ _ => rfl)) (se_int)) (sg_sub (se_var (i := 0) rfl (.inl rfl)) (se_int) (fun _ => rfl)) rfl)
    (sss_cons (ss_set (i := 3) c.nd rfl (.inl rfl) (se_op op_mod (opd_mod) (se_op o_add (d_add alEnd_lst) (se_ix ix_seq opd_ix (se_var (i := 0) rfl (.inl rfl)) (se_int) (fun _ _ => rfl)) (se_op o_mul (d_mul alEnd_lst) (se_ix ix_seq opd_ix (se_var (i := 0) rfl (.inl rfl)) (se_int) (fun _ _ => rfl)) (se_int))) (se_int)) (.inr rfl) rfl)
    (sss_cons (ss_set (i := 3) c.nd rfl (.inl rfl) (se_op op_mod (opd_mod) (se_op o_add (d_add alEnd_lst) (se_op o_add (d_add alEnd_lst) (se_op o_mul (d_mul alEnd_lst) (se_var (i := 3) rfl (.inl rfl)) (se_var (i := 3) rfl (.inl rfl))) (se_op o_mul (d_mul alEnd_lst) (se_ix ix_seq opd_ix (se_var (i := 0) rfl (.inl rfl)) (se_int) (fun _ _ => rfl)) (se_ix ix_seq opd_ix (se_var (i := 0) rfl (.inl rfl)) (se_int) (fun _ _ => rfl)))) (se_int)) (se_int)) (.inr rfl) rfl)
    (sss_one (ss_ret (se_op op_mod (opd_mod) (se_op op_fdivW (opd_fdiv) (se_op op_mod (opd_mod) (se_op o_mul (d_mul alEnd_lst) (se_var (i := 3) rfl (.inl rfl)) (se_int)) (se_int)) (se_int)) (se_var (i := 1) rfl (.inl rfl))))))))
/-! _law_pick 0=pot 1=items -/
theorem sc__law_pick : FnScope (["pot", "items"] : List Str) ["pot", "items"] (defScope (top 9)) := ⟨rfl, rfl, rfl, by decide +kernel, rfl, by decide +kernel, by decide +kernel⟩
def b__law_pick : FS := sRet (eBin dIx (eVar 1) (eArg F__law_dip (aCons (eVar 0) (aCons (eArg dLen (aCons (eVar 1) (aNil))) (aNil)))))
def F__law_pick : List D → Mo D := fRun 2 b__law_pick
theorem ok__law_pick {P : Program} {w : World} {K : PySem.W.Frag} {mg : Str → Option Value} (base : Heap) (E : En Cc K mg) : OkF P w K mg base 2 d__law_pick ["pot", "items"] F__law_pick := by
  have o__law_dip : OkF P w K mg base 1 d__law_dip _ F__law_dip := ok__law_dip base E
  have g_len : mg "len" = none := E.fr 1 _ rfl
  refine okf_of E 2 (b := b__law_pick) rfl sc__law_pick (fun _ _ _ _ _ _ us hl => match us, hl with | [_, _], _ => rfl) fun cdv A outer s H c hcd => ?_
  exact sss_one (ss_ret (se_ix ix_seq opd_ix (se_var (i := 1) rfl (.inl rfl)) (se_cal (d := d__law_dip) (F := F__law_dip) o__law_dip c (by decide) (sa_cons (se_var (i := 0) rfl (.inl rfl)) (sa_cons (se_callB call_len ard_len g_len boot_len (sa_cons (se_var (i := 1) rfl (.inl rfl)) (sa_nil)) rfl) (sa_nil))) (al_cons (al_cons al_nil)) rfl) (fun _ _ => rfl)))
/-! _law_primes  -/
theorem sc__law_primes : FnScope ([] : List Str) [] (defScope (top 10)) := ⟨rfl, rfl, rfl, by decide +kernel, rfl, by decide +kernel, by decide +kernel⟩
def b__law_primes : FS := sRet (eArg gLstD (aCons (eC (.int 2)) (aCons (eC (.int 3)) (aCons (eC (.int 5)) (aCons (eC (.int 7)) (aCons (eC (.int 11)) (aCons (eC (.int 13)) (aCons (eC (.int 17)) (aCons (eC (.int 19)) (aCons (eC (.int 23)) (aCons (eC (.int 29)) (aCons (eC (.int 31)) (aCons (eC (.int 37)) (aCons (eC (.int 41)) (aCons (eC (.int 43)) (aCons (eC (.int 47)) (aCons (eC (.int 53)) (aCons (eC (.int 59)) (aCons (eC (.int 61)) (aCons (eC (.int 67)) (aCons (eC (.int 71)) (aCons (eC (.int 73)) (aCons (eC (.int 79)) (aCons (eC (.int 83)) (aCons (eC (.int 89)) (aCons (eC (.int 97)) (aNil)))))))))))))))))))))))))))
def F__law_primes : List D → Mo D := fRun 0 b__law_primes
theorem ok__law_primes {P : Program} {w : World} {K : PySem.W.Frag} {mg : Str → Option Value} (base : Heap) (E : En Cc K mg) : OkF P w K mg base 1 d__law_primes [] F__law_primes := by
  refine okf_of E 3 (b := b__law_primes) rfl sc__law_primes (fun _ _ _ _ _ _ us hl => match us, hl with | [], _ => rfl) fun cdv A outer s H c hcd => ?_
  exact sss_one (ss_ret (se_lst (sa_cons (se_int) (sa_cons (se_int) (sa_cons (se_int) (sa_cons (se_int) (sa_cons (se_int) (sa_cons (se_int) (sa_cons (se_int) (sa_cons (se_int) (sa_cons (se_int) (sa_cons (se_int) (sa_cons (se_int) (sa_cons (se_int) (sa_cons (se_int) (sa_cons (se_int) (sa_cons (se_int) (sa_cons (se_int) (sa_cons (se_int) (sa_cons (se_int) (sa_cons (se_int) (sa_cons (se_int) (sa_cons (se_int) (sa_cons (se_int) (sa_cons (se_int) (sa_cons (se_int) (sa_cons (se_int) (sa_nil)))))))))))))))))))))))))) (al_cons (al_cons (al_cons (al_cons (al_cons (al_cons (al_cons (al_cons (al_cons (al_cons (al_cons (al_cons (al_cons (al_cons (al_cons (al_cons (al_cons (al_cons (al_cons (al_cons (al_cons (al_cons (al_cons (al_cons (al_cons al_nil))))))))))))))))))))))))) (by decide)))
/-! _law_great 0=pot 1=some 2=found 3=turn 4=prime -/
theorem sc__law_great : FnScope (["pot", "some", "found", "turn", "prime"] : List Str) ["pot"] (defScope (top 13)) := ⟨rfl, rfl, rfl, by decide +kernel, rfl, by decide +kernel, by decide +kernel⟩
def b__law_great : FS := sSeq (sAsg (eArg gLstD (aCons (eBin (dPow) (eC (.int 2)) (eC (.int 32))) (aCons (eBin (dPow) (eC (.int 2)) (eC (.int 64))) (aCons (eBin (dPow) (eC (.int 3)) (eC (.int 20))) (aCons (eBin (dPow) (eC (.int 10)) (eC (.int 30))) (aCons (eBin (dPow) (eC (.int 97)) (eC (.int 4))) (aCons (eBin (dPow) (eC (.int 6)) (eC (.int 9))) (aCons (eBin (dPow) (eBin (dPow) (eC (.int 2)) (eC (.int 33))) (eC (.int 3))) (aCons (eBin (dPow) (eC (.int 30)) (eC (.int 5))) (aCons (eBin (dPow) (eC (.int 5)) (eC (.int 42))) (aCons (eC (.int 97)) (aCons (eC (.int 1)) (aNil))))))))))))) (gNm 1))
    (sSeq (sAsg (eArg F__law_pick (aCons (eVar 0) (aCons (eVar 1) (aNil)))) (gNm 2))
    (sSeq (sFor (iRan1 (eArg F__law_dip (aCons (eVar 0) (aCons (eC (.int 12)) (aNil))))) (gNm 3) (sSeq (sAsg (eArg F__law_pick (aCons (eVar 0) (aCons (eArg gLstD (aCons (eC (.int 2)) (aCons (eC (.int 2)) (aCons (eC (.int 3)) (aCons (eC (.int 5)) (aCons (eArg F__law_pick (aCons (eVar 0) (aCons (eArg F__law_primes aNil) (aNil)))) (aNil))))))) (aNil)))) (gNm 4))
    (sAsg (eIf (tBl (eBin dLe (eBin (dMulY gLstD) (eVar 2) (eVar 4)) (eBin (dPow) (eC (.int 10)) (eC (.int 30))))) (eBin (dMulY gLstD) (eVar 2) (eVar 4)) (eVar 2)) (gNm 2))))
    (sRet (eArg dMax2 (aCons (eVar 2) (aCons (eC (.int 2)) (aNil)))))))
def F__law_great : List D → Mo D := fRun 5 b__law_great
theorem ok__law_great {P : Program} {w : World} {K : PySem.W.Frag} {mg : Str → Option Value} (base : Heap) (E : En Cc K mg) : OkF P w K mg base 3 d__law_great ["pot"] F__law_great := by
  have o__law_dip : OkF P w K mg base 1 d__law_dip _ F__law_dip := ok__law_dip base E
  have o__law_pick : OkF P w K mg base 2 d__law_pick _ F__law_pick := ok__law_pick base E
  have o__law_primes : OkF P w K mg base 1 d__law_primes _ F__law_primes := ok__law_primes base E
  have g_max : mg "max" = none := E.fr 2 _ rfl
  have g_range : mg "range" = none := E.fr 3 _ rfl
  refine okf_of E 4 (b := b__law_great) rfl sc__law_great (fun _ _ _ _ _ _ us hl => match us, hl with | [_], _ => rfl) fun cdv A outer s H c hcd => ?_
  exact sss_cons (ss_set (i := 1) c.nd rfl (.inl rfl) (se_lst (sa_cons (se_op op_pow (opd_pow) (se_int) (se_int)) (sa_cons (se_op op_pow (opd_pow) (se_int) (se_int)) (sa_cons (se_op op_pow (opd_pow) (se_int) (se_int)) (sa_cons (se_op op_pow (opd_pow) (se_int) (se_int)) (sa_cons (se_op op_pow (opd_pow) (se_int) (se_int)) (sa_cons (se_op op_pow (opd_pow) (se_int) (se_int)) (sa_cons (se_op op_pow (opd_pow) (se_op op_pow (opd_pow) (se_int) (se_int)) (se_int)) (sa_cons (se_op op_pow (opd_pow) (se_int) (se_int)) (sa_cons (se_op op_pow (opd_pow) (se_int) (se_int)) (sa_cons (se_int) (sa_cons (se_int) (sa_nil)))))))))))) (al_cons (al_cons (al_cons (al_cons (al_cons (al_cons (al_cons (al_cons (al_cons (al_cons (al_cons al_nil))))))))))) (by decide)) (.inr rfl) rfl)
    (sss_cons (ss_set (i := 2) c.nd rfl (.inl rfl) (se_cal (d := d__law_pick) (F := F__law_pick) o__law_pick c (by decide) (sa_cons (se_var (i := 0) rfl (.inl rfl)) (sa_cons (se_var (i := 1) rfl (.inl rfl)) (sa_nil))) (al_cons (al_cons al_nil)) rfl) (.inr rfl) rfl)
    (sss_cons (ss_for PassesOwn.never c.calm (si_range1 g_range (se_cal (d := d__law_dip) (F := F__law_dip) o__law_dip c (by decide) (sa_cons (se_var (i := 0) rfl (.inl rfl)) (sa_cons (se_int) (sa_nil))) (al_cons (al_cons al_nil)) rfl) rfl) (sg_name (i := 3) c.nd rfl (.inl rfl) (.inr rfl)) (sss_cons (ss_set (i := 4) c.nd rfl (.inl rfl) (se_cal (d := d__law_pick) (F := F__law_pick) o__law_pick c (by decide) (sa_cons (se_var (i := 0) rfl (.inl rfl)) (sa_cons (se_lst (sa_cons (se_int) (sa_cons (se_int) (sa_cons (se_int) (sa_cons (se_int) (sa_cons (se_cal (d := d__law_pick) (F := F__law_pick) o__law_pick c (by decide) (sa_cons (se_var (i := 0) rfl (.inl rfl)) (sa_cons (se_cal0 (d := d__law_primes) (F := F__law_primes) o__law_primes c (by decide) rfl) (sa_nil))) (al_cons (al_cons al_nil)) rfl) (sa_nil)))))) (al_cons (al_cons (al_cons (al_cons (al_cons al_nil))))) (by decide)) (sa_nil))) (al_cons (al_cons al_nil)) rfl) (.inr rfl) rfl)
    (sss_one (ss_set (i := 2) c.nd rfl (.inl rfl) (se_if (st_cmp op_le opd_le (se_op o_mul (d_mul alEnd_lst) (se_var (i := 2) rfl (.inl rfl)) (se_var (i := 4) rfl (.inl rfl))) (se_op op_pow (opd_pow) (se_int) (se_int)) rfl) (se_op o_mul (d_mul alEnd_lst) (se_var (i := 2) rfl (.inl rfl)) (se_var (i := 4) rfl (.inl rfl))) (se_var (i := 2) rfl (.inl rfl))) (.inr rfl) rfl))))
    (sss_one (ss_ret (se_callB (call_max2 c.calm) ard_max2 g_max boot_max (sa_cons (se_var (i := 2) rfl (.inl rfl)) (sa_cons (se_int) (sa_nil))) rfl)))))
/-! _law_sizes 0=pot 1=is_great 2=few 3=base 4=turn -/
theorem sc__law_sizes : FnScope (["pot", "is_great", "few", "base", "turn"] : List Str) ["pot", "is_great"] (defScope (top 14)) := ⟨rfl, rfl, rfl, by decide +kernel, rfl, by decide +kernel, by decide +kernel⟩
def b__law_sizes : FS := sSeq (sAsg (eArg gLstD (aCons (eC (.int 2)) (aCons (eC (.int 3)) (aCons (eC (.int 4)) (aCons (eC (.int 5)) (aCons (eC (.int 6)) (aCons (eC (.int 8)) (aCons (eC (.int 9)) (aCons (eC (.int 12)) (aCons (eC (.int 16)) (aCons (eC (.int 18)) (aCons (eC (.int 27)) (aCons (eC (.int 97)) (aCons (eC (.int 36)) (aNil))))))))))))))) (gNm 2))
    (sSeq (sAsg (eArg gLstD (fLc (iRan1 (eC (.int 3))) (gNm 4) (tTrue) (eIf (tTru (eVar 1)) (eArg F__law_great (aCons (eVar 0) (aNil))) (eArg F__law_pick (aCons (eVar 0) (aCons (eVar 2) (aNil))))) [4])) (gNm 3))
    (sRet (eArg dTup (aCons (eArg gLstD (fLc (iRan1 (eBin (dAddY gLstD) (eC (.int 1)) (eArg F__law_dip (aCons (eVar 0) (aCons (eC (.int 6)) (aNil)))))) (gNm 4) (tTrue) (eArg F__law_pick (aCons (eVar 0) (aCons (eVar 3) (aNil)))) [4])) (aNil)))))
def F__law_sizes : List D → Mo D := fRun 5 b__law_sizes
theorem ok__law_sizes {P : Program} {w : World} {K : PySem.W.Frag} {mg : Str → Option Value} (base : Heap) (E : En Cc K mg) : OkF P w K mg base 4 d__law_sizes ["pot", "is_great"] F__law_sizes := by
  have o__law_dip : OkF P w K mg base 1 d__law_dip _ F__law_dip := ok__law_dip base E
  have o__law_pick : OkF P w K mg base 2 d__law_pick _ F__law_pick := ok__law_pick base E
  have o__law_great : OkF P w K mg base 3 d__law_great _ F__law_great := ok__law_great base E
  have g_range : mg "range" = none := E.fr 3 _ rfl
  have g_tuple : mg "tuple" = none := E.fr 4 _ rfl
  refine okf_of E 5 (b := b__law_sizes) rfl sc__law_sizes (fun _ _ _ _ _ _ us hl => match us, hl with | [_, _], _ => rfl) fun cdv A outer s H c hcd => ?_
  exact sss_cons (ss_set (i := 2) c.nd rfl (.inr rfl) (se_lst (sa_cons (se_int) (sa_cons (se_int) (sa_cons (se_int) (sa_cons (se_int) (sa_cons (se_int) (sa_cons (se_int) (sa_cons (se_int) (sa_cons (se_int) (sa_cons (se_int) (sa_cons (se_int) (sa_cons (se_int) (sa_cons (se_int) (sa_cons (se_int) (sa_nil)))))))))))))) (al_cons (al_cons (al_cons (al_cons (al_cons (al_cons (al_cons (al_cons (al_cons (al_cons (al_cons (al_cons (al_cons al_nil))))))))))))) (by decide)) (.inl rfl) rfl)
    (sss_cons (ss_set (i := 3) c.nd rfl (.inr rfl) (se_lc lcEnd_lst c.calm c.nd (si_range1 g_range (se_int) rfl) (own := [("turn", 4)]) (blkOk_by (N := ["pot", "is_great", "few", "base", "turn"]) (sc := defScope (top 14)) (by decide +kernel)) rfl (fun s1 H1 C1 cl1 fp1 => sn_name (i := 4) (by decide) (c.blk s1 H1 _ _ fp1).nd rfl (by first | exact .inl rfl | exact .inr rfl) (by first | exact .inr rfl | exact .inl rfl)) (fun s1 H1 C1 cl1 fp1 => sts_nil) (fun s1 H1 C1 cl1 fp1 => se_if (st_truth (se_var (i := 1) rfl (by first | exact .inr (.inr rfl) | exact .inr (.inl rfl)))) (se_cal (d := d__law_great) (F := F__law_great) o__law_great (c.blk s1 H1 _ _ fp1) (by decide) (sa_cons (se_var (i := 0) rfl (by first | exact .inr (.inr rfl) | exact .inr (.inl rfl))) (sa_nil)) (al_cons al_nil) (by rfl)) (se_cal (d := d__law_pick) (F := F__law_pick) o__law_pick (c.blk s1 H1 _ _ fp1) (by decide) (sa_cons (se_var (i := 0) rfl (by first | exact .inr (.inr rfl) | exact .inr (.inl rfl))) (sa_cons (se_var (i := 2) rfl (by first | exact .inr (.inr rfl) | exact .inr (.inl rfl))) (sa_nil))) (al_cons (al_cons al_nil)) (by rfl)))) (.inl rfl) rfl)
    (sss_one (ss_ret (se_callTy call_tuple_of ard_tup g_tuple boot_tuple (sa_cons (se_lc lcEnd_lst c.calm c.nd (si_range1 g_range (se_op o_add (d_add alEnd_lst) (se_int) (se_cal (d := d__law_dip) (F := F__law_dip) o__law_dip c (by decide) (sa_cons (se_var (i := 0) rfl (.inr (.inl rfl))) (sa_cons (se_int) (sa_nil))) (al_cons (al_cons al_nil)) rfl)) rfl) (own := [("turn", 4)]) (blkOk_by (N := ["pot", "is_great", "few", "base", "turn"]) (sc := defScope (top 14)) (by decide +kernel)) rfl (fun s1 H1 C1 cl1 fp1 => sn_name (i := 4) (by decide) (c.blk s1 H1 _ _ fp1).nd rfl (by first | exact .inl rfl | exact .inr rfl) (by first | exact .inr rfl | exact .inl rfl)) (fun s1 H1 C1 cl1 fp1 => sts_nil) (fun s1 H1 C1 cl1 fp1 => se_cal (d := d__law_pick) (F := F__law_pick) o__law_pick (c.blk s1 H1 _ _ fp1) (by decide) (sa_cons (se_var (i := 0) rfl (by first | exact .inr (.inr rfl) | exact .inr (.inl rfl))) (sa_cons (se_var (i := 3) rfl (by first | exact .inr (.inr rfl) | exact .inr (.inl rfl))) (sa_nil))) (al_cons (al_cons al_nil)) (by rfl))) (sa_nil)) rfl))))
/-! _law_wires 0=pot 1=many 2=chance 3=found 4=j 5=i -/
theorem sc__law_wires : FnScope (["pot", "many", "chance", "found", "j", "i"] : List Str) ["pot", "many"] (defScope (top 15)) := ⟨rfl, rfl, rfl, by decide +kernel, rfl, by decide +kernel, by decide +kernel⟩
def b__law_wires : FS := sSeq (sAsg (eArg gTupD (aCons (eArg F__law_pick (aCons (eVar 0) (aCons (eArg gLstD (aCons (eC (.int 0)) (aCons (eC (.int 1)) (aCons (eC (.int 2)) (aCons (eC (.int 3)) (aCons (eC (.int 3)) (aCons (eC (.int 4)) (aNil)))))))) (aNil)))) (aCons (eArg gNewD (aNil)) (aNil)))) (gTp 2 (gsCons (gNm 2) (gsCons (gNm 3) (gsNil)))))
    (sSeq (sFor (iRan1 (eVar 1)) (gNm 4) (sExpr (eMeth dExtend (eVar 3) (aCons (eArg gLstD (fLc (iRan1 (eVar 1)) (gNm 5) (tAnd2 (tBl (eBin dNe (eVar 5) (eVar 4))) (tBl (eBin dLt (eArg F__law_dip (aCons (eVar 0) (aCons (eC (.int 4)) (aNil)))) (eVar 2)))) (eArg gTupD (aCons (eVar 4) (aCons (eVar 5) (aNil)))) [5])) (aNil)))))
    (sRet (eArg dTup (aCons (eVar 3) (aNil)))))
def F__law_wires : List D → Mo D := fRun 6 b__law_wires
theorem ok__law_wires {P : Program} {w : World} {K : PySem.W.Frag} {mg : Str → Option Value} (base : Heap) (E : En Cc K mg) : OkF P w K mg base 3 d__law_wires ["pot", "many"] F__law_wires := by
  have o__law_dip : OkF P w K mg base 1 d__law_dip _ F__law_dip := ok__law_dip base E
  have o__law_pick : OkF P w K mg base 2 d__law_pick _ F__law_pick := ok__law_pick base E
  have g_tuple : mg "tuple" = none := E.fr 4 _ rfl
  have g_range : mg "range" = none := E.fr 3 _ rfl
  refine okf_of E 6 (b := b__law_wires) rfl sc__law_wires (fun _ _ _ _ _ _ us hl => match us, hl with | [_, _], _ => rfl) fun cdv A outer s H c hcd => ?_
  exact sss_cons (ss_asg (se_tup (sa_cons (se_cal (d := d__law_pick) (F := F__law_pick) o__law_pick c (by decide) (sa_cons (se_var (i := 0) rfl (.inr (.inl rfl))) (sa_cons (se_lst (sa_cons (se_int) (sa_cons (se_int) (sa_cons (se_int) (sa_cons (se_int) (sa_cons (se_int) (sa_cons (se_int) (sa_nil))))))) (al_cons (al_cons (al_cons (al_cons (al_cons (al_cons al_nil)))))) (by decide)) (sa_nil))) (al_cons (al_cons al_nil)) rfl) (sa_cons (se_new (sa_nil) (al_nil) (by decide)) (sa_nil))) (al_cons (al_cons al_nil)) (by decide)) (sg_tup c.calm (sgs_cons (sg_name (i := 2) c.nd rfl (.inr rfl) (.inl rfl)) (sgs_cons (sg_name (i := 3) c.nd rfl (.inl rfl) (.inr rfl)) (sgs_nil) rfl) rfl) rfl) rfl)
    (sss_cons (ss_for PassesOwn.never c.calm (si_range1 g_range (se_var (i := 1) rfl (.inl rfl)) rfl) (sg_name (i := 4) c.nd rfl (.inr rfl) (.inl rfl)) (sss_one (ss_expr (se_lmeth PySem.F.slot_list_extend PySem.F.type_list_extend mt_extend mtd_extend (se_var (i := 3) rfl (.inl rfl)) (sa_cons (se_lc lcEnd_lst c.calm c.nd (si_range1 g_range (se_var (i := 1) rfl (.inl rfl)) rfl) (own := [("i", 5)]) (blkOk_by (N := ["pot", "many", "chance", "found", "j", "i"]) (sc := defScope (top 15)) (by decide +kernel)) rfl (fun s1 H1 C1 cl1 fp1 => sn_name (i := 5) (by decide) (c.blk s1 H1 _ _ fp1).nd rfl (by first | exact .inl rfl | exact .inr rfl) (by first | exact .inr rfl | exact .inl rfl)) (fun s1 H1 C1 cl1 fp1 => sts_one ((sw_and (st_cmp (o_ne (c.blk s1 H1 _ _ fp1)) opd_ne (se_var (i := 5) rfl (by first | exact .inl rfl | exact .inr (.inl rfl))) (se_var (i := 4) rfl (by first | exact .inr (.inr rfl) | exact .inr (.inl rfl))) rfl) (sw_and1 (st_cmp op_lt opd_lt (se_cal (d := d__law_dip) (F := F__law_dip) o__law_dip (c.blk s1 H1 _ _ fp1) (by decide) (sa_cons (se_var (i := 0) rfl (by first | exact .inr (.inr rfl) | exact .inr (.inl rfl))) (sa_cons (se_int) (sa_nil))) (al_cons (al_cons al_nil)) (by rfl)) (se_var (i := 2) rfl (by first | exact .inr (.inr rfl) | exact .inr (.inl rfl))) rfl))).st)) (fun s1 H1 C1 cl1 fp1 => se_tup (sa_cons (se_var (i := 4) rfl (by first | exact .inr (.inr rfl) | exact .inr (.inl rfl))) (sa_cons (se_var (i := 5) rfl (by first | exact .inl rfl | exact .inr (.inl rfl))) (sa_nil))) (al_cons (al_cons al_nil)) (by decide))) (sa_nil))) rfl)))
    (sss_one (ss_ret (se_callTy call_tuple_of ard_tup g_tuple boot_tuple (sa_cons (se_var (i := 3) rfl (.inl rfl)) (sa_nil)) rfl))))
/-! _law_machine 0=pot 1=is_great 2=sizes -/
theorem sc__law_machine : FnScope (["pot", "is_great", "sizes"] : List Str) ["pot", "is_great"] (defScope (top 16)) := ⟨rfl, rfl, rfl, by decide +kernel, rfl, by decide +kernel, by decide +kernel⟩
def b__law_machine : FS := sSeq (sAsg (eArg F__law_sizes (aCons (eVar 0) (aCons (eVar 1) (aNil)))) (gNm 2))
    (sRet (eArg gTupD (aCons (eVar 2) (aCons (eArg F__law_wires (aCons (eVar 0) (aCons (eArg dLen (aCons (eVar 2) (aNil))) (aNil)))) (aNil)))))
def F__law_machine : List D → Mo D := fRun 3 b__law_machine
theorem ok__law_machine {P : Program} {w : World} {K : PySem.W.Frag} {mg : Str → Option Value} (base : Heap) (E : En Cc K mg) : OkF P w K mg base 5 d__law_machine ["pot", "is_great"] F__law_machine := by
  have o__law_wires : OkF P w K mg base 3 d__law_wires _ F__law_wires := ok__law_wires base E
  have o__law_sizes : OkF P w K mg base 4 d__law_sizes _ F__law_sizes := ok__law_sizes base E
  have g_len : mg "len" = none := E.fr 1 _ rfl
  refine okf_of E 7 (b := b__law_machine) rfl sc__law_machine (fun _ _ _ _ _ _ us hl => match us, hl with | [_, _], _ => rfl) fun cdv A outer s H c hcd => ?_
  exact sss_cons (ss_set (i := 2) c.nd rfl (.inl rfl) (se_cal (d := d__law_sizes) (F := F__law_sizes) o__law_sizes c (by decide) (sa_cons (se_var (i := 0) rfl (.inl rfl)) (sa_cons (se_var (i := 1) rfl (.inl rfl)) (sa_nil))) (al_cons (al_cons al_nil)) rfl) (.inr rfl) rfl)
    (sss_one (ss_ret (se_tup (sa_cons (se_var (i := 2) rfl (.inl rfl)) (sa_cons (se_cal (d := d__law_wires) (F := F__law_wires) o__law_wires c (by decide) (sa_cons (se_var (i := 0) rfl (.inl rfl)) (sa_cons (se_callB call_len ard_len g_len boot_len (sa_cons (se_var (i := 2) rfl (.inl rfl)) (sa_nil)) rfl) (sa_nil))) (al_cons (al_cons al_nil)) rfl) (sa_nil))) (al_cons (al_cons al_nil)) (by decide))))
/-! depth 0=machine 1=p 2=i 3=found 4=left -/
theorem sc_depth : FnScope (["machine", "p", "i", "found", "left"] : List Str) ["machine", "p", "i"] (defScope (top 4)) := ⟨rfl, rfl, rfl, by decide +kernel, rfl, by decide +kernel, by decide +kernel⟩
def b_depth : FS := sSeq (sPar 3 4 (aCons (eC (.int 0)) (aCons (eBin dIx (eBin dIx (eVar 0) (eC (.int 0))) (eVar 2)) (aNil))))
    (sSeq (sWhile (tBl (eBin dEq (eBin (dMod) (eVar 4) (eVar 1)) (eC (.int 0)))) (sPar 3 4 (aCons (eBin (dAddY gLstD) (eVar 3) (eC (.int 1))) (aCons (eBin (dFdiv) (eVar 4) (eVar 1)) (aNil)))))
    (sRet (eVar 3)))
def F_depth : List D → Mo D := fRun 5 b_depth
theorem ok_depth {P : Program} {w : World} {K : PySem.W.Frag} {mg : Str → Option Value} (base : Heap) (E : En Cc K mg) : OkF P w K mg base 1 d_depth ["machine", "p", "i"] F_depth := by
  refine okf_of E 8 (b := b_depth) rfl sc_depth (fun _ _ _ _ _ _ us hl => match us, hl with | [_, _, _], _ => rfl) fun cdv A outer s H c hcd => ?_
  exact sss_cons (ss_par (i := 3) (j := 4) c.calm c.nd rfl rfl (by decide) rfl rfl (sa_cons (se_int) (sa_cons (se_ix ix_seq opd_ix (se_ix ix_seq opd_ix (se_var (i := 0) rfl (.inl rfl)) (se_int) (fun _ _ => rfl)) (se_var (i := 2) rfl (.inl rfl)) (fun _ _ => rfl)) (sa_nil))) rfl rfl)
    (sss_cons (ss_while PassesOwn.never (st_cmp (o_eq c) opd_eq (se_op op_mod (opd_mod) (se_var (i := 4) rfl (.inl rfl)) (se_var (i := 1) rfl (.inl rfl))) (se_int) rfl) (sss_one (ss_par (i := 3) (j := 4) c.calm c.nd rfl rfl (by decide) rfl rfl (sa_cons (se_op o_add (d_add alEnd_lst) (se_var (i := 3) rfl (.inl rfl)) (se_int)) (sa_cons (se_op op_fdivW (opd_fdiv) (se_var (i := 4) rfl (.inl rfl)) (se_var (i := 1) rfl (.inl rfl))) (sa_nil))) rfl rfl)))
    (sss_one (ss_ret (se_var (i := 3) rfl (.inl rfl)))))
/-! primes_of 0=machine 1=found 2=p 3=size -/
theorem sc_primes_of : FnScope (["machine", "found", "p", "size"] : List Str) ["machine"] (defScope (top 3)) := ⟨rfl, rfl, rfl, by decide +kernel, rfl, by decide +kernel, by decide +kernel⟩
def b_primes_of : FS := sSeq (sAsg (eArg gNewD (aNil)) (gNm 1))
    (sSeq (sFor (iSeq (eC (.tup (([2, 3, 5, 7, 11, 13, 17, 19, 23, 29, 31, 37, 41, 43, 47, 53, 59, 61, 67, 71, 73, 79, 83, 89, 97] : List Int).map D.int)))) (gNm 2) (sIf (tBl (eBin dIn (eC (.int 0)) (eArg gLstD (fLc (iSeq (eBin dIx (eVar 0) (eC (.int 0)))) (gNm 3) (tTrue) (eBin (dMod) (eVar 3) (eVar 2)) [3])))) (sExpr (eMeth dAppend (eVar 1) (aCons (eVar 2) (aNil)))) (sNil)))
    (sRet (eArg dTup (aCons (eVar 1) (aNil)))))
def F_primes_of : List D → Mo D := fRun 4 b_primes_of
theorem ok_primes_of {P : Program} {w : World} {K : PySem.W.Frag} {mg : Str → Option Value} (base : Heap) (E : En Cc K mg) : OkF P w K mg base 1 d_primes_of ["machine"] F_primes_of := by
  have g_tuple : mg "tuple" = none := E.fr 4 _ rfl
  obtain ⟨a_PRIMES, g_PRIMES, t_PRIMES⟩ := E.tp 0 _ rfl
  refine okf_of E 9 (b := b_primes_of) rfl sc_primes_of (fun _ _ _ _ _ _ us hl => match us, hl with | [_], _ => rfl) fun cdv A outer s H c hcd => ?_
  exact sss_cons (ss_set (i := 1) c.nd rfl (.inl rfl) (se_new (sa_nil) (al_nil) (by decide)) (.inr rfl) rfl)
    (sss_cons (ss_for PassesOwn.never c.calm (si_seq (se_gtup t_PRIMES g_PRIMES rfl)) (sg_name (i := 2) c.nd rfl (.inr rfl) (.inl rfl)) (sss_one (ss_if (st_cmp (o_in c) opd_in (se_int) (se_lc lcEnd_lst c.calm c.nd (si_seq (se_ix ix_seq opd_ix (se_var (i := 0) rfl (.inl rfl)) (se_int) (fun _ _ => rfl))) (own := [("size", 3)]) (blkOk_by (N := ["machine", "found", "p", "size"]) (sc := defScope (top 3)) (by decide +kernel)) rfl (fun s1 H1 C1 cl1 fp1 => sn_name (i := 3) (by decide) (c.blk s1 H1 _ _ fp1).nd rfl (by first | exact .inl rfl | exact .inr rfl) (by first | exact .inr rfl | exact .inl rfl)) (fun s1 H1 C1 cl1 fp1 => sts_nil) (fun s1 H1 C1 cl1 fp1 => se_op op_mod (opd_mod) (se_var (i := 3) rfl (by first | exact .inl rfl | exact .inr (.inl rfl))) (se_var (i := 2) rfl (by first | exact .inr (.inr rfl) | exact .inr (.inl rfl))))) rfl) (sss_one (ss_expr (se_lmeth PySem.F.slot_list_append PySem.F.type_list_append mt_append mtd_append (se_var (i := 1) rfl (.inl rfl)) (sa_cons (se_var (i := 2) rfl (.inr (.inl rfl))) (sa_nil))) rfl)) (sss_nil))))
    (sss_one (ss_ret (se_callTy call_tuple_of ard_tup g_tuple boot_tuple (sa_cons (se_var (i := 1) rfl (.inl rfl)) (sa_nil)) rfl))))
/-! _law_often 0=size 1=prime 2=found -/
theorem sc__law_often : FnScope (["size", "prime", "found"] : List Str) ["size", "prime"] (defScope (top 17)) := ⟨rfl, rfl, rfl, by decide +kernel, rfl, by decide +kernel, by decide +kernel⟩
def b__law_often : FS := sSeq (sAsg (eC (.int 0)) (gNm 2))
    (sSeq (sWhile (tBl (eBin dEq (eBin (dMod) (eVar 0) (eVar 1)) (eC (.int 0)))) (sPar 0 2 (aCons (eBin (dFdiv) (eVar 0) (eVar 1)) (aCons (eBin (dAddY gLstD) (eVar 2) (eC (.int 1))) (aNil)))))
    (sRet (eVar 2)))
def F__law_often : List D → Mo D := fRun 3 b__law_often
theorem ok__law_often {P : Program} {w : World} {K : PySem.W.Frag} {mg : Str → Option Value} (base : Heap) (E : En Cc K mg) : OkF P w K mg base 1 d__law_often ["size", "prime"] F__law_often := by
  refine okf_of E 10 (b := b__law_often) rfl sc__law_often (fun _ _ _ _ _ _ us hl => match us, hl with | [_, _], _ => rfl) fun cdv A outer s H c hcd => ?_
  exact sss_cons (ss_set (i := 2) c.nd rfl (.inl rfl) (se_int) (.inr rfl) rfl)
    (sss_cons (ss_while PassesOwn.never (st_cmp (o_eq c) opd_eq (se_op op_mod (opd_mod) (se_var (i := 0) rfl (.inl rfl)) (se_var (i := 1) rfl (.inl rfl))) (se_int) rfl) (sss_one (ss_par (i := 0) (j := 2) c.calm c.nd rfl rfl (by decide) rfl rfl (sa_cons (se_op op_fdivW (opd_fdiv) (se_var (i := 0) rfl (.inl rfl)) (se_var (i := 1) rfl (.inl rfl))) (sa_cons (se_op o_add (d_add alEnd_lst) (se_var (i := 2) rfl (.inl rfl)) (se_int)) (sa_nil))) rfl rfl)))
    (sss_one (ss_ret (se_var (i := 2) rfl (.inl rfl)))))
/-! _law_is_divided 0=machine 1=sizes 2=due 3=i 4=size 5=made 6=prime 7=often 8=turn -/
theorem sc__law_is_divided : FnScope (["machine", "sizes", "due", "i", "size", "made", "prime", "often", "turn"] : List Str) ["machine"] (defScope (top 18)) := ⟨rfl, rfl, rfl, by decide +kernel, rfl, by decide +kernel, by decide +kernel⟩
def b__law_is_divided : FS := sSeq (sAsg (eBin dIx (eVar 0) (eC (.int 0))) (gNm 1))
    (sSeq (sAsg (eArg dTup (aCons (eArg gLstD (fLc (iSeq (eArg F__law_primes aNil)) (gNm 6) (tBl (eBin dNe (eArg gLstD (fLc (iSeq (eVar 1)) (gNm 4) (tBl (eBin dEq (eBin (dMod) (eVar 4) (eVar 6)) (eC (.int 0)))) (eC (.int 1)) [4])) (eArg gLstD (aNil)))) (eVar 6) [6])) (aNil))) (gNm 2))
    (sSeq (sIf (tBl (eBin dNe (eArg dRepr (aCons (eArg gLstD (aCons (eArg F_primes_of (aCons (eVar 0) (aNil))) (aCons (eArgK F_primes_of [0] aNil (aCons (eVar 0) (aNil))) (aNil)))) (aNil))) (eArg dRepr (aCons (eArg gLstD (aCons (eVar 2) (aCons (eVar 2) (aNil)))) (aNil))))) (sRet (eC (.bl false))) (sNil))
    (sSeq (sFor (iEnu (eVar 1)) (gTp 2 (gsCons (gNm 3) (gsCons (gNm 4) (gsNil)))) (sSeq (sAsg (eC (.int 1)) (gNm 5))
    (sSeq (sFor (iSeq (eVar 2)) (gNm 6) (sSeq (sAsg (eArg F_depth (aCons (eVar 0) (aCons (eVar 6) (aCons (eVar 3) (aNil))))) (gNm 7))
    (sSeq (sIf (tBl (eBin dNe (eArg dRepr (aCons (eArg gLstD (aCons (eVar 7) (aCons (eArgK F_depth [2, 1, 0] aNil (aCons (eVar 3) (aCons (eVar 6) (aCons (eVar 0) (aNil))))) (aNil)))) (aNil))) (eArg dRepr (aCons (eBin (dMulY gLstD) (eArg gLstD (aCons (eArg F__law_often (aCons (eVar 4) (aCons (eVar 6) (aNil)))) (aNil))) (eC (.int 2))) (aNil))))) (sRet (eC (.bl false))) (sNil))
    (sFor (iRan1 (eVar 7)) (gNm 8) (sAsg (eBin (dMulY gLstD) (eVar 5) (eVar 6)) (gNm 5))))))
    (sIf (tBl (eBin dNe (eVar 5) (eVar 4))) (sRet (eC (.bl false))) (sNil)))))
    (sRet (eC (.bl true))))))
def F__law_is_divided : List D → Mo D := fRun 9 b__law_is_divided
theorem ok__law_is_divided {P : Program} {w : World} {K : PySem.W.Frag} {mg : Str → Option Value} (base : Heap) (E : En Cc K mg) : OkF P w K mg base 2 d__law_is_divided ["machine"] F__law_is_divided := by
  have o_depth : OkF P w K mg base 1 d_depth _ F_depth := ok_depth base E
  have o__law_often : OkF P w K mg base 1 d__law_often _ F__law_often := ok__law_often base E
  have o_primes_of : OkF P w K mg base 1 d_primes_of _ F_primes_of := ok_primes_of base E
  have o__law_primes : OkF P w K mg base 1 d__law_primes _ F__law_primes := ok__law_primes base E
  have g_enumerate : mg "enumerate" = none := E.fr 5 _ rfl
  have g_range : mg "range" = none := E.fr 3 _ rfl
  have g_repr : mg "repr" = none := E.fr 6 _ rfl
  have g_tuple : mg "tuple" = none := E.fr 4 _ rfl
  refine okf_of E 11 (b := b__law_is_divided) rfl sc__law_is_divided (fun _ _ _ _ _ _ us hl => match us, hl with | [_], _ => rfl) fun cdv A outer s H c hcd => ?_
  exact sss_cons (ss_set (i := 1) c.nd rfl (.inr rfl) (se_ix ix_seq opd_ix (se_var (i := 0) rfl (.inl rfl)) (se_int) (fun _ _ => rfl)) (.inl rfl) rfl)
    (sss_cons (ss_set (i := 2) c.nd rfl (.inl rfl) (se_callTy call_tuple_of ard_tup g_tuple boot_tuple (sa_cons (se_lc lcEnd_lst c.calm c.nd (si_seq (se_cal0 (d := d__law_primes) (F := F__law_primes) o__law_primes c (by decide) rfl)) (own := [("prime", 6)]) (blkOk_by (N := ["machine", "sizes", "due", "i", "size", "made", "prime", "often", "turn"]) (sc := defScope (top 18)) (by decide +kernel)) rfl (fun s1 H1 C1 cl1 fp1 => sn_name (i := 6) (by decide) (c.blk s1 H1 _ _ fp1).nd rfl (by first | exact .inl rfl | exact .inr rfl) (by first | exact .inr rfl | exact .inl rfl)) (fun s1 H1 C1 cl1 fp1 => sts_one (st_cmp (o_ne (c.blk s1 H1 _ _ fp1)) opd_ne (se_lc lcEnd_lst (c.blk s1 H1 _ _ fp1).calm (c.blk s1 H1 _ _ fp1).nd (si_seq (se_var (i := 1) rfl (by first | exact .inr (.inr rfl) | exact .inr (.inl rfl)))) (own := [("size", 4)]) (blkOk_by (by rfl)) rfl (fun s2 H2 C2 cl2 fp2 => sn_name (i := 4) (by decide) ((c.blk s1 H1 _ _ fp1).blk s2 H2 _ _ fp2).nd rfl (by first | exact .inl rfl | exact .inr rfl) (by first | exact .inr rfl | exact .inl rfl)) (fun s2 H2 C2 cl2 fp2 => sts_one (st_cmp (o_eq ((c.blk s1 H1 _ _ fp1).blk s2 H2 _ _ fp2)) opd_eq (se_op op_mod (opd_mod) (se_var (i := 4) rfl (by first | exact .inl rfl | exact .inr (.inl rfl))) (se_var (i := 6) rfl (by first | exact .inr (.inr rfl) | exact .inr (.inl rfl)))) (se_int) rfl)) (fun s2 H2 C2 cl2 fp2 => se_int)) (se_lst (sa_nil) (al_nil) (by decide)) rfl)) (fun s1 H1 C1 cl1 fp1 => se_var (i := 6) rfl (by first | exact .inl rfl | exact .inr (.inl rfl)))) (sa_nil)) rfl) (.inr rfl) rfl)
    (sss_cons (ss_if (st_cmp (o_ne c) opd_ne (se_callB (call_reprX c) ard_repr g_repr boot_repr (sa_cons (se_lst (sa_cons (se_cal (d := d_primes_of) (F := F_primes_of) o_primes_of c (by decide) (sa_cons (se_var (i := 0) rfl (.inl rfl)) (sa_nil)) (al_cons al_nil) rfl) (sa_cons (se_calK0 (d := d_primes_of) (F := F_primes_of) o_primes_of c (by decide) ["machine"] [0] (fun _ _ _ _ _ _ us ws h1 h2 => match us, ws, h1, h2 with | [], [_], _, _ => rfl) rfl (sk_cons (se_var (i := 0) rfl (.inl rfl)) (sk_nil)) (al_cons al_nil) rfl) (sa_nil))) (al_cons (al_cons al_nil)) (by decide)) (sa_nil)) rfl) (se_callB (call_reprX c) ard_repr g_repr boot_repr (sa_cons (se_lst (sa_cons (se_var (i := 2) rfl (.inl rfl)) (sa_cons (se_var (i := 2) rfl (.inl rfl)) (sa_nil))) (al_cons (al_cons al_nil)) (by decide)) (sa_nil)) rfl) rfl) (sss_one (ss_ret (se_bl))) (sss_nil))
    (sss_cons (ss_for PassesOwn.never c.calm (si_enum g_enumerate (se_var (i := 1) rfl (.inr (.inl rfl))) rfl) (sg_tup c.calm (sgs_cons (sg_name (i := 3) c.nd rfl (.inl rfl) (.inr rfl)) (sgs_cons (sg_name (i := 4) c.nd rfl (.inl rfl) (.inr rfl)) (sgs_nil) rfl) rfl) rfl) (sss_cons (ss_set (i := 5) c.nd rfl (.inl rfl) (se_int) (.inr rfl) rfl)
    (sss_cons (ss_for PassesOwn.never c.calm (si_seq (se_var (i := 2) rfl (.inl rfl))) (sg_name (i := 6) c.nd rfl (.inl rfl) (.inr rfl)) (sss_cons (ss_set (i := 7) c.nd rfl (.inl rfl) (se_cal (d := d_depth) (F := F_depth) o_depth c (by decide) (sa_cons (se_var (i := 0) rfl (.inl rfl)) (sa_cons (se_var (i := 6) rfl (.inl rfl)) (sa_cons (se_var (i := 3) rfl (.inl rfl)) (sa_nil)))) (al_cons (al_cons (al_cons al_nil))) rfl) (.inr rfl) rfl)
    (sss_cons (ss_if (st_cmp (o_ne c) opd_ne (se_callB (call_reprX c) ard_repr g_repr boot_repr (sa_cons (se_lst (sa_cons (se_var (i := 7) rfl (.inl rfl)) (sa_cons (se_calK0 (d := d_depth) (F := F_depth) o_depth c (by decide) ["i", "p", "machine"] [2, 1, 0] (fun _ _ _ _ _ _ us ws h1 h2 => match us, ws, h1, h2 with | [], [_, _, _], _, _ => rfl) rfl (sk_cons (se_var (i := 3) rfl (.inl rfl)) (sk_cons (se_var (i := 6) rfl (.inl rfl)) (sk_cons (se_var (i := 0) rfl (.inl rfl)) (sk_nil)))) (al_cons (al_cons (al_cons al_nil))) rfl) (sa_nil))) (al_cons (al_cons al_nil)) (by decide)) (sa_nil)) rfl) (se_callB (call_reprX c) ard_repr g_repr boot_repr (sa_cons (se_op o_mul (d_mul alEnd_lst) (se_lst (sa_cons (se_cal (d := d__law_often) (F := F__law_often) o__law_often c (by decide) (sa_cons (se_var (i := 4) rfl (.inl rfl)) (sa_cons (se_var (i := 6) rfl (.inl rfl)) (sa_nil))) (al_cons (al_cons al_nil)) rfl) (sa_nil)) (al_cons al_nil) (by decide)) (se_int)) (sa_nil)) rfl) rfl) (sss_one (ss_ret (se_bl))) (sss_nil))
    (sss_one (ss_for PassesOwn.never c.calm (si_range1 g_range (se_var (i := 7) rfl (.inl rfl)) rfl) (sg_name (i := 8) c.nd rfl (.inl rfl) (.inr rfl)) (sss_one (ss_set (i := 5) c.nd rfl (.inl rfl) (se_op o_mul (d_mul alEnd_lst) (se_var (i := 5) rfl (.inl rfl)) (se_var (i := 6) rfl (.inl rfl))) (.inr rfl) rfl)))))))
    (sss_one (ss_if (st_cmp (o_ne c) opd_ne (se_var (i := 5) rfl (.inl rfl)) (se_var (i := 4) rfl (.inl rfl)) rfl) (sss_one (ss_ret (se_bl))) (sss_nil))))))
    (sss_one (ss_ret (se_bl))))))
/-! step 0=machine 1=j 2=i -/
theorem sc_step : FnScope (["machine", "j", "i"] : List Str) ["machine", "j", "i"] (defScope (top 5)) := ⟨rfl, rfl, rfl, by decide +kernel, rfl, by decide +kernel, by decide +kernel⟩
def b_step : FS := sRet (eBin (dFdiv) (eBin dIx (eBin dIx (eVar 0) (eC (.int 0))) (eVar 2)) (eArg dGcd (aCons (eBin dIx (eBin dIx (eVar 0) (eC (.int 0))) (eVar 2)) (aCons (eBin dIx (eBin dIx (eVar 0) (eC (.int 0))) (eVar 1)) (aNil)))))
def F_step : List D → Mo D := fRun 3 b_step
theorem ok_step {P : Program} {w : World} {K : PySem.W.Frag} {mg : Str → Option Value} (base : Heap) (E : En Cc K mg) : OkF P w K mg base 1 d_step ["machine", "j", "i"] F_step := by
  have g_gcd : mg "gcd" = some (.builtin "math.gcd") := E.bi 0 _ rfl
  refine okf_of E 12 (b := b_step) rfl sc_step (fun _ _ _ _ _ _ us hl => match us, hl with | [_, _, _], _ => rfl) fun cdv A outer s H c hcd => ?_
  exact sss_one (ss_ret (se_op op_fdivW (opd_fdiv) (se_ix ix_seq opd_ix (se_ix ix_seq opd_ix (se_var (i := 0) rfl (.inl rfl)) (se_int) (fun _ _ => rfl)) (se_var (i := 2) rfl (.inl rfl)) (fun _ _ => rfl)) (se_callG cr_gcd ard_gcd g_gcd (sa_cons (se_ix ix_seq opd_ix (se_ix ix_seq opd_ix (se_var (i := 0) rfl (.inl rfl)) (se_int) (fun _ _ => rfl)) (se_var (i := 2) rfl (.inl rfl)) (fun _ _ => rfl)) (sa_cons (se_ix ix_seq opd_ix (se_ix ix_seq opd_ix (se_var (i := 0) rfl (.inl rfl)) (se_int) (fun _ _ => rfl)) (se_var (i := 1) rfl (.inl rfl)) (fun _ _ => rfl)) (sa_nil))) rfl)))
/-! _law_common 0=one 1=other -/
theorem sc__law_common : FnScope (["one", "other"] : List Str) ["one", "other"] (defScope (top 11)) := ⟨rfl, rfl, rfl, by decide +kernel, rfl, by decide +kernel, by decide +kernel⟩
def b__law_common : FS := sSeq (sWhile (tBl (eBin dGt (eVar 1) (eC (.int 0)))) (sPar 0 1 (aCons (eVar 1) (aCons (eBin (dMod) (eVar 0) (eVar 1)) (aNil)))))
    (sRet (eVar 0))
def F__law_common : List D → Mo D := fRun 2 b__law_common
theorem ok__law_common {P : Program} {w : World} {K : PySem.W.Frag} {mg : Str → Option Value} (base : Heap) (E : En Cc K mg) : OkF P w K mg base 1 d__law_common ["one", "other"] F__law_common := by
  refine okf_of E 13 (b := b__law_common) rfl sc__law_common (fun _ _ _ _ _ _ us hl => match us, hl with | [_, _], _ => rfl) fun cdv A outer s H c hcd => ?_
  exact sss_cons (ss_while PassesOwn.never (st_cmp op_gt opd_gt (se_var (i := 1) rfl (.inl rfl)) (se_int) rfl) (sss_one (ss_par (i := 0) (j := 1) c.calm c.nd rfl rfl (by decide) rfl rfl (sa_cons (se_var (i := 1) rfl (.inl rfl)) (sa_cons (se_op op_mod (opd_mod) (se_var (i := 0) rfl (.inl rfl)) (se_var (i := 1) rfl (.inl rfl))) (sa_nil))) rfl rfl)))
    (sss_one (ss_ret (se_var (i := 0) rfl (.inl rfl))))
/-! _law_step 0=sizes 1=j 2=i -/
theorem sc__law_step : FnScope (["sizes", "j", "i"] : List Str) ["sizes", "j", "i"] (defScope (top 12)) := ⟨rfl, rfl, rfl, by decide +kernel, rfl, by decide +kernel, by decide +kernel⟩
def b__law_step : FS := sRet (eBin (dFdiv) (eBin dIx (eVar 0) (eVar 2)) (eArg F__law_common (aCons (eBin dIx (eVar 0) (eVar 1)) (aCons (eBin dIx (eVar 0) (eVar 2)) (aNil)))))
def F__law_step : List D → Mo D := fRun 3 b__law_step
theorem ok__law_step {P : Program} {w : World} {K : PySem.W.Frag} {mg : Str → Option Value} (base : Heap) (E : En Cc K mg) : OkF P w K mg base 2 d__law_step ["sizes", "j", "i"] F__law_step := by
  have o__law_common : OkF P w K mg base 1 d__law_common _ F__law_common := ok__law_common base E
  refine okf_of E 14 (b := b__law_step) rfl sc__law_step (fun _ _ _ _ _ _ us hl => match us, hl with | [_, _, _], _ => rfl) fun cdv A outer s H c hcd => ?_
  exact sss_one (ss_ret (se_op op_fdivW (opd_fdiv) (se_ix ix_seq opd_ix (se_var (i := 0) rfl (.inl rfl)) (se_var (i := 2) rfl (.inl rfl)) (fun _ _ => rfl)) (se_cal (d := d__law_common) (F := F__law_common) o__law_common c (by decide) (sa_cons (se_ix ix_seq opd_ix (se_var (i := 0) rfl (.inl rfl)) (se_var (i := 1) rfl (.inl rfl)) (fun _ _ => rfl)) (sa_cons (se_ix ix_seq opd_ix (se_var (i := 0) rfl (.inl rfl)) (se_var (i := 2) rfl (.inl rfl)) (fun _ _ => rfl)) (sa_nil))) (al_cons (al_cons al_nil)) rfl)))
/-! _law_is_least 0=machine 1=j 2=i 3=sizes 4=told 5=prime -/
theorem sc__law_is_least : FnScope (["machine", "j", "i", "sizes", "told", "prime"] : List Str) ["machine", "j", "i"] (defScope (top 19)) := ⟨rfl, rfl, rfl, by decide +kernel, rfl, by decide +kernel, by decide +kernel⟩
def b__law_is_least : FS := sSeq (sPar 3 4 (aCons (eBin dIx (eVar 0) (eC (.int 0))) (aCons (eArg F_step (aCons (eVar 0) (aCons (eVar 1) (aCons (eVar 2) (aNil))))) (aNil))))
    (sSeq (sIf (tBl (eBin dNe (eArg dRepr (aCons (eArg gLstD (aCons (eVar 4) (aCons (eArgK F_step [2, 1, 0] aNil (aCons (eVar 2) (aCons (eVar 1) (aCons (eVar 0) (aNil))))) (aNil)))) (aNil))) (eArg dRepr (aCons (eBin (dMulY gLstD) (eArg gLstD (aCons (eArg F__law_step (aCons (eVar 3) (aCons (eVar 1) (aCons (eVar 2) (aNil))))) (aNil))) (eC (.int 2))) (aNil))))) (sRet (eC (.bl false))) (sNil))
    (sSeq (sFor (iSeq (eArg F__law_primes aNil)) (gNm 5) (sSeq (sIf (tAnd2 (tBl (eBin dEq (eBin (dMod) (eVar 4) (eVar 5)) (eC (.int 0)))) (tBl (eBin dEq (eBin (dMod) (eBin (dMulY gLstD) (eBin (dFdiv) (eVar 4) (eVar 5)) (eBin dIx (eVar 3) (eVar 1))) (eBin dIx (eVar 3) (eVar 2))) (eC (.int 0))))) (sRet (eC (.bl false))) (sNil))
    (sIf (tBl (eBin dNe (eArg F__law_often (aCons (eVar 4) (aCons (eVar 5) (aNil)))) (eArg dMax2 (aCons (eC (.int 0)) (aCons (eBin (dSub) (eArg F__law_often (aCons (eBin dIx (eVar 3) (eVar 2)) (aCons (eVar 5) (aNil)))) (eArg F__law_often (aCons (eBin dIx (eVar 3) (eVar 1)) (aCons (eVar 5) (aNil))))) (aNil)))))) (sRet (eC (.bl false))) (sNil))))
    (sSeq (sIf (tOr2 (tBl (eBin dNe (eBin dEq (eVar 4) (eC (.int 1))) (eBin dEq (eBin (dMod) (eBin dIx (eVar 3) (eVar 1)) (eBin dIx (eVar 3) (eVar 2))) (eC (.int 0))))) (tBl (eBin dNe (eBin dEq (eVar 4) (eBin dIx (eVar 3) (eVar 2))) (eBin dEq (eArg F__law_common (aCons (eBin dIx (eVar 3) (eVar 2)) (aCons (eBin dIx (eVar 3) (eVar 1)) (aNil)))) (eC (.int 1)))))) (sRet (eC (.bl false))) (sNil))
    (sRet (eBin dEq (eBin (dMod) (eBin (dMulY gLstD) (eVar 4) (eBin dIx (eVar 3) (eVar 1))) (eBin dIx (eVar 3) (eVar 2))) (eC (.int 0)))))))
def F__law_is_least : List D → Mo D := fRun 6 b__law_is_least
theorem ok__law_is_least {P : Program} {w : World} {K : PySem.W.Frag} {mg : Str → Option Value} (base : Heap) (E : En Cc K mg) : OkF P w K mg base 3 d__law_is_least ["machine", "j", "i"] F__law_is_least := by
  have o__law_common : OkF P w K mg base 1 d__law_common _ F__law_common := ok__law_common base E
  have o__law_primes : OkF P w K mg base 1 d__law_primes _ F__law_primes := ok__law_primes base E
  have o__law_often : OkF P w K mg base 1 d__law_often _ F__law_often := ok__law_often base E
  have o_step : OkF P w K mg base 1 d_step _ F_step := ok_step base E
  have o__law_step : OkF P w K mg base 2 d__law_step _ F__law_step := ok__law_step base E
  have g_max : mg "max" = none := E.fr 2 _ rfl
  have g_repr : mg "repr" = none := E.fr 6 _ rfl
  refine okf_of E 15 (b := b__law_is_least) rfl sc__law_is_least (fun _ _ _ _ _ _ us hl => match us, hl with | [_, _, _], _ => rfl) fun cdv A outer s H c hcd => ?_
  exact sss_cons (ss_par (i := 3) (j := 4) c.calm c.nd rfl rfl (by decide) rfl rfl (sa_cons (se_ix ix_seq opd_ix (se_var (i := 0) rfl (.inl rfl)) (se_int) (fun _ _ => rfl)) (sa_cons (se_cal (d := d_step) (F := F_step) o_step c (by decide) (sa_cons (se_var (i := 0) rfl (.inl rfl)) (sa_cons (se_var (i := 1) rfl (.inl rfl)) (sa_cons (se_var (i := 2) rfl (.inl rfl)) (sa_nil)))) (al_cons (al_cons (al_cons al_nil))) rfl) (sa_nil))) rfl rfl)
    (sss_cons (ss_if (st_cmp (o_ne c) opd_ne (se_callB (call_reprX c) ard_repr g_repr boot_repr (sa_cons (se_lst (sa_cons (se_var (i := 4) rfl (.inl rfl)) (sa_cons (se_calK0 (d := d_step) (F := F_step) o_step c (by decide) ["i", "j", "machine"] [2, 1, 0] (fun _ _ _ _ _ _ us ws h1 h2 => match us, ws, h1, h2 with | [], [_, _, _], _, _ => rfl) rfl (sk_cons (se_var (i := 2) rfl (.inl rfl)) (sk_cons (se_var (i := 1) rfl (.inl rfl)) (sk_cons (se_var (i := 0) rfl (.inl rfl)) (sk_nil)))) (al_cons (al_cons (al_cons al_nil))) rfl) (sa_nil))) (al_cons (al_cons al_nil)) (by decide)) (sa_nil)) rfl) (se_callB (call_reprX c) ard_repr g_repr boot_repr (sa_cons (se_op o_mul (d_mul alEnd_lst) (se_lst (sa_cons (se_cal (d := d__law_step) (F := F__law_step) o__law_step c (by decide) (sa_cons (se_var (i := 3) rfl (.inl rfl)) (sa_cons (se_var (i := 1) rfl (.inl rfl)) (sa_cons (se_var (i := 2) rfl (.inl rfl)) (sa_nil)))) (al_cons (al_cons (al_cons al_nil))) rfl) (sa_nil)) (al_cons al_nil) (by decide)) (se_int)) (sa_nil)) rfl) rfl) (sss_one (ss_ret (se_bl))) (sss_nil))
    (sss_cons (ss_for PassesOwn.never c.calm (si_seq (se_cal0 (d := d__law_primes) (F := F__law_primes) o__law_primes c (by decide) rfl)) (sg_name (i := 5) c.nd rfl (.inl rfl) (.inr rfl)) (sss_cons (ss_if ((sw_and (st_cmp (o_eq c) opd_eq (se_op op_mod (opd_mod) (se_var (i := 4) rfl (.inl rfl)) (se_var (i := 5) rfl (.inl rfl))) (se_int) rfl) (sw_and1 (st_cmp (o_eq c) opd_eq (se_op op_mod (opd_mod) (se_op o_mul (d_mul alEnd_lst) (se_op op_fdivW (opd_fdiv) (se_var (i := 4) rfl (.inl rfl)) (se_var (i := 5) rfl (.inl rfl))) (se_ix ix_seq opd_ix (se_var (i := 3) rfl (.inl rfl)) (se_var (i := 1) rfl (.inl rfl)) (fun _ _ => rfl))) (se_ix ix_seq opd_ix (se_var (i := 3) rfl (.inl rfl)) (se_var (i := 2) rfl (.inl rfl)) (fun _ _ => rfl))) (se_int) rfl))).st) (sss_one (ss_ret (se_bl))) (sss_nil))
    (sss_one (ss_if (st_cmp (o_ne c) opd_ne (se_cal (d := d__law_often) (F := F__law_often) o__law_often c (by decide) (sa_cons (se_var (i := 4) rfl (.inl rfl)) (sa_cons (se_var (i := 5) rfl (.inl rfl)) (sa_nil))) (al_cons (al_cons al_nil)) rfl) (se_callB (call_max2 c.calm) ard_max2 g_max boot_max (sa_cons (se_int) (sa_cons (se_op op_sub (opd_sub) (se_cal (d := d__law_often) (F := F__law_often) o__law_often c (by decide) (sa_cons (se_ix ix_seq opd_ix (se_var (i := 3) rfl (.inl rfl)) (se_var (i := 2) rfl (.inl rfl)) (fun _ _ => rfl)) (sa_cons (se_var (i := 5) rfl (.inl rfl)) (sa_nil))) (al_cons (al_cons al_nil)) rfl) (se_cal (d := d__law_often) (F := F__law_often) o__law_often c (by decide) (sa_cons (se_ix ix_seq opd_ix (se_var (i := 3) rfl (.inl rfl)) (se_var (i := 1) rfl (.inl rfl)) (fun _ _ => rfl)) (sa_cons (se_var (i := 5) rfl (.inl rfl)) (sa_nil))) (al_cons (al_cons al_nil)) rfl)) (sa_nil))) rfl) rfl) (sss_one (ss_ret (se_bl))) (sss_nil)))))
    (sss_cons (ss_if ((sw_or (st_cmp (o_ne c) opd_ne (se_cmp (o_eq c) opd_eq (se_var (i := 4) rfl (.inl rfl)) (se_int) rfl) (se_cmp (o_eq c) opd_eq (se_op op_mod (opd_mod) (se_ix ix_seq opd_ix (se_var (i := 3) rfl (.inl rfl)) (se_var (i := 1) rfl (.inl rfl)) (fun _ _ => rfl)) (se_ix ix_seq opd_ix (se_var (i := 3) rfl (.inl rfl)) (se_var (i := 2) rfl (.inl rfl)) (fun _ _ => rfl))) (se_int) rfl) rfl) (sw_or1 (st_cmp (o_ne c) opd_ne (se_cmp (o_eq c) opd_eq (se_var (i := 4) rfl (.inl rfl)) (se_ix ix_seq opd_ix (se_var (i := 3) rfl (.inl rfl)) (se_var (i := 2) rfl (.inl rfl)) (fun _ _ => rfl)) rfl) (se_cmp (o_eq c) opd_eq (se_cal (d := d__law_common) (F := F__law_common) o__law_common c (by decide) (sa_cons (se_ix ix_seq opd_ix (se_var (i := 3) rfl (.inl rfl)) (se_var (i := 2) rfl (.inl rfl)) (fun _ _ => rfl)) (sa_cons (se_ix ix_seq opd_ix (se_var (i := 3) rfl (.inl rfl)) (se_var (i := 1) rfl (.inl rfl)) (fun _ _ => rfl)) (sa_nil))) (al_cons (al_cons al_nil)) rfl) (se_int) rfl) rfl))).st) (sss_one (ss_ret (se_bl))) (sss_nil))
    (sss_one (ss_ret (se_cmp (o_eq c) opd_eq (se_op op_mod (opd_mod) (se_op o_mul (d_mul alEnd_lst) (se_var (i := 4) rfl (.inl rfl)) (se_ix ix_seq opd_ix (se_var (i := 3) rfl (.inl rfl)) (se_var (i := 1) rfl (.inl rfl)) (fun _ _ => rfl))) (se_ix ix_seq opd_ix (se_var (i := 3) rfl (.inl rfl)) (se_var (i := 2) rfl (.inl rfl)) (fun _ _ => rfl))) (se_int) rfl))))))
/-! law 0=script 1=pot 2=turn 3=machine 4=kept 5=many 6=again 7=j 8=i 9=k -/
theorem sc_law : FnScope (["script", "pot", "turn", "machine", "kept", "many", "again", "j", "i", "k"] : List Str) ["script"] (defScope (top 20)) := ⟨rfl, rfl, rfl, by decide +kernel, rfl, by decide +kernel, by decide +kernel⟩
def b_law : FS := sSeq (sAsg (eArg F__law_pot (aCons (eVar 0) (aNil))) (gNm 1))
    (sSeq (sFor (iRan1 (eC (.int 5))) (gNm 2) (sSeq (sAsg (eArg F__law_machine (aCons (eVar 1) (aCons (eBin dGt (eVar 2) (eC (.int 1))) (aNil)))) (gNm 3))
    (sSeq (sPar 4 5 (aCons (eArg dRepr (aCons (eVar 3) (aNil))) (aCons (eArg dLen (aCons (eBin dIx (eVar 3) (eC (.int 0))) (aNil))) (aNil))))
    (sSeq (sIf (tNot2 (tTru (eArg F__law_is_divided (aCons (eVar 3) (aNil))))) (sRet (eC (.bl false))) (sNil))
    (sSeq (sFor (iRan1 (eIf (tBl (eBin dGt (eVar 5) (eC (.int 1)))) (eC (.int 3)) (eC (.int 0)))) (gNm 6) (sSeq (sPar3 7 8 9 (aCons (eArg F__law_dip (aCons (eVar 1) (aCons (eVar 5) (aNil)))) (aCons (eArg F__law_dip (aCons (eVar 1) (aCons (eVar 5) (aNil)))) (aCons (eArg F__law_dip (aCons (eVar 1) (aCons (eVar 5) (aNil)))) (aNil)))))
    (sSeq (sIf (tAnd2 (tBl (eBin dNe (eVar 7) (eVar 8))) (tNot2 (tTru (eArg F__law_is_least (aCons (eVar 3) (aCons (eVar 7) (aCons (eVar 8) (aNil)))))))) (sRet (eC (.bl false))) (sNil))
    (sIf (tAnd2 (tBl (eBin dEq (eLenSet (aCons (eVar 7) (aCons (eVar 8) (aCons (eVar 9) (aNil))))) (eC (.int 3)))) (tBl (eBin dNe (eBin (dMod) (eBin (dMulY gLstD) (eArg F_step (aCons (eVar 3) (aCons (eVar 7) (aCons (eVar 8) (aNil))))) (eArg F_step (aCons (eVar 3) (aCons (eVar 8) (aCons (eVar 9) (aNil)))))) (eArg F_step (aCons (eVar 3) (aCons (eVar 7) (aCons (eVar 9) (aNil)))))) (eC (.int 0))))) (sRet (eC (.bl false))) (sNil)))))
    (sIf (tBl (eBin dNe (eArg dRepr (aCons (eVar 3) (aNil))) (eVar 4))) (sRet (eC (.bl false))) (sNil)))))))
    (sRet (eC (.bl true))))
def F_law : List D → Mo D := fRun 10 b_law
theorem ok_law {P : Program} {w : World} {K : PySem.W.Frag} {mg : Str → Option Value} (base : Heap) (E : En Cc K mg) : OkF P w K mg base 6 d_law ["script"] F_law := by
  have o_step : OkF P w K mg base 1 d_step _ F_step := ok_step base E
  have o__law_is_least : OkF P w K mg base 3 d__law_is_least _ F__law_is_least := ok__law_is_least base E
  have o__law_dip : OkF P w K mg base 1 d__law_dip _ F__law_dip := ok__law_dip base E
  have o__law_is_divided : OkF P w K mg base 2 d__law_is_divided _ F__law_is_divided := ok__law_is_divided base E
  have o__law_machine : OkF P w K mg base 5 d__law_machine _ F__law_machine := ok__law_machine base E
  have o__law_pot : OkF P w K mg base 1 d__law_pot _ F__law_pot := ok__law_pot base E
  have g_range : mg "range" = none := E.fr 3 _ rfl
  have g_repr : mg "repr" = none := E.fr 6 _ rfl
  have g_len : mg "len" = none := E.fr 1 _ rfl
  refine okf_of E 16 (b := b_law) rfl sc_law (fun _ _ _ _ _ _ us hl => match us, hl with | [_], _ => rfl) fun cdv A outer s H c hcd => ?_
  exact sss_cons (ss_set (i := 1) c.nd rfl (.inl rfl) (se_cal (d := d__law_pot) (F := F__law_pot) o__law_pot c (by decide) (sa_cons (se_var (i := 0) rfl (.inl rfl)) (sa_nil)) (al_cons al_nil) rfl) (.inr rfl) rfl)
    (sss_cons (ss_for PassesOwn.never c.calm (si_range1 g_range (se_int) rfl) (sg_name (i := 2) c.nd rfl (.inl rfl) (.inr rfl)) (sss_cons (ss_set (i := 3) c.nd rfl (.inl rfl) (se_cal (d := d__law_machine) (F := F__law_machine) o__law_machine c (by decide) (sa_cons (se_var (i := 1) rfl (.inl rfl)) (sa_cons (se_cmp op_gt opd_gt (se_var (i := 2) rfl (.inl rfl)) (se_int) rfl) (sa_nil))) (al_cons (al_cons al_nil)) rfl) (.inr rfl) rfl)
    (sss_cons (ss_par (i := 4) (j := 5) c.calm c.nd rfl rfl (by decide) rfl rfl (sa_cons (se_callB (call_reprX c) ard_repr g_repr boot_repr (sa_cons (se_var (i := 3) rfl (.inl rfl)) (sa_nil)) rfl) (sa_cons (se_callB call_len ard_len g_len boot_len (sa_cons (se_ix ix_seq opd_ix (se_var (i := 3) rfl (.inl rfl)) (se_int) (fun _ _ => rfl)) (sa_nil)) rfl) (sa_nil))) rfl rfl)
    (sss_cons (ss_if (st_not (st_truth (se_cal (d := d__law_is_divided) (F := F__law_is_divided) o__law_is_divided c (by decide) (sa_cons (se_var (i := 3) rfl (.inl rfl)) (sa_nil)) (al_cons al_nil) rfl))) (sss_one (ss_ret (se_bl))) (sss_nil))
    (sss_cons (ss_for PassesOwn.never c.calm (si_range1 g_range (se_if (st_cmp op_gt opd_gt (se_var (i := 5) rfl (.inl rfl)) (se_int) rfl) (se_int) (se_int)) rfl) (sg_name (i := 6) c.nd rfl (.inl rfl) (.inr rfl)) (sss_cons (ss_par3 (i := 7) (j := 8) (l := 9) c.calm c.nd rfl rfl rfl (by decide) (by decide) (by decide) rfl rfl rfl (sa_cons (se_cal (d := d__law_dip) (F := F__law_dip) o__law_dip c (by decide) (sa_cons (se_var (i := 1) rfl (.inl rfl)) (sa_cons (se_var (i := 5) rfl (.inl rfl)) (sa_nil))) (al_cons (al_cons al_nil)) rfl) (sa_cons (se_cal (d := d__law_dip) (F := F__law_dip) o__law_dip c (by decide) (sa_cons (se_var (i := 1) rfl (.inl rfl)) (sa_cons (se_var (i := 5) rfl (.inl rfl)) (sa_nil))) (al_cons (al_cons al_nil)) rfl) (sa_cons (se_cal (d := d__law_dip) (F := F__law_dip) o__law_dip c (by decide) (sa_cons (se_var (i := 1) rfl (.inl rfl)) (sa_cons (se_var (i := 5) rfl (.inl rfl)) (sa_nil))) (al_cons (al_cons al_nil)) rfl) (sa_nil)))) rfl rfl)
    (sss_cons (ss_if ((sw_and (st_cmp (o_ne c) opd_ne (se_var (i := 7) rfl (.inl rfl)) (se_var (i := 8) rfl (.inl rfl)) rfl) (sw_and1 (st_not (st_truth (se_cal (d := d__law_is_least) (F := F__law_is_least) o__law_is_least c (by decide) (sa_cons (se_var (i := 3) rfl (.inl rfl)) (sa_cons (se_var (i := 7) rfl (.inl rfl)) (sa_cons (se_var (i := 8) rfl (.inl rfl)) (sa_nil)))) (al_cons (al_cons (al_cons al_nil))) rfl))))).st) (sss_one (ss_ret (se_bl))) (sss_nil))
    (sss_one (ss_if ((sw_and (st_cmp (o_eq c) opd_eq (se_lenSet (.cons (se_var (i := 7) rfl (.inl rfl)) (.cons (se_var (i := 8) rfl (.inl rfl)) (.cons (se_var (i := 9) rfl (.inl rfl)) (.nil)))) hcd g_len rfl) (se_int) rfl) (sw_and1 (st_cmp (o_ne c) opd_ne (se_op op_mod (opd_mod) (se_op o_mul (d_mul alEnd_lst) (se_cal (d := d_step) (F := F_step) o_step c (by decide) (sa_cons (se_var (i := 3) rfl (.inl rfl)) (sa_cons (se_var (i := 7) rfl (.inl rfl)) (sa_cons (se_var (i := 8) rfl (.inl rfl)) (sa_nil)))) (al_cons (al_cons (al_cons al_nil))) rfl) (se_cal (d := d_step) (F := F_step) o_step c (by decide) (sa_cons (se_var (i := 3) rfl (.inl rfl)) (sa_cons (se_var (i := 8) rfl (.inl rfl)) (sa_cons (se_var (i := 9) rfl (.inl rfl)) (sa_nil)))) (al_cons (al_cons (al_cons al_nil))) rfl)) (se_cal (d := d_step) (F := F_step) o_step c (by decide) (sa_cons (se_var (i := 3) rfl (.inl rfl)) (sa_cons (se_var (i := 7) rfl (.inl rfl)) (sa_cons (se_var (i := 9) rfl (.inl rfl)) (sa_nil)))) (al_cons (al_cons (al_cons al_nil))) rfl)) (se_int) rfl))).st) (sss_one (ss_ret (se_bl))) (sss_nil))))))
    (sss_one (ss_if (st_cmp (o_ne c) opd_ne (se_callB (call_reprX c) ard_repr g_repr boot_repr (sa_cons (se_var (i := 3) rfl (.inl rfl)) (sa_nil)) rfl) (se_var (i := 4) rfl (.inl rfl)) rfl) (sss_one (ss_ret (se_bl))) (sss_nil))))))))
    (sss_one (ss_ret (se_bl))))
end
end Gk02
namespace Gk02
open PySem PySem.Spec PyProof.Rows L2 Nw
theorem s_common (S : Sto) : ∀ (b a : Nat), F__law_common [.int (a : Int), .int (b : Int)] S = some (.int (Nat.gcd b a : Nat), S) := by
  have key : ∀ (b a : Nat), sWhile (tBl (eBin dGt (eVar 1) (eC (.int 0)))) (sPar 0 1 (aCons (eVar 1) (aCons (eBin (dMod) (eVar 0) (eVar 1)) (aNil)))) [some (.int (a : Int)), some (.int (b : Int))] S = some (.nx, [some (.int (Nat.gcd b a : Nat)), some (.int 0)], S) := by
    intro b
    induction b using Nat.strongRecOn with
    | _ b ih =>
      intro a
      by_cases hb : b = 0
      · subst hb
        rw [Nat.gcd_zero_left]
        exact while_stop (by simp only [eVar, eC, aNil, aCons, eBin, eUn, eArg, eArgK, eIf, tBl, tAnd2, tOr2, tNot2, eAnd2, eOr2, eNot2, eChain, tTru, tTrue, sNil, sSeq, sRet, sRetN, sExpr, sIf, sCont, sBreak, sAsg, gNm, gsNil, gsCons, gTp, sPar, sPar3, gTupD, gLstD, gNewD, aYi, mYR, mYL, dSub_int, dMod_int, dFdiv_int, dLt_int, dLe_int, dGt_int, dGe_int, dEq_int, dNe_int, dEq_str, dNe_str, dEq_bl, dNe_bl, dNeg, dIx_tup, dIx_lst, atI_0, atI_1, atI_2, atI_3, dLen, dInt1, dMax2, dMin2, dAbs, dGcd, dTup, dLst, dIsN, dNotN, eMeth, truD, startR, fRun, permL, eSl, oSome, oNone, iSeq, iEnu, eLenSet, intsOf, wkOf, lsOf, Option.map_some, List.getElem?_cons_zero, List.getElem?_cons_succ, List.set_cons_zero, List.set_cons_succ, List.map_cons, List.map_nil, List.cons_append, List.nil_append, List.append_nil, List.replicate_succ, List.replicate_zero, List.length_cons, List.length_nil, List.filterMap_cons, List.filterMap_nil, if_true, ite_true, ite_false, decide_true, decide_false, Bool.not_true, Bool.not_false, Bool.true_and, Bool.and_true, Bool.false_and, Bool.or_true, Bool.true_or, Bool.false_or, Bool.or_false, decide_eq_true_eq, reduceIte, Nat.reduceAdd, Nat.reduceSub, Nat.reduceMul, Nat.reduceLT, Nat.reduceLeDiff, Int.reduceNeg, Int.reduceLT, Int.reduceLE, Int.reduceAdd, Int.reduceSub, Int.reduceMul, Int.reducePow, Int.reduceToNat, Int.natAbs_natCast, Int.reduceEq, Int.reduceNe, Bool.decide_eq_true, eq_self, reduceCtorEq, Nat.zero_add, Bool.false_eq_true]; simp)
      · have h1 : (0 : Int) < (b : Int) := by omega
        refine while_step (S1 := S) (S2 := S) (ρ2 := [some (.int (b : Int)), some (.int ((a % b : Nat) : Int))]) ?_ ?_ ?_
        · simp only [eVar, eC, aNil, aCons, eBin, eUn, eArg, eArgK, eIf, tBl, tAnd2, tOr2, tNot2, eAnd2, eOr2, eNot2, eChain, tTru, tTrue, sNil, sSeq, sRet, sRetN, sExpr, sIf, sCont, sBreak, sAsg, gNm, gsNil, gsCons, gTp, sPar, sPar3, gTupD, gLstD, gNewD, aYi, mYR, mYL, dSub_int, dMod_int, dFdiv_int, dLt_int, dLe_int, dGt_int, dGe_int, dEq_int, dNe_int, dEq_str, dNe_str, dEq_bl, dNe_bl, dNeg, dIx_tup, dIx_lst, atI_0, atI_1, atI_2, atI_3, dLen, dInt1, dMax2, dMin2, dAbs, dGcd, dTup, dLst, dIsN, dNotN, eMeth, truD, startR, fRun, permL, eSl, oSome, oNone, iSeq, iEnu, eLenSet, intsOf, wkOf, lsOf, Option.map_some, List.getElem?_cons_zero, List.getElem?_cons_succ, List.set_cons_zero, List.set_cons_succ, List.map_cons, List.map_nil, List.cons_append, List.nil_append, List.append_nil, List.replicate_succ, List.replicate_zero, List.length_cons, List.length_nil, List.filterMap_cons, List.filterMap_nil, if_true, ite_true, ite_false, decide_true, decide_false, Bool.not_true, Bool.not_false, Bool.true_and, Bool.and_true, Bool.false_and, Bool.or_true, Bool.true_or, Bool.false_or, Bool.or_false, decide_eq_true_eq, reduceIte, Nat.reduceAdd, Nat.reduceSub, Nat.reduceMul, Nat.reduceLT, Nat.reduceLeDiff, Int.reduceNeg, Int.reduceLT, Int.reduceLE, Int.reduceAdd, Int.reduceSub, Int.reduceMul, Int.reducePow, Int.reduceToNat, Int.natAbs_natCast, Int.reduceEq, Int.reduceNe, Bool.decide_eq_true, eq_self, reduceCtorEq, Nat.zero_add, Bool.false_eq_true]; simp; omega
        · simp only [eVar, eC, aNil, aCons, eBin, eUn, eArg, eArgK, eIf, tBl, tAnd2, tOr2, tNot2, eAnd2, eOr2, eNot2, eChain, tTru, tTrue, sNil, sSeq, sRet, sRetN, sExpr, sIf, sCont, sBreak, sAsg, gNm, gsNil, gsCons, gTp, sPar, sPar3, gTupD, gLstD, gNewD, aYi, mYR, mYL, dSub_int, dMod_int, dFdiv_int, dLt_int, dLe_int, dGt_int, dGe_int, dEq_int, dNe_int, dEq_str, dNe_str, dEq_bl, dNe_bl, dNeg, dIx_tup, dIx_lst, atI_0, atI_1, atI_2, atI_3, dLen, dInt1, dMax2, dMin2, dAbs, dGcd, dTup, dLst, dIsN, dNotN, eMeth, truD, startR, fRun, permL, eSl, oSome, oNone, iSeq, iEnu, eLenSet, intsOf, wkOf, lsOf, Option.map_some, List.getElem?_cons_zero, List.getElem?_cons_succ, List.set_cons_zero, List.set_cons_succ, List.map_cons, List.map_nil, List.cons_append, List.nil_append, List.append_nil, List.replicate_succ, List.replicate_zero, List.length_cons, List.length_nil, List.filterMap_cons, List.filterMap_nil, if_true, ite_true, ite_false, decide_true, decide_false, Bool.not_true, Bool.not_false, Bool.true_and, Bool.and_true, Bool.false_and, Bool.or_true, Bool.true_or, Bool.false_or, Bool.or_false, decide_eq_true_eq, reduceIte, Nat.reduceAdd, Nat.reduceSub, Nat.reduceMul, Nat.reduceLT, Nat.reduceLeDiff, Int.reduceNeg, Int.reduceLT, Int.reduceLE, Int.reduceAdd, Int.reduceSub, Int.reduceMul, Int.reducePow, Int.reduceToNat, Int.natAbs_natCast, Int.reduceEq, Int.reduceNe, Bool.decide_eq_true, eq_self, reduceCtorEq, Nat.zero_add, Bool.false_eq_true, h1]; simp
        · have := ih (a % b) (Nat.mod_lt _ (by omega)) b
          rw [Nat.gcd_rec]
          exact this
  intro b a
  unfold F__law_common b__law_common
  simp only [eVar, eC, aNil, aCons, eBin, eUn, eArg, eArgK, eIf, tBl, tAnd2, tOr2, tNot2, eAnd2, eOr2, eNot2, eChain, tTru, tTrue, sNil, sSeq, sRet, sRetN, sExpr, sIf, sCont, sBreak, sAsg, gNm, gsNil, gsCons, gTp, sPar, sPar3, gTupD, gLstD, gNewD, aYi, mYR, mYL, dSub_int, dMod_int, dFdiv_int, dLt_int, dLe_int, dGt_int, dGe_int, dEq_int, dNe_int, dEq_str, dNe_str, dEq_bl, dNe_bl, dNeg, dIx_tup, dIx_lst, atI_0, atI_1, atI_2, atI_3, dLen, dInt1, dMax2, dMin2, dAbs, dGcd, dTup, dLst, dIsN, dNotN, eMeth, truD, startR, fRun, permL, eSl, oSome, oNone, iSeq, iEnu, eLenSet, intsOf, wkOf, lsOf, Option.map_some, List.getElem?_cons_zero, List.getElem?_cons_succ, List.set_cons_zero, List.set_cons_succ, List.map_cons, List.map_nil, List.cons_append, List.nil_append, List.append_nil, List.replicate_succ, List.replicate_zero, List.length_cons, List.length_nil, List.filterMap_cons, List.filterMap_nil, if_true, ite_true, ite_false, decide_true, decide_false, Bool.not_true, Bool.not_false, Bool.true_and, Bool.and_true, Bool.false_and, Bool.or_true, Bool.true_or, Bool.false_or, Bool.or_false, decide_eq_true_eq, reduceIte, Nat.reduceAdd, Nat.reduceSub, Nat.reduceMul, Nat.reduceLT, Nat.reduceLeDiff, Int.reduceNeg, Int.reduceLT, Int.reduceLE, Int.reduceAdd, Int.reduceSub, Int.reduceMul, Int.reducePow, Int.reduceToNat, Int.natAbs_natCast, Int.reduceEq, Int.reduceNe, Bool.decide_eq_true, eq_self, reduceCtorEq, Nat.zero_add, Bool.false_eq_true, key]
/-! ### the pot -/
structure Pot where
  C : List Int
  a : Int
  b : Int
  c : Int
def sto (q : Pot) (r : Sto) : Sto := .lst (q.C.map D.int) :: .lst [.ref 0, .int q.a, .int q.b, .int q.c] :: r
structure Good (q : Pot) : Prop where
  pos : ∀ x ∈ q.C, 0 ≤ x
  len : q.C.length ≤ 100
  a0 : 0 ≤ q.a
  a1 : q.a < 4294967296
  b0 : 0 ≤ q.b
  b1 : q.b < 4294967296
  c0 : 0 ≤ q.c
section
variable {q : Pot} {r : Sto} {ρ : Rho}
theorem pot_0 : dIx (.ref 1) (.int 0) (sto q r) = some (.ref 0, sto q r) := by rw [dIx_ref (l := [.ref 0, .int q.a, .int q.b, .int q.c]) rfl, atI_0]; rfl
theorem pot_1 : dIx (.ref 1) (.int 1) (sto q r) = some (.int q.a, sto q r) := by rw [dIx_ref (l := [.ref 0, .int q.a, .int q.b, .int q.c]) rfl, atI_1]; rfl
theorem pot_2 : dIx (.ref 1) (.int 2) (sto q r) = some (.int q.b, sto q r) := by rw [dIx_ref (l := [.ref 0, .int q.a, .int q.b, .int q.c]) rfl, atI_2]; rfl
theorem pot_3 : dIx (.ref 1) (.int 3) (sto q r) = some (.int q.c, sto q r) := by rw [dIx_ref (l := [.ref 0, .int q.a, .int q.b, .int q.c]) rfl, atI_3]; rfl
theorem pot_ne : dNe (.ref 0) (.lst []) (sto q r) = some (.bl (!decide (q.C = [])), sto q r) := by
  have e : rdD (sto q r) (.ref 0) = .lst (q.C.map D.int) := rfl
  have e2 : eqD (.lst (q.C.map D.int)) (.lst []) = decide (q.C = []) := by
    have := eqvAll_ints q.C []
    simp only [List.map_nil, toPys] at this
    unfold eqD
    simp only [toPy, PyData.eqv, toPys]
    exact this
  show (if cl ((okD (rdD (sto q r) (.ref 0)) && okD (rdD (sto q r) (.lst []))) = true) = true then some (D.bl (!eqD (rdD (sto q r) (.ref 0)) (rdD (sto q r) (.lst []))), sto q r) else none) = _
  have e3 : okD (rdD (sto q r) (.lst [])) = true := okD_lints []
  rw [e, e3, if_pos (cl_yes (by rw [okD_lints]; rfl))]
  show some (D.bl (!eqD (.lst (q.C.map D.int)) (.lst [])), sto q r) = _
  rw [e2]
theorem pot_pop {C : List Int} {x : Int} (h : q.C = C ++ [x]) : dPop (.ref 0) [] (sto q r) = some (.int x, sto { q with C := C } r) := by
  have e : (q.C.map D.int)[(q.C.map D.int).length - 1]? = some (D.int x) := by rw [h]; simp
  show (match (q.C.map D.int)[(q.C.map D.int).length - 1]? with
    | some d => some (d, (sto q r).set 0 (.lst (q.C.map D.int).dropLast))
    | none => none) = _
  rw [e]
  have e2 : (q.C.map D.int).dropLast = C.map D.int := by rw [h]; simp
  rw [e2]
  rfl
theorem pot_app {x : Int} (h : q.C.length ≤ 100) : dAppend (.ref 0) [.int x] (sto q r) = some (.non, sto { q with C := q.C ++ [x] } r) := by
  show (if (q.C.map D.int).length < sizeLine then some (D.non, (sto q r).set 0 (.lst (q.C.map D.int ++ [.int x]))) else none) = _
  rw [if_pos (by rw [sizeLine_eq, List.length_map]; omega)]
  have e : q.C.map D.int ++ [D.int x] = (q.C ++ [x]).map D.int := by simp
  rw [e]
  rfl
theorem pot_set {v : Int} (h : ρ[0]? = some (some (.ref 1))) : gSb (eVar 0) (eC (.int 3)) (.int v) ρ (sto q r) = some (ρ, sto { q with c := v } r) := by
  unfold gSb eVar
  rw [h]
  rfl
theorem s_dip (g : Good q) {n : Int} (h0 : 0 < n) (h1 : n < 1000000000000000000000000000000000000000000) : ∃ k q', F__law_dip [.ref 1, .int n] (sto q r) = some (.int k, sto q' r) ∧ 0 ≤ k ∧ k < n ∧ Good q' := by
  rcases List.eq_nil_or_concat q.C with hC | ⟨C, x, hC⟩
  · have hm1 : 0 < (4294967291 : Int) := by decide
    have hm2 : 0 < (4294967279 : Int) := by decide
    have hm3 : 0 < (4294967231 : Int) := by decide
    have hc := g.c0
    have hb0 := g.b0
    have hb1 := g.b1
    have m1 := Int.emod_nonneg (q.a + (q.c + 1) * 2654435761) (show (4294967291 : Int) ≠ 0 by decide)
    have m2 := Int.emod_lt_of_pos (q.a + (q.c + 1) * 2654435761) hm1
    generalize hX : (q.a + (q.c + 1) * 2654435761) % 4294967291 = X at m1 m2
    have x1 : -18446744073709551616 < X := by omega
    have x2 : X < 18446744073709551616 := by omega
    have x3 : -18446744073709551616 < q.b := by omega
    have x4 : q.b < 18446744073709551616 := by omega
    have m3 := Int.emod_nonneg (X * X + q.b * (q.c + 1) + 12345) (show (4294967279 : Int) ≠ 0 by decide)
    have m4 := Int.emod_lt_of_pos (X * X + q.b * (q.c + 1) + 12345) hm2
    generalize hY : (X * X + q.b * (q.c + 1) + 12345) % 4294967279 = Y at m3 m4
    refine ⟨Y * 40503 % 4294967231 / 8192 % n, { q with c := q.c + 1 }, ?_, Int.emod_nonneg _ (by omega), Int.emod_lt_of_pos _ h0, ⟨g.pos, g.len, g.a0, g.a1, g.b0, g.b1, by show 0 ≤ q.c + 1; omega⟩⟩
    have hs : gSb (eVar 0) (eC (.int 3)) (.int (q.c + 1)) [some (.ref 1), some (.int n), none, none] (sto q r) = some ([some (.ref 1), some (.int n), none, none], sto { q with c := q.c + 1 } r) := pot_set rfl
    unfold F__law_dip b__law_dip
    simp only [eVar, eC, aNil, aCons, eBin, eUn, eArg, eArgK, eIf, tBl, tAnd2, tOr2, tNot2, eAnd2, eOr2, eNot2, eChain, tTru, tTrue, sNil, sSeq, sRet, sRetN, sExpr, sIf, sCont, sBreak, sAsg, gNm, gsNil, gsCons, gTp, sPar, sPar3, gTupD, gLstD, gNewD, aYi, mYR, mYL, dSub_int, dMod_int, dFdiv_int, dLt_int, dLe_int, dGt_int, dGe_int, dEq_int, dNe_int, dEq_str, dNe_str, dEq_bl, dNe_bl, dNeg, dIx_tup, dIx_lst, atI_0, atI_1, atI_2, atI_3, dLen, dInt1, dMax2, dMin2, dAbs, dGcd, dTup, dLst, dIsN, dNotN, eMeth, truD, startR, fRun, permL, eSl, oSome, oNone, iSeq, iEnu, eLenSet, intsOf, wkOf, lsOf, Option.map_some, List.getElem?_cons_zero, List.getElem?_cons_succ, List.set_cons_zero, List.set_cons_succ, List.map_cons, List.map_nil, List.cons_append, List.nil_append, List.append_nil, List.replicate_succ, List.replicate_zero, List.length_cons, List.length_nil, List.filterMap_cons, List.filterMap_nil, if_true, ite_true, ite_false, decide_true, decide_false, Bool.not_true, Bool.not_false, Bool.true_and, Bool.and_true, Bool.false_and, Bool.or_true, Bool.true_or, Bool.false_or, Bool.or_false, decide_eq_true_eq, reduceIte, Nat.reduceAdd, Nat.reduceSub, Nat.reduceMul, Nat.reduceLT, Nat.reduceLeDiff, Int.reduceNeg, Int.reduceLT, Int.reduceLE, Int.reduceAdd, Int.reduceSub, Int.reduceMul, Int.reducePow, Int.reduceToNat, Int.natAbs_natCast, Int.reduceEq, Int.reduceNe, Bool.decide_eq_true, eq_self, reduceCtorEq, Nat.zero_add, Bool.false_eq_true, pot_0, pot_1, pot_2, pot_3, pot_ne, hC, hs, hm1, hm2, hm3, h0, hX, x1, x2, x3, x4, hY]
  · rw [List.concat_eq_append] at hC
    have hne : ¬ q.C = [] := by rw [hC]; simp
    have hx : 0 ≤ x := g.pos x (by rw [hC]; simp)
    have hl : C.length + 1 ≤ 100 := by have := g.len; rw [hC] at this; simpa using this
    have hp : ∀ x ∈ C, 0 ≤ x := fun y hy => g.pos y (by rw [hC]; exact List.mem_append_left _ hy)
    have n1 : n < 1606938044258990275541962092341162602522202993782792835301376 := by omega
    by_cases hxn : n ≤ x
    · refine ⟨x % n, { q with C := C ++ [x / n] }, ?_, Int.emod_nonneg _ (by omega), Int.emod_lt_of_pos _ h0, ⟨fun y hy => ?_, by simp; omega, g.a0, g.a1, g.b0, g.b1, g.c0⟩⟩
      · unfold F__law_dip b__law_dip
        have ha : dAppend (.ref 0) [.int (x / n)] (sto { q with C := C } r) = some (.non, sto { q with C := C ++ [x / n] } r) := pot_app (q := { q with C := C }) (by show C.length ≤ 100; omega)
        simp only [eVar, eC, aNil, aCons, eBin, eUn, eArg, eArgK, eIf, tBl, tAnd2, tOr2, tNot2, eAnd2, eOr2, eNot2, eChain, tTru, tTrue, sNil, sSeq, sRet, sRetN, sExpr, sIf, sCont, sBreak, sAsg, gNm, gsNil, gsCons, gTp, sPar, sPar3, gTupD, gLstD, gNewD, aYi, mYR, mYL, dSub_int, dMod_int, dFdiv_int, dLt_int, dLe_int, dGt_int, dGe_int, dEq_int, dNe_int, dEq_str, dNe_str, dEq_bl, dNe_bl, dNeg, dIx_tup, dIx_lst, atI_0, atI_1, atI_2, atI_3, dLen, dInt1, dMax2, dMin2, dAbs, dGcd, dTup, dLst, dIsN, dNotN, eMeth, truD, startR, fRun, permL, eSl, oSome, oNone, iSeq, iEnu, eLenSet, intsOf, wkOf, lsOf, Option.map_some, List.getElem?_cons_zero, List.getElem?_cons_succ, List.set_cons_zero, List.set_cons_succ, List.map_cons, List.map_nil, List.cons_append, List.nil_append, List.append_nil, List.replicate_succ, List.replicate_zero, List.length_cons, List.length_nil, List.filterMap_cons, List.filterMap_nil, if_true, ite_true, ite_false, decide_true, decide_false, Bool.not_true, Bool.not_false, Bool.true_and, Bool.and_true, Bool.false_and, Bool.or_true, Bool.true_or, Bool.false_or, Bool.or_false, decide_eq_true_eq, reduceIte, Nat.reduceAdd, Nat.reduceSub, Nat.reduceMul, Nat.reduceLT, Nat.reduceLeDiff, Int.reduceNeg, Int.reduceLT, Int.reduceLE, Int.reduceAdd, Int.reduceSub, Int.reduceMul, Int.reducePow, Int.reduceToNat, Int.natAbs_natCast, Int.reduceEq, Int.reduceNe, Bool.decide_eq_true, eq_self, reduceCtorEq, Nat.zero_add, Bool.false_eq_true, pot_0, pot_ne, pot_pop hC, hne, hxn, h0, n1, ha]
      · rcases List.mem_append.mp hy with hy | hy
        · exact hp y hy
        · rw [List.mem_singleton.mp hy]
          exact Int.ediv_nonneg hx (by omega)
    · refine ⟨x % n, { q with C := C }, ?_, Int.emod_nonneg _ (by omega), Int.emod_lt_of_pos _ h0, ⟨hp, by show C.length ≤ 100; omega, g.a0, g.a1, g.b0, g.b1, g.c0⟩⟩
      unfold F__law_dip b__law_dip
      simp only [eVar, eC, aNil, aCons, eBin, eUn, eArg, eArgK, eIf, tBl, tAnd2, tOr2, tNot2, eAnd2, eOr2, eNot2, eChain, tTru, tTrue, sNil, sSeq, sRet, sRetN, sExpr, sIf, sCont, sBreak, sAsg, gNm, gsNil, gsCons, gTp, sPar, sPar3, gTupD, gLstD, gNewD, aYi, mYR, mYL, dSub_int, dMod_int, dFdiv_int, dLt_int, dLe_int, dGt_int, dGe_int, dEq_int, dNe_int, dEq_str, dNe_str, dEq_bl, dNe_bl, dNeg, dIx_tup, dIx_lst, atI_0, atI_1, atI_2, atI_3, dLen, dInt1, dMax2, dMin2, dAbs, dGcd, dTup, dLst, dIsN, dNotN, eMeth, truD, startR, fRun, permL, eSl, oSome, oNone, iSeq, iEnu, eLenSet, intsOf, wkOf, lsOf, Option.map_some, List.getElem?_cons_zero, List.getElem?_cons_succ, List.set_cons_zero, List.set_cons_succ, List.map_cons, List.map_nil, List.cons_append, List.nil_append, List.append_nil, List.replicate_succ, List.replicate_zero, List.length_cons, List.length_nil, List.filterMap_cons, List.filterMap_nil, if_true, ite_true, ite_false, decide_true, decide_false, Bool.not_true, Bool.not_false, Bool.true_and, Bool.and_true, Bool.false_and, Bool.or_true, Bool.true_or, Bool.false_or, Bool.or_false, decide_eq_true_eq, reduceIte, Nat.reduceAdd, Nat.reduceSub, Nat.reduceMul, Nat.reduceLT, Nat.reduceLeDiff, Int.reduceNeg, Int.reduceLT, Int.reduceLE, Int.reduceAdd, Int.reduceSub, Int.reduceMul, Int.reducePow, Int.reduceToNat, Int.natAbs_natCast, Int.reduceEq, Int.reduceNe, Bool.decide_eq_true, eq_self, reduceCtorEq, Nat.zero_add, Bool.false_eq_true, pot_0, pot_ne, pot_pop hC, hne, hxn, h0]
theorem s_pick (g : Good q) {l : List D} (h0 : l ≠ []) (h1 : l.length ≤ 1000000) : ∃ d q', F__law_pick [.ref 1, .lst l] (sto q r) = some (d, sto q' r) ∧ d ∈ l ∧ Good q' := by
  have hl : 0 < l.length := List.length_pos_iff.mpr h0
  obtain ⟨k, q', e, k0, k1, g'⟩ := s_dip (r := r) g (n := (l.length : Nat)) (by omega) (by omega)
  have hk : k.toNat < l.length := by omega
  refine ⟨l[k.toNat], q', ?_, List.getElem_mem hk, g'⟩
  have hat : atI l k = some l[k.toNat] := by
    have := atI_nat (n := k.toNat) (List.getElem?_eq_getElem hk)
    rw [Int.toNat_of_nonneg k0] at this
    exact this
  unfold F__law_pick b__law_pick
  simp only [eVar, eC, aNil, aCons, eBin, eUn, eArg, eArgK, eIf, tBl, tAnd2, tOr2, tNot2, eAnd2, eOr2, eNot2, eChain, tTru, tTrue, sNil, sSeq, sRet, sRetN, sExpr, sIf, sCont, sBreak, sAsg, gNm, gsNil, gsCons, gTp, sPar, sPar3, gTupD, gLstD, gNewD, aYi, mYR, mYL, dSub_int, dMod_int, dFdiv_int, dLt_int, dLe_int, dGt_int, dGe_int, dEq_int, dNe_int, dEq_str, dNe_str, dEq_bl, dNe_bl, dNeg, dIx_tup, dIx_lst, atI_0, atI_1, atI_2, atI_3, dLen, dInt1, dMax2, dMin2, dAbs, dGcd, dTup, dLst, dIsN, dNotN, eMeth, truD, startR, fRun, permL, eSl, oSome, oNone, iSeq, iEnu, eLenSet, intsOf, wkOf, lsOf, Option.map_some, List.getElem?_cons_zero, List.getElem?_cons_succ, List.set_cons_zero, List.set_cons_succ, List.map_cons, List.map_nil, List.cons_append, List.nil_append, List.append_nil, List.replicate_succ, List.replicate_zero, List.length_cons, List.length_nil, List.filterMap_cons, List.filterMap_nil, if_true, ite_true, ite_false, decide_true, decide_false, Bool.not_true, Bool.not_false, Bool.true_and, Bool.and_true, Bool.false_and, Bool.or_true, Bool.true_or, Bool.false_or, Bool.or_false, decide_eq_true_eq, reduceIte, Nat.reduceAdd, Nat.reduceSub, Nat.reduceMul, Nat.reduceLT, Nat.reduceLeDiff, Int.reduceNeg, Int.reduceLT, Int.reduceLE, Int.reduceAdd, Int.reduceSub, Int.reduceMul, Int.reducePow, Int.reduceToNat, Int.natAbs_natCast, Int.reduceEq, Int.reduceNe, Bool.decide_eq_true, eq_self, reduceCtorEq, Nat.zero_add, Bool.false_eq_true, e, hat]
theorem s_primes (S : Sto) : F__law_primes [] S = some (.lst ([2, 3, 5, 7, 11, 13, 17, 19, 23, 29, 31, 37, 41, 43, 47, 53, 59, 61, 67, 71, 73, 79, 83, 89, 97].map D.int), S) := rfl
/-! ### the script's pot -/
def fold2 (i : Int) : Int := if 0 ≤ i then 2 * i else -1 - 2 * i
def foldD : D → D
  | .int i => .int (fold2 i)
  | d => d
theorem s_pot (ns : List Int) (hn : ns.length ≤ 63) : ∃ q, F__law_pot [.scr (ns.map D.int)] [] = some (.ref 1, sto q []) ∧ Good q := by
  have hcut : ∃ ms : List Int, Nw.cutD (ns.map D.int) none (some 60) = ms.map D.int ∧ ms.length ≤ 63 := by
    refine ⟨(ns.drop (HT.sIx (ns.map D.int).length 0 none)).take (HT.sIx (ns.map D.int).length (ns.map D.int).length (some 60) - HT.sIx (ns.map D.int).length 0 none), ?_, ?_⟩
    · unfold Nw.cutD
      rw [List.map_take, List.map_drop]
    · rw [List.length_take, List.length_drop]
      omega
  obtain ⟨ms, hms, hml⟩ := hcut
  have hc : fLc (iSeq (eSl (dSl gLstD) (eVar 0) (oNone) (oSome (eC (.int 60))))) (gNm 4) (tTrue) (eIf (tBl (eBin dGe (eVar 4) (eC (.int 0)))) (eBin (dMulY gLstD) (eC (.int 2)) (eVar 4)) (eBin (dSub) (eUn dNeg (eC (.int 1))) (eBin (dMulY gLstD) (eC (.int 2)) (eVar 4)))) [4] [some (.scr (ns.map D.int)), none, none, none, none] [] = some ((ms.map fold2).map D.int, []) := by
    have h1 : iSeq (eSl (dSl gLstD) (eVar 0) (oNone) (oSome (eC (.int 60)))) [some (.scr (ns.map D.int)), none, none, none, none] [] = some (⟨ms.map D.int, fun _ => True⟩, []) := by
      rw [← hms]
      rfl
    have h2 := lcR_pure (gd := fun _ => True) (g := gNm 4) (t := tTrue) (e := eIf (tBl (eBin dGe (eVar 4) (eC (.int 0)))) (eBin (dMulY gLstD) (eC (.int 2)) (eVar 4)) (eBin (dSub) (eUn dNeg (eC (.int 1))) (eBin (dMulY gLstD) (eC (.int 2)) (eVar 4)))) (ρ := wipeR [some (.scr (ns.map D.int)), none, none, none, none] [4]) (S := []) (fun _ => true) foldD trivial (ms.map D.int) (fun d hd => by
      obtain ⟨i, _, rfl⟩ := List.mem_map.mp hd
      refine ⟨_, rfl, rfl, fun _ => ?_⟩
      by_cases hi : 0 ≤ i
      · simp only [eVar, eC, aNil, aCons, eBin, eUn, eArg, eArgK, eIf, tBl, tAnd2, tOr2, tNot2, eAnd2, eOr2, eNot2, eChain, tTru, tTrue, sNil, sSeq, sRet, sRetN, sExpr, sIf, sCont, sBreak, sAsg, gNm, gsNil, gsCons, gTp, sPar, sPar3, gTupD, gLstD, gNewD, aYi, mYR, mYL, dSub_int, dMod_int, dFdiv_int, dLt_int, dLe_int, dGt_int, dGe_int, dEq_int, dNe_int, dEq_str, dNe_str, dEq_bl, dNe_bl, dNeg, dIx_tup, dIx_lst, atI_0, atI_1, atI_2, atI_3, dLen, dInt1, dMax2, dMin2, dAbs, dGcd, dTup, dLst, dIsN, dNotN, eMeth, truD, startR, fRun, permL, eSl, oSome, oNone, iSeq, iEnu, eLenSet, intsOf, wkOf, lsOf, Option.map_some, List.getElem?_cons_zero, List.getElem?_cons_succ, List.set_cons_zero, List.set_cons_succ, List.map_cons, List.map_nil, List.cons_append, List.nil_append, List.append_nil, List.replicate_succ, List.replicate_zero, List.length_cons, List.length_nil, List.filterMap_cons, List.filterMap_nil, if_true, ite_true, ite_false, decide_true, decide_false, Bool.not_true, Bool.not_false, Bool.true_and, Bool.and_true, Bool.false_and, Bool.or_true, Bool.true_or, Bool.false_or, Bool.or_false, decide_eq_true_eq, reduceIte, Nat.reduceAdd, Nat.reduceSub, Nat.reduceMul, Nat.reduceLT, Nat.reduceLeDiff, Int.reduceNeg, Int.reduceLT, Int.reduceLE, Int.reduceAdd, Int.reduceSub, Int.reduceMul, Int.reducePow, Int.reduceToNat, Int.natAbs_natCast, Int.reduceEq, Int.reduceNe, Bool.decide_eq_true, eq_self, reduceCtorEq, Nat.zero_add, Bool.false_eq_true, foldD, fold2, hi, wipeR]
      · simp only [eVar, eC, aNil, aCons, eBin, eUn, eArg, eArgK, eIf, tBl, tAnd2, tOr2, tNot2, eAnd2, eOr2, eNot2, eChain, tTru, tTrue, sNil, sSeq, sRet, sRetN, sExpr, sIf, sCont, sBreak, sAsg, gNm, gsNil, gsCons, gTp, sPar, sPar3, gTupD, gLstD, gNewD, aYi, mYR, mYL, dSub_int, dMod_int, dFdiv_int, dLt_int, dLe_int, dGt_int, dGe_int, dEq_int, dNe_int, dEq_str, dNe_str, dEq_bl, dNe_bl, dNeg, dIx_tup, dIx_lst, atI_0, atI_1, atI_2, atI_3, dLen, dInt1, dMax2, dMin2, dAbs, dGcd, dTup, dLst, dIsN, dNotN, eMeth, truD, startR, fRun, permL, eSl, oSome, oNone, iSeq, iEnu, eLenSet, intsOf, wkOf, lsOf, Option.map_some, List.getElem?_cons_zero, List.getElem?_cons_succ, List.set_cons_zero, List.set_cons_succ, List.map_cons, List.map_nil, List.cons_append, List.nil_append, List.append_nil, List.replicate_succ, List.replicate_zero, List.length_cons, List.length_nil, List.filterMap_cons, List.filterMap_nil, if_true, ite_true, ite_false, decide_true, decide_false, Bool.not_true, Bool.not_false, Bool.true_and, Bool.and_true, Bool.false_and, Bool.or_true, Bool.true_or, Bool.false_or, Bool.or_false, decide_eq_true_eq, reduceIte, Nat.reduceAdd, Nat.reduceSub, Nat.reduceMul, Nat.reduceLT, Nat.reduceLeDiff, Int.reduceNeg, Int.reduceLT, Int.reduceLE, Int.reduceAdd, Int.reduceSub, Int.reduceMul, Int.reducePow, Int.reduceToNat, Int.natAbs_natCast, Int.reduceEq, Int.reduceNe, Bool.decide_eq_true, eq_self, reduceCtorEq, Nat.zero_add, Bool.false_eq_true, foldD, fold2, hi, wipeR])
    have e : List.filter (fun _ => true) (List.map D.int ms) = List.map D.int ms := List.filter_eq_self.mpr fun _ _ => rfl
    rw [fLc_eq h1 (by rw [List.length_map, sizeLine_eq]; omega), h2, e, List.map_map, List.map_map]
    rfl
  have hcs : ∀ x ∈ ms.map fold2, 0 ≤ x := by
    intro x hx
    obtain ⟨i, _, rfl⟩ := List.mem_map.mp hx
    unfold fold2
    split <;> omega
  generalize hcs' : ms.map fold2 = cs at hc hcs
  have hcl : cs.length ≤ 63 := by rw [← hcs', List.length_map]; exact hml
  have hw : wkOf (.lst (cs.map D.int)) [] = some ⟨cs.map D.int, fun _ => True⟩ := rfl
  have hloop := forL_run (gd := fun _ => True) (g := gNm 4) (b := sPar 2 3 (aCons (eBin (dMod) (eArg dInt1 (aCons (eBin (dAddY gLstD) (eBin (dAddY gLstD) (eBin (dMulY gLstD) (eVar 2) (eC (.int 69069))) (eVar 4)) (eC (.int 1))) (aNil))) (eC (.int 4294967291))) (aCons (eBin (dMod) (eArg dInt1 (aCons (eBin (dAddY gLstD) (eBin (dAddY gLstD) (eBin (dMulY gLstD) (eVar 3) (eC (.int 48271))) (eBin (dMulY gLstD) (eC (.int 5)) (eVar 4))) (eC (.int 3))) (aNil))) (eC (.int 4294967279))) (aNil)))) (cs.map D.int)
    (fun _ ρ S => ∃ (a b : Int) (z : Option D), ρ = [some (.scr (ns.map D.int)), some (.lst (cs.map D.int)), some (.int a), some (.int b), z] ∧ S = [] ∧ 0 ≤ a ∧ a < 4294967296 ∧ 0 ≤ b ∧ b < 4294967296)
    [some (.scr (ns.map D.int)), some (.lst (cs.map D.int)), some (.int 7919), some (.int (104729 + (cs.length : Nat))), none] [] ⟨_, _, _, rfl, rfl, by omega, by omega, by omega, by omega⟩
    (fun j d ρ S hj ⟨a, b, z, hρ, hS, a0, a1, b0, b1⟩ => by
      subst hρ hS
      obtain ⟨i, rfl⟩ : ∃ i : Int, d = .int i := by
        rw [List.getElem?_map] at hj
        cases q : cs[j]? with
        | none => rw [q] at hj; cases hj
        | some i => rw [q] at hj; exact ⟨i, (Option.some.inj hj).symm⟩
      have p1 : (0 : Int) < 4294967291 := by decide
      have p2 : (0 : Int) < 4294967279 := by decide
      refine ⟨trivial, _, _, rfl, .nx, [some (.scr (ns.map D.int)), some (.lst (cs.map D.int)), some (.int ((a * 69069 + i + 1) % 4294967291)), some (.int ((b * 48271 + 5 * i + 3) % 4294967279)), some (.int i)], [], ?_, .inl rfl, _, _, _, rfl, rfl, Int.emod_nonneg _ (by decide), ?_, Int.emod_nonneg _ (by decide), ?_⟩
      · simp only [eVar, eC, aNil, aCons, eBin, eUn, eArg, eArgK, eIf, tBl, tAnd2, tOr2, tNot2, eAnd2, eOr2, eNot2, eChain, tTru, tTrue, sNil, sSeq, sRet, sRetN, sExpr, sIf, sCont, sBreak, sAsg, gNm, gsNil, gsCons, gTp, sPar, sPar3, gTupD, gLstD, gNewD, aYi, mYR, mYL, dSub_int, dMod_int, dFdiv_int, dLt_int, dLe_int, dGt_int, dGe_int, dEq_int, dNe_int, dEq_str, dNe_str, dEq_bl, dNe_bl, dNeg, dIx_tup, dIx_lst, atI_0, atI_1, atI_2, atI_3, dLen, dInt1, dMax2, dMin2, dAbs, dGcd, dTup, dLst, dIsN, dNotN, eMeth, truD, startR, fRun, permL, eSl, oSome, oNone, iSeq, iEnu, eLenSet, intsOf, wkOf, lsOf, Option.map_some, List.getElem?_cons_zero, List.getElem?_cons_succ, List.set_cons_zero, List.set_cons_succ, List.map_cons, List.map_nil, List.cons_append, List.nil_append, List.append_nil, List.replicate_succ, List.replicate_zero, List.length_cons, List.length_nil, List.filterMap_cons, List.filterMap_nil, if_true, ite_true, ite_false, decide_true, decide_false, Bool.not_true, Bool.not_false, Bool.true_and, Bool.and_true, Bool.false_and, Bool.or_true, Bool.true_or, Bool.false_or, Bool.or_false, decide_eq_true_eq, reduceIte, Nat.reduceAdd, Nat.reduceSub, Nat.reduceMul, Nat.reduceLT, Nat.reduceLeDiff, Int.reduceNeg, Int.reduceLT, Int.reduceLE, Int.reduceAdd, Int.reduceSub, Int.reduceMul, Int.reducePow, Int.reduceToNat, Int.natAbs_natCast, Int.reduceEq, Int.reduceNe, Bool.decide_eq_true, eq_self, reduceCtorEq, Nat.zero_add, Bool.false_eq_true, p1, p2]
      · have := Int.emod_lt_of_pos (a * 69069 + i + 1) p1; omega
      · have := Int.emod_lt_of_pos (b * 48271 + 5 * i + 3) p2; omega)
    (fun _ _ _ => trivial)
  obtain ⟨ρ', S', hl, a, b, z, hρ, hS, a0, a1, b0, b1⟩ := hloop
  subst hρ hS
  have hp : ∀ S, dPow (.int 10) (.int 15) S = some (.int 1000000000000000, S) := by
    obtain ⟨L, hL, h⟩ := pow_ex 10 15 (by decide)
    have e : L = 1000000000000000 := by rw [hL]; decide
    rw [e] at h
    exact h
  have h3 := lcR_pure (gd := fun _ => True) (g := gNm 4) (t := tBl (eBin dGt (eVar 4) (eBin (dPow) (eC (.int 10)) (eC (.int 15))))) (e := eVar 4) (ρ := wipeR [some (.scr (ns.map D.int)), some (.lst (cs.map D.int)), some (.int a), some (.int b), z] [4]) (S := []) (fun d => match d with
    | .int i => decide (1000000000000000 < i)
    | _ => false) id trivial (cs.map D.int) (fun d hd => by
      obtain ⟨i, _, rfl⟩ := List.mem_map.mp hd
      refine ⟨_, rfl, ?_, fun _ => rfl⟩
      simp only [eVar, eC, aNil, aCons, eBin, eUn, eArg, eArgK, eIf, tBl, tAnd2, tOr2, tNot2, eAnd2, eOr2, eNot2, eChain, tTru, tTrue, sNil, sSeq, sRet, sRetN, sExpr, sIf, sCont, sBreak, sAsg, gNm, gsNil, gsCons, gTp, sPar, sPar3, gTupD, gLstD, gNewD, aYi, mYR, mYL, dSub_int, dMod_int, dFdiv_int, dLt_int, dLe_int, dGt_int, dGe_int, dEq_int, dNe_int, dEq_str, dNe_str, dEq_bl, dNe_bl, dNeg, dIx_tup, dIx_lst, atI_0, atI_1, atI_2, atI_3, dLen, dInt1, dMax2, dMin2, dAbs, dGcd, dTup, dLst, dIsN, dNotN, eMeth, truD, startR, fRun, permL, eSl, oSome, oNone, iSeq, iEnu, eLenSet, intsOf, wkOf, lsOf, Option.map_some, List.getElem?_cons_zero, List.getElem?_cons_succ, List.set_cons_zero, List.set_cons_succ, List.map_cons, List.map_nil, List.cons_append, List.nil_append, List.append_nil, List.replicate_succ, List.replicate_zero, List.length_cons, List.length_nil, List.filterMap_cons, List.filterMap_nil, if_true, ite_true, ite_false, decide_true, decide_false, Bool.not_true, Bool.not_false, Bool.true_and, Bool.and_true, Bool.false_and, Bool.or_true, Bool.true_or, Bool.false_or, Bool.or_false, decide_eq_true_eq, reduceIte, Nat.reduceAdd, Nat.reduceSub, Nat.reduceMul, Nat.reduceLT, Nat.reduceLeDiff, Int.reduceNeg, Int.reduceLT, Int.reduceLE, Int.reduceAdd, Int.reduceSub, Int.reduceMul, Int.reducePow, Int.reduceToNat, Int.natAbs_natCast, Int.reduceEq, Int.reduceNe, Bool.decide_eq_true, eq_self, reduceCtorEq, Nat.zero_add, Bool.false_eq_true, hp, wipeR])
  have h4 : ((cs.map D.int).filter (fun d => match d with
    | .int i => decide (1000000000000000 < i)
    | _ => false)).map id = (cs.filter fun i => decide (1000000000000000 < i)).map D.int := by
    rw [List.map_id, List.filter_map]
    rfl
  have h5 : fLc (iSeq (eVar 1)) (gNm 4) (tBl (eBin dGt (eVar 4) (eBin (dPow) (eC (.int 10)) (eC (.int 15))))) (eVar 4) [4] [some (.scr (ns.map D.int)), some (.lst (cs.map D.int)), some (.int a), some (.int b), z] [] = some ((cs.filter fun i => decide (1000000000000000 < i)).map D.int, []) := by
    rw [fLc_eq (k := ⟨cs.map D.int, fun _ => True⟩) (S1 := []) rfl (by rw [List.length_map, sizeLine_eq]; omega)]
    rw [h3, h4]
  refine ⟨⟨cs.filter fun i => decide (1000000000000000 < i), a, b, 0⟩, ?_, ⟨fun x hx => hcs x (List.mem_filter.mp hx).1, Nat.le_trans (List.length_filter_le _ _) (by omega), a0, a1, b0, b1, Int.le_refl 0⟩⟩
  unfold F__law_pot b__law_pot
  simp only [eVar, eC, aNil, aCons, eBin, eUn, eArg, eArgK, eIf, tBl, tAnd2, tOr2, tNot2, eAnd2, eOr2, eNot2, eChain, tTru, tTrue, sNil, sSeq, sRet, sRetN, sExpr, sIf, sCont, sBreak, sAsg, gNm, gsNil, gsCons, gTp, sPar, sPar3, gTupD, gLstD, gNewD, aYi, mYR, mYL, dSub_int, dMod_int, dFdiv_int, dLt_int, dLe_int, dGt_int, dGe_int, dEq_int, dNe_int, dEq_str, dNe_str, dEq_bl, dNe_bl, dNeg, dIx_tup, dIx_lst, atI_0, atI_1, atI_2, atI_3, dLen, dInt1, dMax2, dMin2, dAbs, dGcd, dTup, dLst, dIsN, dNotN, eMeth, truD, startR, fRun, permL, eSl, oSome, oNone, iSeq, iEnu, eLenSet, intsOf, wkOf, lsOf, Option.map_some, List.getElem?_cons_zero, List.getElem?_cons_succ, List.set_cons_zero, List.set_cons_succ, List.map_cons, List.map_nil, List.cons_append, List.nil_append, List.append_nil, List.replicate_succ, List.replicate_zero, List.length_cons, List.length_nil, List.filterMap_cons, List.filterMap_nil, if_true, ite_true, ite_false, decide_true, decide_false, Bool.not_true, Bool.not_false, Bool.true_and, Bool.and_true, Bool.false_and, Bool.or_true, Bool.true_or, Bool.false_or, Bool.or_false, decide_eq_true_eq, reduceIte, Nat.reduceAdd, Nat.reduceSub, Nat.reduceMul, Nat.reduceLT, Nat.reduceLeDiff, Int.reduceNeg, Int.reduceLT, Int.reduceLE, Int.reduceAdd, Int.reduceSub, Int.reduceMul, Int.reducePow, Int.reduceToNat, Int.natAbs_natCast, Int.reduceEq, Int.reduceNe, Bool.decide_eq_true, eq_self, reduceCtorEq, Nat.zero_add, Bool.false_eq_true, hc, h5, hw, sFor, List.length_map, hl]
  rfl
end
/-! ### sizes -/
def Siz (lo : Nat) (d : D) : Prop := ∃ n : Nat, d = .int (n : Int) ∧ Smo n ∧ lo ≤ n ∧ n ≤ 1000000000000000000000000000000
theorem siz_of {lo n : Nat} (h : Smo n) (h1 : lo ≤ n) (h2 : n ≤ 1000000000000000000000000000000) : Siz lo (.int (n : Int)) := ⟨n, rfl, h, h1, h2⟩
theorem siz_pow (I J : Int) (i j : Nat) (hI : I = i) (hJ : J = j) (hs : Smo (i ^ j)) (h1 : 1 ≤ i ^ j) (h2 : i ^ j ≤ 1000000000000000000000000000000) (hi : i < 18446744073709551616) (hj : j ≤ 1000000) : ∃ L : Int, (∀ S, dPow (.int I) (.int J) S = some (.int L, S)) ∧ L = ((i ^ j : Nat) : Int) ∧ Siz 1 (.int L) := by
  refine ⟨((i ^ j : Nat) : Int), fun S => ?_, rfl, siz_of hs h1 h2⟩
  subst hI hJ
  rw [dPow_int (by omega) (by omega) (by omega)]
  simp
section
variable {q : Pot} {r : Sto} {ρ : Rho}
theorem prime_of {d : D} (h : d ∈ ([2, 3, 5, 7, 11, 13, 17, 19, 23, 29, 31, 37, 41, 43, 47, 53, 59, 61, 67, 71, 73, 79, 83, 89, 97] : List Int).map D.int) : ∃ p : Nat, d = .int (p : Int) ∧ p ∈ P25 := by
  have e : ([2, 3, 5, 7, 11, 13, 17, 19, 23, 29, 31, 37, 41, 43, 47, 53, 59, 61, 67, 71, 73, 79, 83, 89, 97] : List Int) = P25.map fun (n : Nat) => (n : Int) := by decide
  rw [e, List.map_map] at h
  obtain ⟨p, hp, rfl⟩ := List.mem_map.mp h
  exact ⟨p, rfl, hp⟩
end
end Gk02
namespace Gk02
open PySem PySem.Spec PyProof.Rows L2 Nw
section
variable {q : Pot} {r : Sto} {ρ : Rho}
/-- one turn of the growing -/
theorem great_step (L : Int) (hL : L = 1000000000000000000000000000000) (hp : ∀ S, dPow (.int 10) (.int 30) S = some (.int L, S)) (g : Good q) {n : Nat} (sn : Smo n) (n1 : 1 ≤ n) (n2 : n ≤ 1000000000000000000000000000000) (l0 d : D) (z : Option D) :
    ∃ (m : Nat) (z2 : Option D) (q' : Pot), sSeq (sAsg (eArg F__law_pick (aCons (eVar 0) (aCons (eArg gLstD (aCons (eC (.int 2)) (aCons (eC (.int 2)) (aCons (eC (.int 3)) (aCons (eC (.int 5)) (aCons (eArg F__law_pick (aCons (eVar 0) (aCons (eArg F__law_primes aNil) (aNil)))) (aNil))))))) (aNil)))) (gNm 4))
    (sAsg (eIf (tBl (eBin dLe (eBin (dMulY gLstD) (eVar 2) (eVar 4)) (eBin (dPow) (eC (.int 10)) (eC (.int 30))))) (eBin (dMulY gLstD) (eVar 2) (eVar 4)) (eVar 2)) (gNm 2)) [some (.ref 1), some l0, some (.int (n : Int)), some d, z] (sto q r) = some (.nx, [some (.ref 1), some l0, some (.int (m : Int)), some d, z2], sto q' r) ∧ Good q' ∧ Smo m ∧ 1 ≤ m ∧ m ≤ 1000000000000000000000000000000 := by
  obtain ⟨d3, q3, e3, m3, g3⟩ := s_pick (r := r) g (l := [2, 3, 5, 7, 11, 13, 17, 19, 23, 29, 31, 37, 41, 43, 47, 53, 59, 61, 67, 71, 73, 79, 83, 89, 97].map D.int) (by simp) (by decide)
  obtain ⟨p, rfl, hp25⟩ := prime_of m3
  obtain ⟨d4, q4, e4, m4, g4⟩ := s_pick (r := r) g3 (l := [.int 2, .int 2, .int 3, .int 5, .int (p : Int)]) (by simp) (by simp)
  have hs : ∃ s : Nat, d4 = .int (s : Int) ∧ s ∈ P25 := by
    simp only [List.mem_cons, List.not_mem_nil, or_false] at m4
    rcases m4 with rfl | rfl | rfl | rfl | rfl
    · exact ⟨2, rfl, by decide⟩
    · exact ⟨2, rfl, by decide⟩
    · exact ⟨3, rfl, by decide⟩
    · exact ⟨5, rfl, by decide⟩
    · exact ⟨p, rfl, hp25⟩
  obtain ⟨s, rfl, hs⟩ := hs
  have s0 : 1 ≤ s ∧ s ≤ 97 := by
    have : ∀ s ∈ P25, 1 ≤ s ∧ s ≤ 97 := by decide
    exact this s hs
  have s1 : -18446744073709551616 < (s : Int) := by omega
  have s2 : (s : Int) < 18446744073709551616 := by omega
  simp only [List.map_cons, List.map_nil] at e3
  by_cases hle : (n : Int) * (s : Int) ≤ L
  · refine ⟨n * s, some (.int (s : Int)), q4, ?_, g4, .mul hs sn, Nat.mul_pos n1 s0.1, ?_⟩
    · clear hL n2
      simp only [eVar, eC, aNil, aCons, eBin, eUn, eArg, eArgK, eIf, tBl, tAnd2, tOr2, tNot2, eAnd2, eOr2, eNot2, eChain, tTru, tTrue, sNil, sSeq, sRet, sRetN, sExpr, sIf, sCont, sBreak, sAsg, gNm, gsNil, gsCons, gTp, sPar, sPar3, gTupD, gLstD, gNewD, aYi, mYR, mYL, dSub_int, dMod_int, dFdiv_int, dLt_int, dLe_int, dGt_int, dGe_int, dEq_int, dNe_int, dEq_str, dNe_str, dEq_bl, dNe_bl, dNeg, dIx_tup, dIx_lst, atI_0, atI_1, atI_2, atI_3, dLen, dInt1, dMax2, dMin2, dAbs, dGcd, dTup, dLst, dIsN, dNotN, eMeth, truD, startR, fRun, permL, eSl, oSome, oNone, iSeq, iEnu, eLenSet, intsOf, wkOf, lsOf, Option.map_some, List.getElem?_cons_zero, List.getElem?_cons_succ, List.set_cons_zero, List.set_cons_succ, List.map_cons, List.map_nil, List.cons_append, List.nil_append, List.append_nil, List.replicate_succ, List.replicate_zero, List.length_cons, List.length_nil, List.filterMap_cons, List.filterMap_nil, if_true, ite_true, ite_false, decide_true, decide_false, Bool.not_true, Bool.not_false, Bool.true_and, Bool.and_true, Bool.false_and, Bool.or_true, Bool.true_or, Bool.false_or, Bool.or_false, decide_eq_true_eq, reduceIte, Nat.reduceAdd, Nat.reduceSub, Nat.reduceMul, Nat.reduceLT, Nat.reduceLeDiff, Int.reduceNeg, Int.reduceLT, Int.reduceLE, Int.reduceAdd, Int.reduceSub, Int.reduceMul, Int.reducePow, Int.reduceToNat, Int.natAbs_natCast, Int.reduceEq, Int.reduceNe, Bool.decide_eq_true, eq_self, reduceCtorEq, Nat.zero_add, Bool.false_eq_true, s_primes, e3, e4, s1, s2, hp, hle, Int.natCast_mul]
    · rw [hL] at hle
      have e : ((n * s : Nat) : Int) = (n : Int) * (s : Int) := Int.natCast_mul n s
      omega
  · refine ⟨n, some (.int (s : Int)), q4, ?_, g4, sn, n1, n2⟩
    clear hL n2
    simp only [eVar, eC, aNil, aCons, eBin, eUn, eArg, eArgK, eIf, tBl, tAnd2, tOr2, tNot2, eAnd2, eOr2, eNot2, eChain, tTru, tTrue, sNil, sSeq, sRet, sRetN, sExpr, sIf, sCont, sBreak, sAsg, gNm, gsNil, gsCons, gTp, sPar, sPar3, gTupD, gLstD, gNewD, aYi, mYR, mYL, dSub_int, dMod_int, dFdiv_int, dLt_int, dLe_int, dGt_int, dGe_int, dEq_int, dNe_int, dEq_str, dNe_str, dEq_bl, dNe_bl, dNeg, dIx_tup, dIx_lst, atI_0, atI_1, atI_2, atI_3, dLen, dInt1, dMax2, dMin2, dAbs, dGcd, dTup, dLst, dIsN, dNotN, eMeth, truD, startR, fRun, permL, eSl, oSome, oNone, iSeq, iEnu, eLenSet, intsOf, wkOf, lsOf, Option.map_some, List.getElem?_cons_zero, List.getElem?_cons_succ, List.set_cons_zero, List.set_cons_succ, List.map_cons, List.map_nil, List.cons_append, List.nil_append, List.append_nil, List.replicate_succ, List.replicate_zero, List.length_cons, List.length_nil, List.filterMap_cons, List.filterMap_nil, if_true, ite_true, ite_false, decide_true, decide_false, Bool.not_true, Bool.not_false, Bool.true_and, Bool.and_true, Bool.false_and, Bool.or_true, Bool.true_or, Bool.false_or, Bool.or_false, decide_eq_true_eq, reduceIte, Nat.reduceAdd, Nat.reduceSub, Nat.reduceMul, Nat.reduceLT, Nat.reduceLeDiff, Int.reduceNeg, Int.reduceLT, Int.reduceLE, Int.reduceAdd, Int.reduceSub, Int.reduceMul, Int.reducePow, Int.reduceToNat, Int.natAbs_natCast, Int.reduceEq, Int.reduceNe, Bool.decide_eq_true, eq_self, reduceCtorEq, Nat.zero_add, Bool.false_eq_true, s_primes, e3, e4, s1, s2, hp, hle]
theorem s_great (g : Good q) : ∃ d q', F__law_great [.ref 1] (sto q r) = some (d, sto q' r) ∧ Siz 2 d ∧ Good q' := by
  obtain ⟨A1, pA1, vA1, sA1⟩ := siz_pow 2 32 2 32 rfl rfl (smo_2.pow _) (by decide) (by decide) (by decide) (by decide)
  obtain ⟨A2, pA2, vA2, sA2⟩ := siz_pow 2 64 2 64 rfl rfl (smo_2.pow _) (by decide) (by decide) (by decide) (by decide)
  obtain ⟨A3, pA3, vA3, sA3⟩ := siz_pow 3 20 3 20 rfl rfl (smo_3.pow _) (by decide) (by decide) (by decide) (by decide)
  obtain ⟨A4, pA4, vA4, sA4⟩ := siz_pow 10 30 10 30 rfl rfl (smo_10.pow _) (by decide) (by decide) (by decide) (by decide)
  obtain ⟨A5, pA5, vA5, sA5⟩ := siz_pow 97 4 97 4 rfl rfl (smo_97.pow _) (by decide) (by decide) (by decide) (by decide)
  obtain ⟨A6, pA6, vA6, sA6⟩ := siz_pow 6 9 6 9 rfl rfl (smo_6.pow _) (by decide) (by decide) (by decide) (by decide)
  obtain ⟨B, pB, vB, sB⟩ := siz_pow 2 33 2 33 rfl rfl (smo_2.pow _) (by decide) (by decide) (by decide) (by decide)
  obtain ⟨A7, pA7, vA7, sA7⟩ := siz_pow B 3 (2 ^ 33) 3 vB rfl ((smo_2.pow _).pow _) (by decide) (by decide) (by decide) (by decide)
  obtain ⟨A8, pA8, vA8, sA8⟩ := siz_pow 30 5 30 5 rfl rfl (smo_30.pow _) (by decide) (by decide) (by decide) (by decide)
  obtain ⟨A9, pA9, vA9, sA9⟩ := siz_pow 5 42 5 42 rfl rfl (smo_5.pow _) (by decide) (by decide) (by decide) (by decide)
  clear vB
  have hL : A4 = 1000000000000000000000000000000 := by rw [vA4]; decide
  have s97 : Siz 1 (.int 97) := siz_of (n := 97) smo_97 (by decide) (by decide)
  have s1 : Siz 1 (.int 1) := siz_of (n := 1) .one (by decide) (by decide)
  have hall : ∀ d ∈ [D.int A1, .int A2, .int A3, .int A4, .int A5, .int A6, .int A7, .int A8, .int A9, .int 97, .int 1], Siz 1 d := by
    intro d hd
    simp only [List.mem_cons, List.not_mem_nil, or_false] at hd
    rcases hd with rfl | rfl | rfl | rfl | rfl | rfl | rfl | rfl | rfl | rfl | rfl <;> assumption
  clear vA1 vA2 vA3 vA4 vA5 vA6 vA7 vA8 vA9 sA1 sA2 sA3 sA4 sA5 sA6 sA7 sA8 sA9 s97 s1 sB
  have q1 := fun S => pA1 S
  obtain ⟨d1, q1, e1, m1, g1⟩ := s_pick (r := r) g (l := [D.int A1, .int A2, .int A3, .int A4, .int A5, .int A6, .int A7, .int A8, .int A9, .int 97, .int 1]) (by simp) (by simp)
  obtain ⟨n, rfl, sn, n1, n2⟩ := hall d1 m1
  obtain ⟨k, q2, e2, k0, k1, g2⟩ := s_dip (r := r) g1 (n := 12) (by decide) (by decide)
  generalize hl0 : D.lst [D.int A1, .int A2, .int A3, .int A4, .int A5, .int A6, .int A7, .int A8, .int A9, .int 97, .int 1] = l0 at e1
  have hr : iRan1 (eArg F__law_dip (aCons (eVar 0) (aCons (eC (.int 12)) (aNil)))) [some (.ref 1), some l0, some (.int (n : Int)), none, none] (sto q1 r) = some (⟨rangeL 0 k.toNat, fun _ => True⟩, sto q2 r) := by
    refine iRan1_eq ?_ (by omega) (by omega)
    simp only [eVar, eC, aNil, aCons, eBin, eUn, eArg, eArgK, eIf, tBl, tAnd2, tOr2, tNot2, eAnd2, eOr2, eNot2, eChain, tTru, tTrue, sNil, sSeq, sRet, sRetN, sExpr, sIf, sCont, sBreak, sAsg, gNm, gsNil, gsCons, gTp, sPar, sPar3, gTupD, gLstD, gNewD, aYi, mYR, mYL, dSub_int, dMod_int, dFdiv_int, dLt_int, dLe_int, dGt_int, dGe_int, dEq_int, dNe_int, dEq_str, dNe_str, dEq_bl, dNe_bl, dNeg, dIx_tup, dIx_lst, atI_0, atI_1, atI_2, atI_3, dLen, dInt1, dMax2, dMin2, dAbs, dGcd, dTup, dLst, dIsN, dNotN, eMeth, truD, startR, fRun, permL, eSl, oSome, oNone, iSeq, iEnu, eLenSet, intsOf, wkOf, lsOf, Option.map_some, List.getElem?_cons_zero, List.getElem?_cons_succ, List.set_cons_zero, List.set_cons_succ, List.map_cons, List.map_nil, List.cons_append, List.nil_append, List.append_nil, List.replicate_succ, List.replicate_zero, List.length_cons, List.length_nil, List.filterMap_cons, List.filterMap_nil, if_true, ite_true, ite_false, decide_true, decide_false, Bool.not_true, Bool.not_false, Bool.true_and, Bool.and_true, Bool.false_and, Bool.or_true, Bool.true_or, Bool.false_or, Bool.or_false, decide_eq_true_eq, reduceIte, Nat.reduceAdd, Nat.reduceSub, Nat.reduceMul, Nat.reduceLT, Nat.reduceLeDiff, Int.reduceNeg, Int.reduceLT, Int.reduceLE, Int.reduceAdd, Int.reduceSub, Int.reduceMul, Int.reducePow, Int.reduceToNat, Int.natAbs_natCast, Int.reduceEq, Int.reduceNe, Bool.decide_eq_true, eq_self, reduceCtorEq, Nat.zero_add, Bool.false_eq_true, e2]
  have hloop := forL_run (gd := fun _ => True) (g := gNm 3) (b := sSeq (sAsg (eArg F__law_pick (aCons (eVar 0) (aCons (eArg gLstD (aCons (eC (.int 2)) (aCons (eC (.int 2)) (aCons (eC (.int 3)) (aCons (eC (.int 5)) (aCons (eArg F__law_pick (aCons (eVar 0) (aCons (eArg F__law_primes aNil) (aNil)))) (aNil))))))) (aNil)))) (gNm 4))
    (sAsg (eIf (tBl (eBin dLe (eBin (dMulY gLstD) (eVar 2) (eVar 4)) (eBin (dPow) (eC (.int 10)) (eC (.int 30))))) (eBin (dMulY gLstD) (eVar 2) (eVar 4)) (eVar 2)) (gNm 2))) (rangeL 0 k.toNat)
    (fun _ ρ S => ∃ (n : Nat) (z1 z2 : Option D) (q : Pot), ρ = [some (.ref 1), some l0, some (.int (n : Int)), z1, z2] ∧ S = sto q r ∧ Good q ∧ Smo n ∧ 1 ≤ n ∧ n ≤ 1000000000000000000000000000000)
    [some (.ref 1), some l0, some (.int (n : Int)), none, none] (sto q2 r) ⟨n, _, _, q2, rfl, rfl, g2, sn, n1, n2⟩
    (fun j d ρ S hj ⟨n, z1, z2, q, hρ, hS, g, sn, n1, n2⟩ => by
      subst hρ hS
      obtain ⟨m, z3, q', e, h1, h2, h3, h4⟩ := great_step (r := r) A4 hL pA4 g sn n1 n2 l0 d z2
      exact ⟨trivial, _, _, rfl, .nx, _, _, e, .inl rfl, m, _, _, q', rfl, rfl, h1, h2, h3, h4⟩)
    (fun _ _ _ => trivial)
  obtain ⟨ρ', S', hl, n', z1, z2, q', hρ, hS, g', sn', n1', n2'⟩ := hloop
  subst hρ hS
  have hm : (if (2 : Int) > (n' : Int) then (2 : Int) else (n' : Int)) = ((max n' 2 : Nat) : Int) := by
    split <;> omega
  refine ⟨.int ((max n' 2 : Nat) : Int), q', ?_, siz_of ?_ (Nat.le_max_right _ _) (Nat.max_le.mpr ⟨n2', by decide⟩), g'⟩
  · clear n2 n2' hL
    unfold F__law_great b__law_great
    simp only [eVar, eC, aNil, aCons, eBin, eUn, eArg, eArgK, eIf, tBl, tAnd2, tOr2, tNot2, eAnd2, eOr2, eNot2, eChain, tTru, tTrue, sNil, sSeq, sRet, sRetN, sExpr, sIf, sCont, sBreak, sAsg, gNm, gsNil, gsCons, gTp, sPar, sPar3, gTupD, gLstD, gNewD, aYi, mYR, mYL, dSub_int, dMod_int, dFdiv_int, dLt_int, dLe_int, dGt_int, dGe_int, dEq_int, dNe_int, dEq_str, dNe_str, dEq_bl, dNe_bl, dNeg, dIx_tup, dIx_lst, atI_0, atI_1, atI_2, atI_3, dLen, dInt1, dMax2, dMin2, dAbs, dGcd, dTup, dLst, dIsN, dNotN, eMeth, truD, startR, fRun, permL, eSl, oSome, oNone, iSeq, iEnu, eLenSet, intsOf, wkOf, lsOf, Option.map_some, List.getElem?_cons_zero, List.getElem?_cons_succ, List.set_cons_zero, List.set_cons_succ, List.map_cons, List.map_nil, List.cons_append, List.nil_append, List.append_nil, List.replicate_succ, List.replicate_zero, List.length_cons, List.length_nil, List.filterMap_cons, List.filterMap_nil, if_true, ite_true, ite_false, decide_true, decide_false, Bool.not_true, Bool.not_false, Bool.true_and, Bool.and_true, Bool.false_and, Bool.or_true, Bool.true_or, Bool.false_or, Bool.or_false, decide_eq_true_eq, reduceIte, Nat.reduceAdd, Nat.reduceSub, Nat.reduceMul, Nat.reduceLT, Nat.reduceLeDiff, Int.reduceNeg, Int.reduceLT, Int.reduceLE, Int.reduceAdd, Int.reduceSub, Int.reduceMul, Int.reducePow, Int.reduceToNat, Int.natAbs_natCast, Int.reduceEq, Int.reduceNe, Bool.decide_eq_true, eq_self, reduceCtorEq, Nat.zero_add, Bool.false_eq_true, pA1, pA2, pA3, pA4, pA5, pA6, pB, pA7, pA8, pA9, hl0, e1, sFor_eq hr, hl, hm]
  · rcases Nat.le_total n' 2 with h | h
    · rw [Nat.max_eq_right h]; exact smo_2
    · rw [Nat.max_eq_left h]; exact sn'
end
end Gk02
namespace Gk02
open PySem PySem.Spec PyProof.Rows L2 Nw
section
variable {q : Pot} {r : Sto} {ρ : Rho}
theorem few_siz : ∀ d ∈ [D.int 2, .int 3, .int 4, .int 5, .int 6, .int 8, .int 9, .int 12, .int 16, .int 18, .int 27, .int 97, .int 36], Siz 2 d := by
  intro d hd
  simp only [List.mem_cons, List.not_mem_nil, or_false] at hd
  rcases hd with rfl | rfl | rfl | rfl | rfl | rfl | rfl | rfl | rfl | rfl | rfl | rfl | rfl
  · exact siz_of (n := 2) smo_2 (by decide) (by decide)
  · exact siz_of (n := 3) smo_3 (by decide) (by decide)
  · exact siz_of (n := 2 * 2) (smo_2.times smo_2) (by decide) (by decide)
  · exact siz_of (n := 5) smo_5 (by decide) (by decide)
  · exact siz_of (n := 6) smo_6 (by decide) (by decide)
  · exact siz_of (n := 2 ^ 3) (smo_2.pow _) (by decide) (by decide)
  · exact siz_of (n := 3 ^ 2) (smo_3.pow _) (by decide) (by decide)
  · exact siz_of (n := 6 * 2) (smo_6.times smo_2) (by decide) (by decide)
  · exact siz_of (n := 2 ^ 4) (smo_2.pow _) (by decide) (by decide)
  · exact siz_of (n := 6 * 3) (smo_6.times smo_3) (by decide) (by decide)
  · exact siz_of (n := 3 ^ 3) (smo_3.pow _) (by decide) (by decide)
  · exact siz_of (n := 97) smo_97 (by decide) (by decide)
  · exact siz_of (n := 6 * 6) (smo_6.times smo_6) (by decide) (by decide)
theorem range_mem {lo : Int} {n : Nat} {d : D} (h : d ∈ rangeL lo n) : ∃ i : Nat, i < n ∧ d = .int (lo + (i : Int)) := by
  unfold rangeL at h
  obtain ⟨i, hi, rfl⟩ := List.mem_map.mp h
  exact ⟨i, List.mem_range.mp hi, rfl⟩
theorem range_len {lo : Int} {n : Nat} : (rangeL lo n).length = n := by unfold rangeL; simp
theorem range_get {lo : Int} {n i : Nat} {d : D} (h : (rangeL lo n)[i]? = some d) : i < n ∧ d = .int (lo + (i : Int)) := by
  unfold rangeL at h
  rw [List.getElem?_map] at h
  by_cases hi : i < n
  · rw [List.getElem?_range hi] at h
    exact ⟨hi, (Option.some.inj h).symm⟩
  · rw [List.getElem?_eq_none (by simp; omega)] at h
    cases h
theorem s_sizes (g : Good q) (b : Bool) : ∃ ds q', F__law_sizes [.ref 1, .bl b] (sto q r) = some (.tup ds, sto q' r) ∧ 1 ≤ ds.length ∧ ds.length ≤ 6 ∧ (∀ d ∈ ds, Siz 2 d) ∧ Good q' := by
  generalize hfew : D.lst [D.int 2, .int 3, .int 4, .int 5, .int 6, .int 8, .int 9, .int 12, .int 16, .int 18, .int 27, .int 97, .int 36] = few
  have h1 : iRan1 (eC (.int 3)) [some (.ref 1), some (.bl b), some few, none, none] (sto q r) = some (⟨rangeL 0 3, fun _ => True⟩, sto q r) := iRan1_eq (j := 3) rfl (by decide) (by decide)
  obtain ⟨bs, S1, e1, l1, p1, q1, hS1, g1⟩ := lcR_run (gd := fun _ => True) (g := gNm 4) (e := eIf (tTru (eVar 1)) (eArg F__law_great (aCons (eVar 0) (aNil))) (eArg F__law_pick (aCons (eVar 0) (aCons (eVar 2) (aNil))))) (ρ := wipeR [some (.ref 1), some (.bl b), some few, none, none] [4]) (fun S => ∃ q, S = sto q r ∧ Good q) (fun _ y => Siz 2 y) (rangeL 0 3) (sto q r) ⟨q, rfl, g⟩
    (fun d _ S ⟨q, hS, g⟩ => by
      subst hS
      refine ⟨trivial, _, rfl, ?_⟩
      cases b with
      | true =>
        obtain ⟨x, q', e, hx, g'⟩ := s_great (r := r) g
        refine ⟨x, sto q' r, ?_, hx, q', rfl, g'⟩
        simp only [eVar, eC, aNil, aCons, eBin, eUn, eArg, eArgK, eIf, tBl, tAnd2, tOr2, tNot2, eAnd2, eOr2, eNot2, eChain, tTru, tTrue, sNil, sSeq, sRet, sRetN, sExpr, sIf, sCont, sBreak, sAsg, gNm, gsNil, gsCons, gTp, sPar, sPar3, gTupD, gLstD, gNewD, aYi, mYR, mYL, dSub_int, dMod_int, dFdiv_int, dLt_int, dLe_int, dGt_int, dGe_int, dEq_int, dNe_int, dEq_str, dNe_str, dEq_bl, dNe_bl, dNeg, dIx_tup, dIx_lst, atI_0, atI_1, atI_2, atI_3, dLen, dInt1, dMax2, dMin2, dAbs, dGcd, dTup, dLst, dIsN, dNotN, eMeth, truD, startR, fRun, permL, eSl, oSome, oNone, iSeq, iEnu, eLenSet, intsOf, wkOf, lsOf, Option.map_some, List.getElem?_cons_zero, List.getElem?_cons_succ, List.set_cons_zero, List.set_cons_succ, List.map_cons, List.map_nil, List.cons_append, List.nil_append, List.append_nil, List.replicate_succ, List.replicate_zero, List.length_cons, List.length_nil, List.filterMap_cons, List.filterMap_nil, if_true, ite_true, ite_false, decide_true, decide_false, Bool.not_true, Bool.not_false, Bool.true_and, Bool.and_true, Bool.false_and, Bool.or_true, Bool.true_or, Bool.false_or, Bool.or_false, decide_eq_true_eq, reduceIte, Nat.reduceAdd, Nat.reduceSub, Nat.reduceMul, Nat.reduceLT, Nat.reduceLeDiff, Int.reduceNeg, Int.reduceLT, Int.reduceLE, Int.reduceAdd, Int.reduceSub, Int.reduceMul, Int.reducePow, Int.reduceToNat, Int.natAbs_natCast, Int.reduceEq, Int.reduceNe, Bool.decide_eq_true, eq_self, reduceCtorEq, Nat.zero_add, Bool.false_eq_true, wipeR, e]
      | false =>
        obtain ⟨x, q', e, hx, g'⟩ := s_pick (r := r) g (l := [D.int 2, .int 3, .int 4, .int 5, .int 6, .int 8, .int 9, .int 12, .int 16, .int 18, .int 27, .int 97, .int 36]) (by simp) (by simp)
        refine ⟨x, sto q' r, ?_, few_siz x hx, q', rfl, g'⟩
        rw [hfew] at e
        simp only [eVar, eC, aNil, aCons, eBin, eUn, eArg, eArgK, eIf, tBl, tAnd2, tOr2, tNot2, eAnd2, eOr2, eNot2, eChain, tTru, tTrue, sNil, sSeq, sRet, sRetN, sExpr, sIf, sCont, sBreak, sAsg, gNm, gsNil, gsCons, gTp, sPar, sPar3, gTupD, gLstD, gNewD, aYi, mYR, mYL, dSub_int, dMod_int, dFdiv_int, dLt_int, dLe_int, dGt_int, dGe_int, dEq_int, dNe_int, dEq_str, dNe_str, dEq_bl, dNe_bl, dNeg, dIx_tup, dIx_lst, atI_0, atI_1, atI_2, atI_3, dLen, dInt1, dMax2, dMin2, dAbs, dGcd, dTup, dLst, dIsN, dNotN, eMeth, truD, startR, fRun, permL, eSl, oSome, oNone, iSeq, iEnu, eLenSet, intsOf, wkOf, lsOf, Option.map_some, List.getElem?_cons_zero, List.getElem?_cons_succ, List.set_cons_zero, List.set_cons_succ, List.map_cons, List.map_nil, List.cons_append, List.nil_append, List.append_nil, List.replicate_succ, List.replicate_zero, List.length_cons, List.length_nil, List.filterMap_cons, List.filterMap_nil, if_true, ite_true, ite_false, decide_true, decide_false, Bool.not_true, Bool.not_false, Bool.true_and, Bool.and_true, Bool.false_and, Bool.or_true, Bool.true_or, Bool.false_or, Bool.or_false, decide_eq_true_eq, reduceIte, Nat.reduceAdd, Nat.reduceSub, Nat.reduceMul, Nat.reduceLT, Nat.reduceLeDiff, Int.reduceNeg, Int.reduceLT, Int.reduceLE, Int.reduceAdd, Int.reduceSub, Int.reduceMul, Int.reducePow, Int.reduceToNat, Int.natAbs_natCast, Int.reduceEq, Int.reduceNe, Bool.decide_eq_true, eq_self, reduceCtorEq, Nat.zero_add, Bool.false_eq_true, wipeR, e])
    (fun _ _ => trivial)
  subst hS1
  have e1' : fLc (iRan1 (eC (.int 3))) (gNm 4) tTrue (eIf (tTru (eVar 1)) (eArg F__law_great (aCons (eVar 0) (aNil))) (eArg F__law_pick (aCons (eVar 0) (aCons (eVar 2) (aNil))))) [4] [some (.ref 1), some (.bl b), some few, none, none] (sto q r) = some (bs, sto q1 r) := by
    rw [fLc_eq h1 (by rw [range_len, sizeLine_eq]; decide)]
    exact e1
  have hbs : ∀ y ∈ bs, Siz 2 y := by
    intro y hy
    obtain ⟨i, hi⟩ := List.mem_iff_getElem?.mp hy
    have hlt : i < bs.length := by
      rcases Nat.lt_or_ge i bs.length with h | h
      · exact h
      · rw [List.getElem?_eq_none h] at hi; cases hi
    rw [l1] at hlt
    exact p1 i _ y (List.getElem?_eq_getElem hlt) hi
  have hbl : bs.length = 3 := by rw [l1, range_len]
  obtain ⟨k, q2, e2, k0, k1, g2⟩ := s_dip (r := r) g1 (n := 6) (by decide) (by decide)
  have h3 : iRan1 (eBin (dAddY gLstD) (eC (.int 1)) (eArg F__law_dip (aCons (eVar 0) (aCons (eC (.int 6)) (aNil))))) [some (.ref 1), some (.bl b), some few, some (.lst bs), none] (sto q1 r) = some (⟨rangeL 0 (1 + k).toNat, fun _ => True⟩, sto q2 r) := by
    refine iRan1_eq (j := 1 + k) ?_ (by omega) (by omega)
    simp only [eVar, eC, aNil, aCons, eBin, eUn, eArg, eArgK, eIf, tBl, tAnd2, tOr2, tNot2, eAnd2, eOr2, eNot2, eChain, tTru, tTrue, sNil, sSeq, sRet, sRetN, sExpr, sIf, sCont, sBreak, sAsg, gNm, gsNil, gsCons, gTp, sPar, sPar3, gTupD, gLstD, gNewD, aYi, mYR, mYL, dSub_int, dMod_int, dFdiv_int, dLt_int, dLe_int, dGt_int, dGe_int, dEq_int, dNe_int, dEq_str, dNe_str, dEq_bl, dNe_bl, dNeg, dIx_tup, dIx_lst, atI_0, atI_1, atI_2, atI_3, dLen, dInt1, dMax2, dMin2, dAbs, dGcd, dTup, dLst, dIsN, dNotN, eMeth, truD, startR, fRun, permL, eSl, oSome, oNone, iSeq, iEnu, eLenSet, intsOf, wkOf, lsOf, Option.map_some, List.getElem?_cons_zero, List.getElem?_cons_succ, List.set_cons_zero, List.set_cons_succ, List.map_cons, List.map_nil, List.cons_append, List.nil_append, List.append_nil, List.replicate_succ, List.replicate_zero, List.length_cons, List.length_nil, List.filterMap_cons, List.filterMap_nil, if_true, ite_true, ite_false, decide_true, decide_false, Bool.not_true, Bool.not_false, Bool.true_and, Bool.and_true, Bool.false_and, Bool.or_true, Bool.true_or, Bool.false_or, Bool.or_false, decide_eq_true_eq, reduceIte, Nat.reduceAdd, Nat.reduceSub, Nat.reduceMul, Nat.reduceLT, Nat.reduceLeDiff, Int.reduceNeg, Int.reduceLT, Int.reduceLE, Int.reduceAdd, Int.reduceSub, Int.reduceMul, Int.reducePow, Int.reduceToNat, Int.natAbs_natCast, Int.reduceEq, Int.reduceNe, Bool.decide_eq_true, eq_self, reduceCtorEq, Nat.zero_add, Bool.false_eq_true, e2]
  obtain ⟨ds, S3, e3, l3, p3, q3, hS3, g3⟩ := lcR_run (gd := fun _ => True) (g := gNm 4) (e := eArg F__law_pick (aCons (eVar 0) (aCons (eVar 3) (aNil)))) (ρ := wipeR [some (.ref 1), some (.bl b), some few, some (.lst bs), none] [4]) (fun S => ∃ q, S = sto q r ∧ Good q) (fun _ y => Siz 2 y) (rangeL 0 (1 + k).toNat) (sto q2 r) ⟨q2, rfl, g2⟩
    (fun d _ S ⟨q, hS, g⟩ => by
      subst hS
      obtain ⟨x, q', e, hx, g'⟩ := s_pick (r := r) g (l := bs) (fun h => by rw [h] at hbl; cases hbl) (by rw [hbl]; decide)
      refine ⟨trivial, _, rfl, x, sto q' r, ?_, hbs x hx, q', rfl, g'⟩
      simp only [eVar, eC, aNil, aCons, eBin, eUn, eArg, eArgK, eIf, tBl, tAnd2, tOr2, tNot2, eAnd2, eOr2, eNot2, eChain, tTru, tTrue, sNil, sSeq, sRet, sRetN, sExpr, sIf, sCont, sBreak, sAsg, gNm, gsNil, gsCons, gTp, sPar, sPar3, gTupD, gLstD, gNewD, aYi, mYR, mYL, dSub_int, dMod_int, dFdiv_int, dLt_int, dLe_int, dGt_int, dGe_int, dEq_int, dNe_int, dEq_str, dNe_str, dEq_bl, dNe_bl, dNeg, dIx_tup, dIx_lst, atI_0, atI_1, atI_2, atI_3, dLen, dInt1, dMax2, dMin2, dAbs, dGcd, dTup, dLst, dIsN, dNotN, eMeth, truD, startR, fRun, permL, eSl, oSome, oNone, iSeq, iEnu, eLenSet, intsOf, wkOf, lsOf, Option.map_some, List.getElem?_cons_zero, List.getElem?_cons_succ, List.set_cons_zero, List.set_cons_succ, List.map_cons, List.map_nil, List.cons_append, List.nil_append, List.append_nil, List.replicate_succ, List.replicate_zero, List.length_cons, List.length_nil, List.filterMap_cons, List.filterMap_nil, if_true, ite_true, ite_false, decide_true, decide_false, Bool.not_true, Bool.not_false, Bool.true_and, Bool.and_true, Bool.false_and, Bool.or_true, Bool.true_or, Bool.false_or, Bool.or_false, decide_eq_true_eq, reduceIte, Nat.reduceAdd, Nat.reduceSub, Nat.reduceMul, Nat.reduceLT, Nat.reduceLeDiff, Int.reduceNeg, Int.reduceLT, Int.reduceLE, Int.reduceAdd, Int.reduceSub, Int.reduceMul, Int.reducePow, Int.reduceToNat, Int.natAbs_natCast, Int.reduceEq, Int.reduceNe, Bool.decide_eq_true, eq_self, reduceCtorEq, Nat.zero_add, Bool.false_eq_true, wipeR, e])
    (fun _ _ => trivial)
  subst hS3
  rw [range_len] at l3
  have e3' : fLc (iRan1 (eBin (dAddY gLstD) (eC (.int 1)) (eArg F__law_dip (aCons (eVar 0) (aCons (eC (.int 6)) (aNil)))))) (gNm 4) tTrue (eArg F__law_pick (aCons (eVar 0) (aCons (eVar 3) (aNil)))) [4] [some (.ref 1), some (.bl b), some few, some (.lst bs), none] (sto q1 r) = some (ds, sto q3 r) := by
    rw [fLc_eq h3 (by rw [range_len, sizeLine_eq]; omega)]
    exact e3
  refine ⟨ds, q3, ?_, by omega, by omega, fun y hy => ?_, g3⟩
  · unfold F__law_sizes b__law_sizes
    simp only [eVar, eC, aNil, aCons, eBin, eUn, eArg, eArgK, eIf, tBl, tAnd2, tOr2, tNot2, eAnd2, eOr2, eNot2, eChain, tTru, tTrue, sNil, sSeq, sRet, sRetN, sExpr, sIf, sCont, sBreak, sAsg, gNm, gsNil, gsCons, gTp, sPar, sPar3, gTupD, gLstD, gNewD, aYi, mYR, mYL, dSub_int, dMod_int, dFdiv_int, dLt_int, dLe_int, dGt_int, dGe_int, dEq_int, dNe_int, dEq_str, dNe_str, dEq_bl, dNe_bl, dNeg, dIx_tup, dIx_lst, atI_0, atI_1, atI_2, atI_3, dLen, dInt1, dMax2, dMin2, dAbs, dGcd, dTup, dLst, dIsN, dNotN, eMeth, truD, startR, fRun, permL, eSl, oSome, oNone, iSeq, iEnu, eLenSet, intsOf, wkOf, lsOf, Option.map_some, List.getElem?_cons_zero, List.getElem?_cons_succ, List.set_cons_zero, List.set_cons_succ, List.map_cons, List.map_nil, List.cons_append, List.nil_append, List.append_nil, List.replicate_succ, List.replicate_zero, List.length_cons, List.length_nil, List.filterMap_cons, List.filterMap_nil, if_true, ite_true, ite_false, decide_true, decide_false, Bool.not_true, Bool.not_false, Bool.true_and, Bool.and_true, Bool.false_and, Bool.or_true, Bool.true_or, Bool.false_or, Bool.or_false, decide_eq_true_eq, reduceIte, Nat.reduceAdd, Nat.reduceSub, Nat.reduceMul, Nat.reduceLT, Nat.reduceLeDiff, Int.reduceNeg, Int.reduceLT, Int.reduceLE, Int.reduceAdd, Int.reduceSub, Int.reduceMul, Int.reducePow, Int.reduceToNat, Int.natAbs_natCast, Int.reduceEq, Int.reduceNe, Bool.decide_eq_true, eq_self, reduceCtorEq, Nat.zero_add, Bool.false_eq_true, hfew, e1', e3']
  · obtain ⟨i, hi⟩ := List.mem_iff_getElem?.mp hy
    have hlt : i < ds.length := by
      rcases Nat.lt_or_ge i ds.length with h | h
      · exact h
      · rw [List.getElem?_eq_none h] at hi; cases hi
    exact p3 i _ y (List.getElem?_eq_getElem (l := rangeL 0 (1 + k).toNat) (by rw [range_len, ← l3]; exact hlt)) hi
theorem sto_len : (sto q r).length = r.length + 2 := rfl
theorem sto_app {o : O} : sto q r ++ [o] = sto q (r ++ [o]) := rfl
theorem sto_at {o : O} {l : Sto} : (sto q (r ++ o :: l))[r.length + 2]? = some o := by
  show (r ++ o :: l)[r.length]? = some o
  simp
theorem sto_set {o o' : O} {l : Sto} : (sto q (r ++ o :: l)).set (r.length + 2) o' = sto q (r ++ o' :: l) := by
  show _ :: _ :: (r ++ o :: l).set r.length o' = _
  simp
  rfl
theorem ext_at {l l2 : List D} (h : l.length + l2.length ≤ 1000000) : dExtend (.ref (r.length + 2)) [D.lst l2] (sto q (r ++ [O.lst l])) = some (.non, sto q (r ++ [O.lst (l ++ l2)])) := by
  unfold dExtend lsOf
  simp only [sto_at]
  rw [if_pos (by rw [sizeLine_eq]; omega), sto_set]
def Wir (m : Nat) (d : D) : Prop := ∃ j i : Nat, d = .tup [.int (j : Int), .int (i : Int)] ∧ j < m ∧ i < m ∧ i ≠ j
theorem s_wires (g : Good q) (m : Nat) (hm : m ≤ 6) : ∃ ws q' r', F__law_wires [.ref 1, .int (m : Int)] (sto q r) = some (.tup ws, sto q' r') ∧ ws.length ≤ 36 ∧ (∀ d ∈ ws, Wir m d) ∧ Good q' := by
  obtain ⟨d1, q1, e1, m1, g1⟩ := s_pick (r := r) g (l := [.int 0, .int 1, .int 2, .int 3, .int 3, .int 4]) (by simp) (by simp)
  have hc : ∃ c : Int, d1 = .int c := by
    simp only [List.mem_cons, List.not_mem_nil, or_false] at m1
    rcases m1 with rfl | rfl | rfl | rfl | rfl | rfl <;> exact ⟨_, rfl⟩
  obtain ⟨c, rfl⟩ := hc
  have hr : iRan1 (eVar 1) [some (.ref 1), some (.int (m : Int)), some (.int c), some (.ref (r.length + 2)), none, none] (sto q1 (r ++ [.lst []])) = some (⟨rangeL 0 m, fun _ => True⟩, sto q1 (r ++ [.lst []])) := iRan1_eq (j := (m : Int)) rfl (by omega) (by omega)
  have hloop := forL_run (gd := fun _ => True) (g := gNm 4) (b := sExpr (eMeth dExtend (eVar 3) (aCons (eArg gLstD (fLc (iRan1 (eVar 1)) (gNm 5) (tAnd2 (tBl (eBin dNe (eVar 5) (eVar 4))) (tBl (eBin dLt (eArg F__law_dip (aCons (eVar 0) (aCons (eC (.int 4)) (aNil)))) (eVar 2)))) (eArg gTupD (aCons (eVar 4) (aCons (eVar 5) (aNil)))) [5])) (aNil)))) (rangeL 0 m)
    (fun j ρ S => ∃ (ds : List D) (z1 z2 : Option D) (q : Pot), ρ = [some (.ref 1), some (.int (m : Int)), some (.int c), some (.ref (r.length + 2)), z1, z2] ∧ S = sto q (r ++ [.lst ds]) ∧ Good q ∧ ds.length ≤ j * 6 ∧ ∀ d ∈ ds, Wir m d)
    [some (.ref 1), some (.int (m : Int)), some (.int c), some (.ref (r.length + 2)), none, none] (sto q1 (r ++ [.lst []])) ⟨[], _, _, q1, rfl, rfl, g1, by simp, fun d h => by cases h⟩
    (fun j d ρ S hj ⟨ds, z1, z2, q, hρ, hS, g, hl, hw⟩ => by
      subst hρ hS
      obtain ⟨hj6, rfl⟩ := range_get hj
      have h1 : iRan1 (eVar 1) [some (.ref 1), some (.int (m : Int)), some (.int c), some (.ref (r.length + 2)), some (.int (0 + (j : Int))), z2] (sto q (r ++ [.lst ds])) = some (⟨rangeL 0 m, fun _ => True⟩, sto q (r ++ [.lst ds])) := iRan1_eq (j := (m : Int)) rfl (by omega) (by omega)
      obtain ⟨ys, S2, e2, l2, ⟨xs, sl, xl, hP⟩, q2, hS2, g2⟩ := lcR_sub (gd := fun _ => True) (g := gNm 5) (t := tAnd2 (tBl (eBin dNe (eVar 5) (eVar 4))) (tBl (eBin dLt (eArg F__law_dip (aCons (eVar 0) (aCons (eC (.int 4)) (aNil)))) (eVar 2)))) (e := eArg gTupD (aCons (eVar 4) (aCons (eVar 5) (aNil)))) (ρ := wipeR [some (.ref 1), some (.int (m : Int)), some (.int c), some (.ref (r.length + 2)), some (.int (0 + (j : Int))), z2] [5]) (fun S => ∃ q, S = sto q (r ++ [.lst ds]) ∧ Good q) (fun x y => Wir m y) (rangeL 0 m) (sto q (r ++ [.lst ds])) ⟨q, rfl, g⟩
        (fun d hd S ⟨q, hS, g⟩ => by
          subst hS
          obtain ⟨i, hi, rfl⟩ := range_mem hd
          obtain ⟨k, q', e, k0, k1, g'⟩ := s_dip (r := r ++ [.lst ds]) g (n := 4) (by decide) (by decide)
          refine ⟨trivial, _, rfl, ?_⟩
          by_cases hij : i = j
          · subst hij
            refine ⟨false, sto q (r ++ [.lst ds]), ?_, ⟨q, rfl, g⟩, fun h => by cases h⟩
            simp only [eVar, eC, aNil, aCons, eBin, eUn, eArg, eArgK, eIf, tBl, tAnd2, tOr2, tNot2, eAnd2, eOr2, eNot2, eChain, tTru, tTrue, sNil, sSeq, sRet, sRetN, sExpr, sIf, sCont, sBreak, sAsg, gNm, gsNil, gsCons, gTp, sPar, sPar3, gTupD, gLstD, gNewD, aYi, mYR, mYL, dSub_int, dMod_int, dFdiv_int, dLt_int, dLe_int, dGt_int, dGe_int, dEq_int, dNe_int, dEq_str, dNe_str, dEq_bl, dNe_bl, dNeg, dIx_tup, dIx_lst, atI_0, atI_1, atI_2, atI_3, dLen, dInt1, dMax2, dMin2, dAbs, dGcd, dTup, dLst, dIsN, dNotN, eMeth, truD, startR, fRun, permL, eSl, oSome, oNone, iSeq, iEnu, eLenSet, intsOf, wkOf, lsOf, Option.map_some, List.getElem?_cons_zero, List.getElem?_cons_succ, List.set_cons_zero, List.set_cons_succ, List.map_cons, List.map_nil, List.cons_append, List.nil_append, List.append_nil, List.replicate_succ, List.replicate_zero, List.length_cons, List.length_nil, List.filterMap_cons, List.filterMap_nil, if_true, ite_true, ite_false, decide_true, decide_false, Bool.not_true, Bool.not_false, Bool.true_and, Bool.and_true, Bool.false_and, Bool.or_true, Bool.true_or, Bool.false_or, Bool.or_false, decide_eq_true_eq, reduceIte, Nat.reduceAdd, Nat.reduceSub, Nat.reduceMul, Nat.reduceLT, Nat.reduceLeDiff, Int.reduceNeg, Int.reduceLT, Int.reduceLE, Int.reduceAdd, Int.reduceSub, Int.reduceMul, Int.reducePow, Int.reduceToNat, Int.natAbs_natCast, Int.reduceEq, Int.reduceNe, Bool.decide_eq_true, eq_self, reduceCtorEq, Nat.zero_add, Bool.false_eq_true, wipeR]
          · have hne : ¬ ((0 : Int) + (i : Int) = 0 + (j : Int)) := by omega
            refine ⟨decide (k < c), sto q' (r ++ [.lst ds]), ?_, ⟨q', rfl, g'⟩, fun _ => ⟨.tup [.int (0 + (j : Int)), .int (0 + (i : Int))], sto q' (r ++ [.lst ds]), ?_, ⟨j, i, by simp, hj6, hi, hij⟩, q', rfl, g'⟩⟩
            · simp only [eVar, eC, aNil, aCons, eBin, eUn, eArg, eArgK, eIf, tBl, tAnd2, tOr2, tNot2, eAnd2, eOr2, eNot2, eChain, tTru, tTrue, sNil, sSeq, sRet, sRetN, sExpr, sIf, sCont, sBreak, sAsg, gNm, gsNil, gsCons, gTp, sPar, sPar3, gTupD, gLstD, gNewD, aYi, mYR, mYL, dSub_int, dMod_int, dFdiv_int, dLt_int, dLe_int, dGt_int, dGe_int, dEq_int, dNe_int, dEq_str, dNe_str, dEq_bl, dNe_bl, dNeg, dIx_tup, dIx_lst, atI_0, atI_1, atI_2, atI_3, dLen, dInt1, dMax2, dMin2, dAbs, dGcd, dTup, dLst, dIsN, dNotN, eMeth, truD, startR, fRun, permL, eSl, oSome, oNone, iSeq, iEnu, eLenSet, intsOf, wkOf, lsOf, Option.map_some, List.getElem?_cons_zero, List.getElem?_cons_succ, List.set_cons_zero, List.set_cons_succ, List.map_cons, List.map_nil, List.cons_append, List.nil_append, List.append_nil, List.replicate_succ, List.replicate_zero, List.length_cons, List.length_nil, List.filterMap_cons, List.filterMap_nil, if_true, ite_true, ite_false, decide_true, decide_false, Bool.not_true, Bool.not_false, Bool.true_and, Bool.and_true, Bool.false_and, Bool.or_true, Bool.true_or, Bool.false_or, Bool.or_false, decide_eq_true_eq, reduceIte, Nat.reduceAdd, Nat.reduceSub, Nat.reduceMul, Nat.reduceLT, Nat.reduceLeDiff, Int.reduceNeg, Int.reduceLT, Int.reduceLE, Int.reduceAdd, Int.reduceSub, Int.reduceMul, Int.reducePow, Int.reduceToNat, Int.natAbs_natCast, Int.reduceEq, Int.reduceNe, Bool.decide_eq_true, eq_self, reduceCtorEq, Nat.zero_add, Bool.false_eq_true, wipeR, hne, e]
            · simp only [eVar, eC, aNil, aCons, eBin, eUn, eArg, eArgK, eIf, tBl, tAnd2, tOr2, tNot2, eAnd2, eOr2, eNot2, eChain, tTru, tTrue, sNil, sSeq, sRet, sRetN, sExpr, sIf, sCont, sBreak, sAsg, gNm, gsNil, gsCons, gTp, sPar, sPar3, gTupD, gLstD, gNewD, aYi, mYR, mYL, dSub_int, dMod_int, dFdiv_int, dLt_int, dLe_int, dGt_int, dGe_int, dEq_int, dNe_int, dEq_str, dNe_str, dEq_bl, dNe_bl, dNeg, dIx_tup, dIx_lst, atI_0, atI_1, atI_2, atI_3, dLen, dInt1, dMax2, dMin2, dAbs, dGcd, dTup, dLst, dIsN, dNotN, eMeth, truD, startR, fRun, permL, eSl, oSome, oNone, iSeq, iEnu, eLenSet, intsOf, wkOf, lsOf, Option.map_some, List.getElem?_cons_zero, List.getElem?_cons_succ, List.set_cons_zero, List.set_cons_succ, List.map_cons, List.map_nil, List.cons_append, List.nil_append, List.append_nil, List.replicate_succ, List.replicate_zero, List.length_cons, List.length_nil, List.filterMap_cons, List.filterMap_nil, if_true, ite_true, ite_false, decide_true, decide_false, Bool.not_true, Bool.not_false, Bool.true_and, Bool.and_true, Bool.false_and, Bool.or_true, Bool.true_or, Bool.false_or, Bool.or_false, decide_eq_true_eq, reduceIte, Nat.reduceAdd, Nat.reduceSub, Nat.reduceMul, Nat.reduceLT, Nat.reduceLeDiff, Int.reduceNeg, Int.reduceLT, Int.reduceLE, Int.reduceAdd, Int.reduceSub, Int.reduceMul, Int.reducePow, Int.reduceToNat, Int.natAbs_natCast, Int.reduceEq, Int.reduceNe, Bool.decide_eq_true, eq_self, reduceCtorEq, Nat.zero_add, Bool.false_eq_true, wipeR])
        (fun _ _ => trivial)
      subst hS2
      rw [range_len] at l2
      have e2' : fLc (iRan1 (eVar 1)) (gNm 5) (tAnd2 (tBl (eBin dNe (eVar 5) (eVar 4))) (tBl (eBin dLt (eArg F__law_dip (aCons (eVar 0) (aCons (eC (.int 4)) (aNil)))) (eVar 2)))) (eArg gTupD (aCons (eVar 4) (aCons (eVar 5) (aNil)))) [5] [some (.ref 1), some (.int (m : Int)), some (.int c), some (.ref (r.length + 2)), some (.int (0 + (j : Int))), z2] (sto q (r ++ [.lst ds])) = some (ys, sto q2 (r ++ [.lst ds])) := by
        rw [fLc_eq h1 (by rw [range_len, sizeLine_eq]; omega)]
        exact e2
      have hex : dExtend (.ref (r.length + 2)) [.lst ys] (sto q2 (r ++ [.lst ds])) = some (.non, sto q2 (r ++ [.lst (ds ++ ys)])) := ext_at (by omega)
      refine ⟨trivial, _, _, rfl, .nx, _, sto q2 (r ++ [.lst (ds ++ ys)]), ?_, .inl rfl, ds ++ ys, some (.int (0 + (j : Int))), z2, q2, rfl, rfl, g2, by rw [List.length_append]; omega, fun d hd => ?_⟩
      · simp only [eVar, eC, aNil, aCons, eBin, eUn, eArg, eArgK, eIf, tBl, tAnd2, tOr2, tNot2, eAnd2, eOr2, eNot2, eChain, tTru, tTrue, sNil, sSeq, sRet, sRetN, sExpr, sIf, sCont, sBreak, sAsg, gNm, gsNil, gsCons, gTp, sPar, sPar3, gTupD, gLstD, gNewD, aYi, mYR, mYL, dSub_int, dMod_int, dFdiv_int, dLt_int, dLe_int, dGt_int, dGe_int, dEq_int, dNe_int, dEq_str, dNe_str, dEq_bl, dNe_bl, dNeg, dIx_tup, dIx_lst, atI_0, atI_1, atI_2, atI_3, dLen, dInt1, dMax2, dMin2, dAbs, dGcd, dTup, dLst, dIsN, dNotN, eMeth, truD, startR, fRun, permL, eSl, oSome, oNone, iSeq, iEnu, eLenSet, intsOf, wkOf, lsOf, Option.map_some, List.getElem?_cons_zero, List.getElem?_cons_succ, List.set_cons_zero, List.set_cons_succ, List.map_cons, List.map_nil, List.cons_append, List.nil_append, List.append_nil, List.replicate_succ, List.replicate_zero, List.length_cons, List.length_nil, List.filterMap_cons, List.filterMap_nil, if_true, ite_true, ite_false, decide_true, decide_false, Bool.not_true, Bool.not_false, Bool.true_and, Bool.and_true, Bool.false_and, Bool.or_true, Bool.true_or, Bool.false_or, Bool.or_false, decide_eq_true_eq, reduceIte, Nat.reduceAdd, Nat.reduceSub, Nat.reduceMul, Nat.reduceLT, Nat.reduceLeDiff, Int.reduceNeg, Int.reduceLT, Int.reduceLE, Int.reduceAdd, Int.reduceSub, Int.reduceMul, Int.reducePow, Int.reduceToNat, Int.natAbs_natCast, Int.reduceEq, Int.reduceNe, Bool.decide_eq_true, eq_self, reduceCtorEq, Nat.zero_add, Bool.false_eq_true, e2', hex]
      · rcases List.mem_append.mp hd with hd | hd
        · exact hw d hd
        · obtain ⟨i, hi⟩ := List.mem_iff_getElem?.mp hd
          have hlt : i < ys.length := by
            rcases Nat.lt_or_ge i ys.length with h | h
            · exact h
            · rw [List.getElem?_eq_none h] at hi; cases hi
          exact hP i _ d (List.getElem?_eq_getElem (l := xs) (by rw [xl]; exact hlt)) hi)
    (fun _ _ _ => trivial)
  obtain ⟨ρ', S', hl, ds, z1, z2, q', hρ, hS, g', hl2, hw⟩ := hloop
  subst hρ hS
  rw [range_len] at hl2
  refine ⟨ds, q', r ++ [.lst ds], ?_, by omega, hw, g'⟩
  unfold F__law_wires b__law_wires
  have hat := sto_at (q := q') (r := r) (o := .lst ds) (l := [])
  simp only [eVar, eC, aNil, aCons, eBin, eUn, eArg, eArgK, eIf, tBl, tAnd2, tOr2, tNot2, eAnd2, eOr2, eNot2, eChain, tTru, tTrue, sNil, sSeq, sRet, sRetN, sExpr, sIf, sCont, sBreak, sAsg, gNm, gsNil, gsCons, gTp, sPar, sPar3, gTupD, gLstD, gNewD, aYi, mYR, mYL, dSub_int, dMod_int, dFdiv_int, dLt_int, dLe_int, dGt_int, dGe_int, dEq_int, dNe_int, dEq_str, dNe_str, dEq_bl, dNe_bl, dNeg, dIx_tup, dIx_lst, atI_0, atI_1, atI_2, atI_3, dLen, dInt1, dMax2, dMin2, dAbs, dGcd, dTup, dLst, dIsN, dNotN, eMeth, truD, startR, fRun, permL, eSl, oSome, oNone, iSeq, iEnu, eLenSet, intsOf, wkOf, lsOf, Option.map_some, List.getElem?_cons_zero, List.getElem?_cons_succ, List.set_cons_zero, List.set_cons_succ, List.map_cons, List.map_nil, List.cons_append, List.nil_append, List.append_nil, List.replicate_succ, List.replicate_zero, List.length_cons, List.length_nil, List.filterMap_cons, List.filterMap_nil, if_true, ite_true, ite_false, decide_true, decide_false, Bool.not_true, Bool.not_false, Bool.true_and, Bool.and_true, Bool.false_and, Bool.or_true, Bool.true_or, Bool.false_or, Bool.or_false, decide_eq_true_eq, reduceIte, Nat.reduceAdd, Nat.reduceSub, Nat.reduceMul, Nat.reduceLT, Nat.reduceLeDiff, Int.reduceNeg, Int.reduceLT, Int.reduceLE, Int.reduceAdd, Int.reduceSub, Int.reduceMul, Int.reducePow, Int.reduceToNat, Int.natAbs_natCast, Int.reduceEq, Int.reduceNe, Bool.decide_eq_true, eq_self, reduceCtorEq, Nat.zero_add, Bool.false_eq_true, e1, sto_len, sto_app, sFor_eq hr, hl, hat]
theorem s_machine (g : Good q) (b : Bool) : ∃ ds ws q' r', F__law_machine [.ref 1, .bl b] (sto q r) = some (.tup [.tup ds, .tup ws], sto q' r') ∧ 1 ≤ ds.length ∧ ds.length ≤ 6 ∧ (∀ d ∈ ds, Siz 2 d) ∧ ws.length ≤ 36 ∧ (∀ d ∈ ws, Wir ds.length d) ∧ Good q' := by
  obtain ⟨ds, q1, e1, l0, l1, hd, g1⟩ := s_sizes (r := r) g b
  obtain ⟨ws, q2, r2, e2, lw, hw, g2⟩ := s_wires (r := r) g1 ds.length l1
  refine ⟨ds, ws, q2, r2, ?_, l0, l1, hd, lw, hw, g2⟩
  unfold F__law_machine b__law_machine
  simp only [eVar, eC, aNil, aCons, eBin, eUn, eArg, eArgK, eIf, tBl, tAnd2, tOr2, tNot2, eAnd2, eOr2, eNot2, eChain, tTru, tTrue, sNil, sSeq, sRet, sRetN, sExpr, sIf, sCont, sBreak, sAsg, gNm, gsNil, gsCons, gTp, sPar, sPar3, gTupD, gLstD, gNewD, aYi, mYR, mYL, dSub_int, dMod_int, dFdiv_int, dLt_int, dLe_int, dGt_int, dGe_int, dEq_int, dNe_int, dEq_str, dNe_str, dEq_bl, dNe_bl, dNeg, dIx_tup, dIx_lst, atI_0, atI_1, atI_2, atI_3, dLen, dInt1, dMax2, dMin2, dAbs, dGcd, dTup, dLst, dIsN, dNotN, eMeth, truD, startR, fRun, permL, eSl, oSome, oNone, iSeq, iEnu, eLenSet, intsOf, wkOf, lsOf, Option.map_some, List.getElem?_cons_zero, List.getElem?_cons_succ, List.set_cons_zero, List.set_cons_succ, List.map_cons, List.map_nil, List.cons_append, List.nil_append, List.append_nil, List.replicate_succ, List.replicate_zero, List.length_cons, List.length_nil, List.filterMap_cons, List.filterMap_nil, if_true, ite_true, ite_false, decide_true, decide_false, Bool.not_true, Bool.not_false, Bool.true_and, Bool.and_true, Bool.false_and, Bool.or_true, Bool.true_or, Bool.false_or, Bool.or_false, decide_eq_true_eq, reduceIte, Nat.reduceAdd, Nat.reduceSub, Nat.reduceMul, Nat.reduceLT, Nat.reduceLeDiff, Int.reduceNeg, Int.reduceLT, Int.reduceLE, Int.reduceAdd, Int.reduceSub, Int.reduceMul, Int.reducePow, Int.reduceToNat, Int.natAbs_natCast, Int.reduceEq, Int.reduceNe, Bool.decide_eq_true, eq_self, reduceCtorEq, Nat.zero_add, Bool.false_eq_true, e1, e2]
end
end Gk02
namespace Gk02
open PySem PySem.Spec PyProof.Rows L2 Nw
abbrev nI (n : Nat) : D := .int (n : Int)
def mach (ss : List Nat) (ws : List D) : D := .tup [.tup (ss.map nI), .tup ws]
theorem at_nI {ss : List Nat} {i n : Nat} (h : ss[i]? = some n) : atI (ss.map nI) (i : Int) = some (nI n) := Nw.atI_nat (by rw [List.getElem?_map, h]; rfl)
section
variable {S : Sto}
theorem s_often (p : Nat) (hp : 2 ≤ p) (hp9 : p ≤ 1000000) : ∀ n, 1 ≤ n → F__law_often [nI n, nI p] S = some (nI (vp p n), S) := by
  have p0 : (0 : Int) < (p : Int) := by omega
  have key : ∀ (k n : Nat), n ≤ k → 1 ≤ n → ∃ m : Nat, ∀ f : Nat, sWhile (tBl (eBin dEq (eBin (dMod) (eVar 0) (eVar 1)) (eC (.int 0)))) (sPar 0 2 (aCons (eBin (dFdiv) (eVar 0) (eVar 1)) (aCons (eBin (dAddY gLstD) (eVar 2) (eC (.int 1))) (aNil)))) [some (nI n), some (nI p), some (nI f)] S = some (.nx, [some (nI m), some (nI p), some (nI (f + vp p n))], S) := by
    intro k
    induction k with
    | zero => intro n h1 h2; omega
    | succ k ih =>
      intro n hk hn
      by_cases hd : n % p = 0
      · have hlt : n / p < n := Nat.div_lt_self hn hp
        have hge : 1 ≤ n / p := Nat.div_pos (Nat.le_of_dvd hn (Nat.dvd_of_mod_eq_zero hd)) (by omega)
        obtain ⟨m, hm⟩ := ih (n / p) (by omega) hge
        refine ⟨m, fun f => ?_⟩
        have e1 : ((n : Int) % (p : Int) = 0) = True := by simp only [eq_iff_iff, iff_true]; omega
        have hw : dFdiv (nI n) (nI p) S = some (nI (n / p), S) := by
          rw [dFdiv_int p0 (by omega)]
          rfl
        refine while_step (S1 := S) (S2 := S) (ρ2 := [some (nI (n / p)), some (nI p), some (nI (f + 1))]) ?_ ?_ ?_
        · simp only [eVar, eC, aNil, aCons, eBin, eUn, eArg, eArgK, eIf, tBl, tAnd2, tOr2, tNot2, eAnd2, eOr2, eNot2, eChain, tTru, tTrue, sNil, sSeq, sRet, sRetN, sExpr, sIf, sCont, sBreak, sAsg, gNm, gsNil, gsCons, gTp, sPar, sPar3, gTupD, gLstD, gNewD, aYi, mYR, mYL, dSub_int, dMod_int, dFdiv_int, dLt_int, dLe_int, dGt_int, dGe_int, dEq_int, dNe_int, dEq_str, dNe_str, dEq_bl, dNe_bl, dNeg, dIx_tup, dIx_lst, atI_0, atI_1, atI_2, atI_3, dLen, dInt1, dMax2, dMin2, dAbs, dGcd, dTup, dLst, dIsN, dNotN, eMeth, truD, startR, fRun, permL, eSl, oSome, oNone, iSeq, iEnu, eLenSet, intsOf, wkOf, lsOf, Option.map_some, List.getElem?_cons_zero, List.getElem?_cons_succ, List.set_cons_zero, List.set_cons_succ, List.map_cons, List.map_nil, List.cons_append, List.nil_append, List.append_nil, List.replicate_succ, List.replicate_zero, List.length_cons, List.length_nil, List.filterMap_cons, List.filterMap_nil, if_true, ite_true, ite_false, decide_true, decide_false, Bool.not_true, Bool.not_false, Bool.true_and, Bool.and_true, Bool.false_and, Bool.or_true, Bool.true_or, Bool.false_or, Bool.or_false, decide_eq_true_eq, reduceIte, Nat.reduceAdd, Nat.reduceSub, Nat.reduceMul, Nat.reduceLT, Nat.reduceLeDiff, Int.reduceNeg, Int.reduceLT, Int.reduceLE, Int.reduceAdd, Int.reduceSub, Int.reduceMul, Int.reducePow, Int.reduceToNat, Int.natAbs_natCast, Int.reduceEq, Int.reduceNe, Bool.decide_eq_true, eq_self, reduceCtorEq, Nat.zero_add, Bool.false_eq_true, p0, e1]
        · simp only [eVar, eC, aNil, aCons, eBin, eUn, eArg, eArgK, eIf, tBl, tAnd2, tOr2, tNot2, eAnd2, eOr2, eNot2, eChain, tTru, tTrue, sNil, sSeq, sRet, sRetN, sExpr, sIf, sCont, sBreak, sAsg, gNm, gsNil, gsCons, gTp, sPar, sPar3, gTupD, gLstD, gNewD, aYi, mYR, mYL, dSub_int, dMod_int, dFdiv_int, dLt_int, dLe_int, dGt_int, dGe_int, dEq_int, dNe_int, dEq_str, dNe_str, dEq_bl, dNe_bl, dNeg, dIx_tup, dIx_lst, atI_0, atI_1, atI_2, atI_3, dLen, dInt1, dMax2, dMin2, dAbs, dGcd, dTup, dLst, dIsN, dNotN, eMeth, truD, startR, fRun, permL, eSl, oSome, oNone, iSeq, iEnu, eLenSet, intsOf, wkOf, lsOf, Option.map_some, List.getElem?_cons_zero, List.getElem?_cons_succ, List.set_cons_zero, List.set_cons_succ, List.map_cons, List.map_nil, List.cons_append, List.nil_append, List.append_nil, List.replicate_succ, List.replicate_zero, List.length_cons, List.length_nil, List.filterMap_cons, List.filterMap_nil, if_true, ite_true, ite_false, decide_true, decide_false, Bool.not_true, Bool.not_false, Bool.true_and, Bool.and_true, Bool.false_and, Bool.or_true, Bool.true_or, Bool.false_or, Bool.or_false, decide_eq_true_eq, reduceIte, Nat.reduceAdd, Nat.reduceSub, Nat.reduceMul, Nat.reduceLT, Nat.reduceLeDiff, Int.reduceNeg, Int.reduceLT, Int.reduceLE, Int.reduceAdd, Int.reduceSub, Int.reduceMul, Int.reducePow, Int.reduceToNat, Int.natAbs_natCast, Int.reduceEq, Int.reduceNe, Bool.decide_eq_true, eq_self, reduceCtorEq, Nat.zero_add, Bool.false_eq_true, p0, hw]
          rfl
        · have := hm (f + 1)
          rw [vp_yes hp hn hd, show f + (vp p (n / p) + 1) = f + 1 + vp p (n / p) by omega]
          exact this
      · refine ⟨n, fun f => ?_⟩
        have e1 : ((n : Int) % (p : Int) = 0) = False := by simp only [eq_iff_iff, iff_false]; omega
        rw [vp_no hd]
        exact while_stop (by simp only [eVar, eC, aNil, aCons, eBin, eUn, eArg, eArgK, eIf, tBl, tAnd2, tOr2, tNot2, eAnd2, eOr2, eNot2, eChain, tTru, tTrue, sNil, sSeq, sRet, sRetN, sExpr, sIf, sCont, sBreak, sAsg, gNm, gsNil, gsCons, gTp, sPar, sPar3, gTupD, gLstD, gNewD, aYi, mYR, mYL, dSub_int, dMod_int, dFdiv_int, dLt_int, dLe_int, dGt_int, dGe_int, dEq_int, dNe_int, dEq_str, dNe_str, dEq_bl, dNe_bl, dNeg, dIx_tup, dIx_lst, atI_0, atI_1, atI_2, atI_3, dLen, dInt1, dMax2, dMin2, dAbs, dGcd, dTup, dLst, dIsN, dNotN, eMeth, truD, startR, fRun, permL, eSl, oSome, oNone, iSeq, iEnu, eLenSet, intsOf, wkOf, lsOf, Option.map_some, List.getElem?_cons_zero, List.getElem?_cons_succ, List.set_cons_zero, List.set_cons_succ, List.map_cons, List.map_nil, List.cons_append, List.nil_append, List.append_nil, List.replicate_succ, List.replicate_zero, List.length_cons, List.length_nil, List.filterMap_cons, List.filterMap_nil, if_true, ite_true, ite_false, decide_true, decide_false, Bool.not_true, Bool.not_false, Bool.true_and, Bool.and_true, Bool.false_and, Bool.or_true, Bool.true_or, Bool.false_or, Bool.or_false, decide_eq_true_eq, reduceIte, Nat.reduceAdd, Nat.reduceSub, Nat.reduceMul, Nat.reduceLT, Nat.reduceLeDiff, Int.reduceNeg, Int.reduceLT, Int.reduceLE, Int.reduceAdd, Int.reduceSub, Int.reduceMul, Int.reducePow, Int.reduceToNat, Int.natAbs_natCast, Int.reduceEq, Int.reduceNe, Bool.decide_eq_true, eq_self, reduceCtorEq, Nat.zero_add, Bool.false_eq_true, p0, e1])
  intro n hn
  obtain ⟨m, hm⟩ := key n n (Nat.le_refl _) hn
  have h0 := hm 0
  rw [Nat.zero_add] at h0
  have h0' : sWhile (tBl (eBin dEq (eBin (dMod) (eVar 0) (eVar 1)) (eC (.int 0)))) (sPar 0 2 (aCons (eBin (dFdiv) (eVar 0) (eVar 1)) (aCons (eBin (dAddY gLstD) (eVar 2) (eC (.int 1))) (aNil)))) [some (nI n), some (nI p), some (.int 0)] S = some (.nx, [some (nI m), some (nI p), some (nI (vp p n))], S) := h0
  unfold F__law_often b__law_often
  simp only [eVar, eC, aNil, aCons, eBin, eUn, eArg, eArgK, eIf, tBl, tAnd2, tOr2, tNot2, eAnd2, eOr2, eNot2, eChain, tTru, tTrue, sNil, sSeq, sRet, sRetN, sExpr, sIf, sCont, sBreak, sAsg, gNm, gsNil, gsCons, gTp, sPar, sPar3, gTupD, gLstD, gNewD, aYi, mYR, mYL, dSub_int, dMod_int, dFdiv_int, dLt_int, dLe_int, dGt_int, dGe_int, dEq_int, dNe_int, dEq_str, dNe_str, dEq_bl, dNe_bl, dNeg, dIx_tup, dIx_lst, atI_0, atI_1, atI_2, atI_3, dLen, dInt1, dMax2, dMin2, dAbs, dGcd, dTup, dLst, dIsN, dNotN, eMeth, truD, startR, fRun, permL, eSl, oSome, oNone, iSeq, iEnu, eLenSet, intsOf, wkOf, lsOf, Option.map_some, List.getElem?_cons_zero, List.getElem?_cons_succ, List.set_cons_zero, List.set_cons_succ, List.map_cons, List.map_nil, List.cons_append, List.nil_append, List.append_nil, List.replicate_succ, List.replicate_zero, List.length_cons, List.length_nil, List.filterMap_cons, List.filterMap_nil, if_true, ite_true, ite_false, decide_true, decide_false, Bool.not_true, Bool.not_false, Bool.true_and, Bool.and_true, Bool.false_and, Bool.or_true, Bool.true_or, Bool.false_or, Bool.or_false, decide_eq_true_eq, reduceIte, Nat.reduceAdd, Nat.reduceSub, Nat.reduceMul, Nat.reduceLT, Nat.reduceLeDiff, Int.reduceNeg, Int.reduceLT, Int.reduceLE, Int.reduceAdd, Int.reduceSub, Int.reduceMul, Int.reducePow, Int.reduceToNat, Int.natAbs_natCast, Int.reduceEq, Int.reduceNe, Bool.decide_eq_true, eq_self, reduceCtorEq, Nat.zero_add, Bool.false_eq_true, h0']
theorem s_depth {ss : List Nat} {ws : List D} {i n : Nat} (hi : ss[i]? = some n) (hn : 1 ≤ n) (p : Nat) (hp : 2 ≤ p) (hp9 : p ≤ 1000000) : F_depth [mach ss ws, nI p, nI i] S = some (nI (vp p n), S) := by
  have p0 : (0 : Int) < (p : Int) := by omega
  generalize hM : mach ss ws = M
  have key : ∀ (k n : Nat), n ≤ k → 1 ≤ n → ∃ m : Nat, ∀ f : Nat, sWhile (tBl (eBin dEq (eBin (dMod) (eVar 4) (eVar 1)) (eC (.int 0)))) (sPar 3 4 (aCons (eBin (dAddY gLstD) (eVar 3) (eC (.int 1))) (aCons (eBin (dFdiv) (eVar 4) (eVar 1)) (aNil)))) [some M, some (nI p), some (nI i), some (nI f), some (nI n)] S = some (.nx, [some M, some (nI p), some (nI i), some (nI (f + vp p n)), some (nI m)], S) := by
    intro k
    induction k with
    | zero => intro n h1 h2; omega
    | succ k ih =>
      intro n hk hn
      by_cases hd : n % p = 0
      · have hlt : n / p < n := Nat.div_lt_self hn hp
        have hge : 1 ≤ n / p := Nat.div_pos (Nat.le_of_dvd hn (Nat.dvd_of_mod_eq_zero hd)) (by omega)
        obtain ⟨m, hm⟩ := ih (n / p) (by omega) hge
        refine ⟨m, fun f => ?_⟩
        have e1 : ((n : Int) % (p : Int) = 0) = True := by simp only [eq_iff_iff, iff_true]; omega
        have hw : dFdiv (nI n) (nI p) S = some (nI (n / p), S) := by
          rw [dFdiv_int p0 (by omega)]
          rfl
        refine while_step (S1 := S) (S2 := S) (ρ2 := [some M, some (nI p), some (nI i), some (nI (f + 1)), some (nI (n / p))]) ?_ ?_ ?_
        · simp only [eVar, eC, aNil, aCons, eBin, eUn, eArg, eArgK, eIf, tBl, tAnd2, tOr2, tNot2, eAnd2, eOr2, eNot2, eChain, tTru, tTrue, sNil, sSeq, sRet, sRetN, sExpr, sIf, sCont, sBreak, sAsg, gNm, gsNil, gsCons, gTp, sPar, sPar3, gTupD, gLstD, gNewD, aYi, mYR, mYL, dSub_int, dMod_int, dFdiv_int, dLt_int, dLe_int, dGt_int, dGe_int, dEq_int, dNe_int, dEq_str, dNe_str, dEq_bl, dNe_bl, dNeg, dIx_tup, dIx_lst, atI_0, atI_1, atI_2, atI_3, dLen, dInt1, dMax2, dMin2, dAbs, dGcd, dTup, dLst, dIsN, dNotN, eMeth, truD, startR, fRun, permL, eSl, oSome, oNone, iSeq, iEnu, eLenSet, intsOf, wkOf, lsOf, Option.map_some, List.getElem?_cons_zero, List.getElem?_cons_succ, List.set_cons_zero, List.set_cons_succ, List.map_cons, List.map_nil, List.cons_append, List.nil_append, List.append_nil, List.replicate_succ, List.replicate_zero, List.length_cons, List.length_nil, List.filterMap_cons, List.filterMap_nil, if_true, ite_true, ite_false, decide_true, decide_false, Bool.not_true, Bool.not_false, Bool.true_and, Bool.and_true, Bool.false_and, Bool.or_true, Bool.true_or, Bool.false_or, Bool.or_false, decide_eq_true_eq, reduceIte, Nat.reduceAdd, Nat.reduceSub, Nat.reduceMul, Nat.reduceLT, Nat.reduceLeDiff, Int.reduceNeg, Int.reduceLT, Int.reduceLE, Int.reduceAdd, Int.reduceSub, Int.reduceMul, Int.reducePow, Int.reduceToNat, Int.natAbs_natCast, Int.reduceEq, Int.reduceNe, Bool.decide_eq_true, eq_self, reduceCtorEq, Nat.zero_add, Bool.false_eq_true, p0, e1]
        · simp only [eVar, eC, aNil, aCons, eBin, eUn, eArg, eArgK, eIf, tBl, tAnd2, tOr2, tNot2, eAnd2, eOr2, eNot2, eChain, tTru, tTrue, sNil, sSeq, sRet, sRetN, sExpr, sIf, sCont, sBreak, sAsg, gNm, gsNil, gsCons, gTp, sPar, sPar3, gTupD, gLstD, gNewD, aYi, mYR, mYL, dSub_int, dMod_int, dFdiv_int, dLt_int, dLe_int, dGt_int, dGe_int, dEq_int, dNe_int, dEq_str, dNe_str, dEq_bl, dNe_bl, dNeg, dIx_tup, dIx_lst, atI_0, atI_1, atI_2, atI_3, dLen, dInt1, dMax2, dMin2, dAbs, dGcd, dTup, dLst, dIsN, dNotN, eMeth, truD, startR, fRun, permL, eSl, oSome, oNone, iSeq, iEnu, eLenSet, intsOf, wkOf, lsOf, Option.map_some, List.getElem?_cons_zero, List.getElem?_cons_succ, List.set_cons_zero, List.set_cons_succ, List.map_cons, List.map_nil, List.cons_append, List.nil_append, List.append_nil, List.replicate_succ, List.replicate_zero, List.length_cons, List.length_nil, List.filterMap_cons, List.filterMap_nil, if_true, ite_true, ite_false, decide_true, decide_false, Bool.not_true, Bool.not_false, Bool.true_and, Bool.and_true, Bool.false_and, Bool.or_true, Bool.true_or, Bool.false_or, Bool.or_false, decide_eq_true_eq, reduceIte, Nat.reduceAdd, Nat.reduceSub, Nat.reduceMul, Nat.reduceLT, Nat.reduceLeDiff, Int.reduceNeg, Int.reduceLT, Int.reduceLE, Int.reduceAdd, Int.reduceSub, Int.reduceMul, Int.reducePow, Int.reduceToNat, Int.natAbs_natCast, Int.reduceEq, Int.reduceNe, Bool.decide_eq_true, eq_self, reduceCtorEq, Nat.zero_add, Bool.false_eq_true, p0, hw]
          rfl
        · have := hm (f + 1)
          rw [vp_yes hp hn hd, show f + (vp p (n / p) + 1) = f + 1 + vp p (n / p) by omega]
          exact this
      · refine ⟨n, fun f => ?_⟩
        have e1 : ((n : Int) % (p : Int) = 0) = False := by simp only [eq_iff_iff, iff_false]; omega
        rw [vp_no hd]
        exact while_stop (by simp only [eVar, eC, aNil, aCons, eBin, eUn, eArg, eArgK, eIf, tBl, tAnd2, tOr2, tNot2, eAnd2, eOr2, eNot2, eChain, tTru, tTrue, sNil, sSeq, sRet, sRetN, sExpr, sIf, sCont, sBreak, sAsg, gNm, gsNil, gsCons, gTp, sPar, sPar3, gTupD, gLstD, gNewD, aYi, mYR, mYL, dSub_int, dMod_int, dFdiv_int, dLt_int, dLe_int, dGt_int, dGe_int, dEq_int, dNe_int, dEq_str, dNe_str, dEq_bl, dNe_bl, dNeg, dIx_tup, dIx_lst, atI_0, atI_1, atI_2, atI_3, dLen, dInt1, dMax2, dMin2, dAbs, dGcd, dTup, dLst, dIsN, dNotN, eMeth, truD, startR, fRun, permL, eSl, oSome, oNone, iSeq, iEnu, eLenSet, intsOf, wkOf, lsOf, Option.map_some, List.getElem?_cons_zero, List.getElem?_cons_succ, List.set_cons_zero, List.set_cons_succ, List.map_cons, List.map_nil, List.cons_append, List.nil_append, List.append_nil, List.replicate_succ, List.replicate_zero, List.length_cons, List.length_nil, List.filterMap_cons, List.filterMap_nil, if_true, ite_true, ite_false, decide_true, decide_false, Bool.not_true, Bool.not_false, Bool.true_and, Bool.and_true, Bool.false_and, Bool.or_true, Bool.true_or, Bool.false_or, Bool.or_false, decide_eq_true_eq, reduceIte, Nat.reduceAdd, Nat.reduceSub, Nat.reduceMul, Nat.reduceLT, Nat.reduceLeDiff, Int.reduceNeg, Int.reduceLT, Int.reduceLE, Int.reduceAdd, Int.reduceSub, Int.reduceMul, Int.reducePow, Int.reduceToNat, Int.natAbs_natCast, Int.reduceEq, Int.reduceNe, Bool.decide_eq_true, eq_self, reduceCtorEq, Nat.zero_add, Bool.false_eq_true, p0, e1])
  obtain ⟨m, hm⟩ := key n n (Nat.le_refl _) hn
  have h0 := hm 0
  rw [Nat.zero_add] at h0
  have h0' : sWhile (tBl (eBin dEq (eBin (dMod) (eVar 4) (eVar 1)) (eC (.int 0)))) (sPar 3 4 (aCons (eBin (dAddY gLstD) (eVar 3) (eC (.int 1))) (aCons (eBin (dFdiv) (eVar 4) (eVar 1)) (aNil)))) [some M, some (nI p), some (nI i), some (.int 0), some (nI n)] S = some (.nx, [some M, some (nI p), some (nI i), some (nI (vp p n)), some (nI m)], S) := h0
  have hM0 : dIx M (.int 0) S = some (.tup (ss.map nI), S) := by
    rw [← hM]
    unfold mach
    rw [dIx_tup, Nw.atI_0]
    rfl
  unfold F_depth b_depth
  simp only [eVar, eC, aNil, aCons, eBin, eUn, eArg, eArgK, eIf, tBl, tAnd2, tOr2, tNot2, eAnd2, eOr2, eNot2, eChain, tTru, tTrue, sNil, sSeq, sRet, sRetN, sExpr, sIf, sCont, sBreak, sAsg, gNm, gsNil, gsCons, gTp, sPar, sPar3, gTupD, gLstD, gNewD, aYi, mYR, mYL, dSub_int, dMod_int, dFdiv_int, dLt_int, dLe_int, dGt_int, dGe_int, dEq_int, dNe_int, dEq_str, dNe_str, dEq_bl, dNe_bl, dNeg, dIx_tup, dIx_lst, atI_0, atI_1, atI_2, atI_3, dLen, dInt1, dMax2, dMin2, dAbs, dGcd, dTup, dLst, dIsN, dNotN, eMeth, truD, startR, fRun, permL, eSl, oSome, oNone, iSeq, iEnu, eLenSet, intsOf, wkOf, lsOf, Option.map_some, List.getElem?_cons_zero, List.getElem?_cons_succ, List.set_cons_zero, List.set_cons_succ, List.map_cons, List.map_nil, List.cons_append, List.nil_append, List.append_nil, List.replicate_succ, List.replicate_zero, List.length_cons, List.length_nil, List.filterMap_cons, List.filterMap_nil, if_true, ite_true, ite_false, decide_true, decide_false, Bool.not_true, Bool.not_false, Bool.true_and, Bool.and_true, Bool.false_and, Bool.or_true, Bool.true_or, Bool.false_or, Bool.or_false, decide_eq_true_eq, reduceIte, Nat.reduceAdd, Nat.reduceSub, Nat.reduceMul, Nat.reduceLT, Nat.reduceLeDiff, Int.reduceNeg, Int.reduceLT, Int.reduceLE, Int.reduceAdd, Int.reduceSub, Int.reduceMul, Int.reducePow, Int.reduceToNat, Int.natAbs_natCast, Int.reduceEq, Int.reduceNe, Bool.decide_eq_true, eq_self, reduceCtorEq, Nat.zero_add, Bool.false_eq_true, hM0, at_nI hi, h0']
theorem m_0 {ss : List Nat} {ws : List D} : dIx (mach ss ws) (.int 0) S = some (.tup (ss.map nI), S) := by
  unfold mach
  rw [dIx_tup, Nw.atI_0]
  rfl
theorem m_at {ss : List Nat} {i n : Nat} (h : ss[i]? = some n) : dIx (.tup (ss.map nI)) (nI i) S = some (nI n, S) := by
  rw [dIx_tup, at_nI h]
  rfl
def quo (a b : Nat) : Nat := a / Nat.gcd a b
theorem s_step {ss : List Nat} {ws : List D} {i j a b : Nat} (hi : ss[i]? = some a) (hj : ss[j]? = some b) (ha : 1 ≤ a) (ha2 : a ≤ 1000000000000000000000000000000) : F_step [mach ss ws, nI j, nI i] S = some (nI (quo a b), S) := by
  have hg : 1 ≤ Nat.gcd a b := Nat.gcd_pos_of_pos_left b ha
  have hg2 : Nat.gcd a b ≤ a := Nat.gcd_le_left b ha
  generalize hG : Nat.gcd a b = G at hg hg2
  have hw : dFdiv (nI a) (nI G) S = some (nI (quo a b), S) := by
    rw [dFdiv_int (by omega) (by omega)]
    unfold quo
    rw [hG]
    rfl
  clear hg2 ha2
  have hG' : Nat.gcd (a : Int).natAbs (b : Int).natAbs = G := hG
  unfold F_step b_step
  simp only [eVar, eC, aNil, aCons, eBin, eUn, eArg, eArgK, eIf, tBl, tAnd2, tOr2, tNot2, eAnd2, eOr2, eNot2, eChain, tTru, tTrue, sNil, sSeq, sRet, sRetN, sExpr, sIf, sCont, sBreak, sAsg, gNm, gsNil, gsCons, gTp, sPar, sPar3, gTupD, gLstD, gNewD, aYi, mYR, mYL, dSub_int, dMod_int, dFdiv_int, dLt_int, dLe_int, dGt_int, dGe_int, dEq_int, dNe_int, dEq_str, dNe_str, dEq_bl, dNe_bl, dNeg, dIx_tup, dIx_lst, atI_0, atI_1, atI_2, atI_3, dLen, dInt1, dMax2, dMin2, dAbs, dGcd, dTup, dLst, dIsN, dNotN, eMeth, truD, startR, fRun, permL, eSl, oSome, oNone, iSeq, iEnu, eLenSet, intsOf, wkOf, lsOf, Option.map_some, List.getElem?_cons_zero, List.getElem?_cons_succ, List.set_cons_zero, List.set_cons_succ, List.map_cons, List.map_nil, List.cons_append, List.nil_append, List.append_nil, List.replicate_succ, List.replicate_zero, List.length_cons, List.length_nil, List.filterMap_cons, List.filterMap_nil, if_true, ite_true, ite_false, decide_true, decide_false, Bool.not_true, Bool.not_false, Bool.true_and, Bool.and_true, Bool.false_and, Bool.or_true, Bool.true_or, Bool.false_or, Bool.or_false, decide_eq_true_eq, reduceIte, Nat.reduceAdd, Nat.reduceSub, Nat.reduceMul, Nat.reduceLT, Nat.reduceLeDiff, Int.reduceNeg, Int.reduceLT, Int.reduceLE, Int.reduceAdd, Int.reduceSub, Int.reduceMul, Int.reducePow, Int.reduceToNat, Int.natAbs_natCast, Int.reduceEq, Int.reduceNe, Bool.decide_eq_true, eq_self, reduceCtorEq, Nat.zero_add, Bool.false_eq_true, m_0, m_at hi, m_at hj, hG, hw]
theorem s_lstep {ss : List Nat} {i j a b : Nat} (hi : ss[i]? = some a) (hj : ss[j]? = some b) (ha : 1 ≤ a) (ha2 : a ≤ 1000000000000000000000000000000) : F__law_step [.tup (ss.map nI), nI j, nI i] S = some (nI (quo a b), S) := by
  have hg : 1 ≤ Nat.gcd a b := Nat.gcd_pos_of_pos_left b ha
  have hg2 : Nat.gcd a b ≤ a := Nat.gcd_le_left b ha
  have hc : F__law_common [nI b, nI a] S = some (nI (Nat.gcd a b), S) := s_common S a b
  generalize hG : Nat.gcd a b = G at hg hg2 hc
  have hw : dFdiv (nI a) (nI G) S = some (nI (quo a b), S) := by
    rw [dFdiv_int (by omega) (by omega)]
    unfold quo
    rw [hG]
    rfl
  clear hg2 ha2
  unfold F__law_step b__law_step
  simp only [eVar, eC, aNil, aCons, eBin, eUn, eArg, eArgK, eIf, tBl, tAnd2, tOr2, tNot2, eAnd2, eOr2, eNot2, eChain, tTru, tTrue, sNil, sSeq, sRet, sRetN, sExpr, sIf, sCont, sBreak, sAsg, gNm, gsNil, gsCons, gTp, sPar, sPar3, gTupD, gLstD, gNewD, aYi, mYR, mYL, dSub_int, dMod_int, dFdiv_int, dLt_int, dLe_int, dGt_int, dGe_int, dEq_int, dNe_int, dEq_str, dNe_str, dEq_bl, dNe_bl, dNeg, dIx_tup, dIx_lst, atI_0, atI_1, atI_2, atI_3, dLen, dInt1, dMax2, dMin2, dAbs, dGcd, dTup, dLst, dIsN, dNotN, eMeth, truD, startR, fRun, permL, eSl, oSome, oNone, iSeq, iEnu, eLenSet, intsOf, wkOf, lsOf, Option.map_some, List.getElem?_cons_zero, List.getElem?_cons_succ, List.set_cons_zero, List.set_cons_succ, List.map_cons, List.map_nil, List.cons_append, List.nil_append, List.append_nil, List.replicate_succ, List.replicate_zero, List.length_cons, List.length_nil, List.filterMap_cons, List.filterMap_nil, if_true, ite_true, ite_false, decide_true, decide_false, Bool.not_true, Bool.not_false, Bool.true_and, Bool.and_true, Bool.false_and, Bool.or_true, Bool.true_or, Bool.false_or, Bool.or_false, decide_eq_true_eq, reduceIte, Nat.reduceAdd, Nat.reduceSub, Nat.reduceMul, Nat.reduceLT, Nat.reduceLeDiff, Int.reduceNeg, Int.reduceLT, Int.reduceLE, Int.reduceAdd, Int.reduceSub, Int.reduceMul, Int.reducePow, Int.reduceToNat, Int.natAbs_natCast, Int.reduceEq, Int.reduceNe, Bool.decide_eq_true, eq_self, reduceCtorEq, Nat.zero_add, Bool.false_eq_true, m_at hi, m_at hj, hc, hw]
/-! ### the primes of a machine -/
def due (ss : List Nat) : List Nat := P25.filter fun p => ss.any fun n => n % p == 0
theorem due_P25 {ss : List Nat} {p : Nat} (h : p ∈ due ss) : p ∈ P25 := (List.mem_filter.mp h).1
theorem due_nodup (ss : List Nat) : (due ss).Nodup := List.Nodup.sublist List.filter_sublist (by decide)
theorem due_len (ss : List Nat) : (due ss).length ≤ 25 := List.length_filter_le _ _
theorem due_mem {ss : List Nat} {p n : Nat} (hp : p ∈ P25) (hn : n ∈ ss) (h : p ∣ n) : p ∈ due ss := List.mem_filter.mpr ⟨hp, List.any_eq_true.mpr ⟨n, hn, by simpa using Nat.mod_eq_zero_of_dvd h⟩⟩
theorem p25_int : ([2, 3, 5, 7, 11, 13, 17, 19, 23, 29, 31, 37, 41, 43, 47, 53, 59, 61, 67, 71, 73, 79, 83, 89, 97] : List Int).map D.int = P25.map nI := by
  have e : ([2, 3, 5, 7, 11, 13, 17, 19, 23, 29, 31, 37, 41, 43, 47, 53, 59, 61, 67, 71, 73, 79, 83, 89, 97] : List Int) = P25.map fun (n : Nat) => (n : Int) := by decide
  rw [e, List.map_map]
  rfl
theorem any_mod (ss : List Nat) (p : Nat) : decide ((0 : Int) ∈ ss.map fun (n : Nat) => ((n : Int) % (p : Int))) = ss.any fun n => n % p == 0 := by
  rw [Bool.eq_iff_iff, decide_eq_true_iff, List.any_eq_true, List.mem_map]
  constructor
  · rintro ⟨n, hn, h⟩
    exact ⟨n, hn, by simp only [beq_iff_eq]; omega⟩
  · rintro ⟨n, hn, h⟩
    simp only [beq_iff_eq] at h
    exact ⟨n, hn, by omega⟩
theorem in_lints {x : Int} {l : List Int} : dIn (.int x) (.lst (l.map D.int)) S = some (.bl (decide (x ∈ l)), S) := by
  have e : wkOf (.lst (l.map D.int)) S = some ⟨l.map D.int, fun _ => True⟩ := rfl
  unfold dIn
  rw [e]
  have e2 : rdD S (.int x) = .int x := rfl
  dsimp only
  rw [e2, if_pos (cl_yes (by rw [okD_int, shaped_ints]; rfl)), inD_ints]
theorem ne_nil {l : List Int} : dNe (.lst (l.map D.int)) (.lst []) S = some (.bl (!decide (l = [])), S) := by
  have e1 : okD (.lst (l.map D.int)) = true := okD_lints l
  have e2 : okD (.lst []) = true := okD_lints []
  have e3 : eqD (.lst (l.map D.int)) (.lst []) = decide (l = []) := by
    have := eqvAll_ints l []
    simp only [List.map_nil, toPys] at this
    unfold eqD
    simp only [toPy, PyData.eqv, toPys]
    exact this
  show (if cl ((okD (.lst (l.map D.int)) && okD (.lst [])) = true) = true then some (D.bl (!eqD (.lst (l.map D.int)) (.lst [])), S) else none) = _
  rw [e1, e2, if_pos (cl_yes (p := (true && true) = true) rfl), e3]
theorem app_end {l : List D} {d : D} (h : l.length < 1000000) : dAppend (.ref S.length) [d] (S ++ [O.lst l]) = some (.non, S ++ [O.lst (l ++ [d])]) := by
  have e : (S ++ [O.lst l])[S.length]? = some (O.lst l) := by simp
  have e2 : (S ++ [O.lst l]).set S.length (O.lst (l ++ [d])) = S ++ [O.lst (l ++ [d])] := by simp
  unfold dAppend
  simp only [e]
  rw [if_pos (by rw [sizeLine_eq]; omega), e2]
theorem s_primes_of (ss : List Nat) (ws : List D) (hl : ss.length ≤ 1000) : F_primes_of [mach ss ws] S = some (.tup ((due ss).map nI), S ++ [.lst ((due ss).map nI)]) := by
  generalize hM : mach ss ws = M
  have hM0 : ∀ S, dIx M (.int 0) S = some (.tup (ss.map nI), S) := fun S => by rw [← hM]; exact m_0
  have hloop := forL_run (gd := fun _ => True) (g := gNm 2) (b := sIf (tBl (eBin dIn (eC (.int 0)) (eArg gLstD (fLc (iSeq (eBin dIx (eVar 0) (eC (.int 0)))) (gNm 3) (tTrue) (eBin (dMod) (eVar 3) (eVar 2)) [3])))) (sExpr (eMeth dAppend (eVar 1) (aCons (eVar 2) (aNil)))) (sNil)) (P25.map nI)
    (fun j ρ S' => ∃ (z1 z2 : Option D), ρ = [some M, some (.ref S.length), z1, z2] ∧ S' = S ++ [.lst (((P25.take j).filter fun p => ss.any fun n => n % p == 0).map nI)])
    [some M, some (.ref S.length), none, none] (S ++ [.lst []]) ⟨_, _, rfl, rfl⟩
    (fun j d ρ S' hj ⟨z1, z2, hρ, hS⟩ => by
      subst hρ hS
      obtain ⟨p, hp, rfl⟩ : ∃ p, P25[j]? = some p ∧ d = nI p := by
        rw [List.getElem?_map] at hj
        cases q : P25[j]? with
        | none => rw [q] at hj; cases hj
        | some p => rw [q] at hj; exact ⟨p, rfl, (Option.some.inj hj).symm⟩
      have hpP : p ∈ P25 := List.mem_of_getElem? hp
      have p0 : (0 : Int) < (p : Int) := by have := p25_2 hpP; omega
      have htake : P25.take (j + 1) = P25.take j ++ [p] := by
        rw [List.take_succ, hp]
        rfl
      generalize hT : S ++ [O.lst (((P25.take j).filter fun p => ss.any fun n => n % p == 0).map nI)] = T
      have h1 : iSeq (eBin dIx (eVar 0) (eC (.int 0))) [some M, some (.ref S.length), some (nI p), z2] T = some (⟨ss.map nI, fun _ => True⟩, T) := by
        simp only [eVar, eC, aNil, aCons, eBin, eUn, eArg, eArgK, eIf, tBl, tAnd2, tOr2, tNot2, eAnd2, eOr2, eNot2, eChain, tTru, tTrue, sNil, sSeq, sRet, sRetN, sExpr, sIf, sCont, sBreak, sAsg, gNm, gsNil, gsCons, gTp, sPar, sPar3, gTupD, gLstD, gNewD, aYi, mYR, mYL, dSub_int, dMod_int, dFdiv_int, dLt_int, dLe_int, dGt_int, dGe_int, dEq_int, dNe_int, dEq_str, dNe_str, dEq_bl, dNe_bl, dNeg, dIx_tup, dIx_lst, atI_0, atI_1, atI_2, atI_3, dLen, dInt1, dMax2, dMin2, dAbs, dGcd, dTup, dLst, dIsN, dNotN, eMeth, truD, startR, fRun, permL, eSl, oSome, oNone, iSeq, iEnu, eLenSet, intsOf, wkOf, lsOf, Option.map_some, List.getElem?_cons_zero, List.getElem?_cons_succ, List.set_cons_zero, List.set_cons_succ, List.map_cons, List.map_nil, List.cons_append, List.nil_append, List.append_nil, List.replicate_succ, List.replicate_zero, List.length_cons, List.length_nil, List.filterMap_cons, List.filterMap_nil, if_true, ite_true, ite_false, decide_true, decide_false, Bool.not_true, Bool.not_false, Bool.true_and, Bool.and_true, Bool.false_and, Bool.or_true, Bool.true_or, Bool.false_or, Bool.or_false, decide_eq_true_eq, reduceIte, Nat.reduceAdd, Nat.reduceSub, Nat.reduceMul, Nat.reduceLT, Nat.reduceLeDiff, Int.reduceNeg, Int.reduceLT, Int.reduceLE, Int.reduceAdd, Int.reduceSub, Int.reduceMul, Int.reducePow, Int.reduceToNat, Int.natAbs_natCast, Int.reduceEq, Int.reduceNe, Bool.decide_eq_true, eq_self, reduceCtorEq, Nat.zero_add, Bool.false_eq_true, hM0]
      have h2 : fLc (iSeq (eBin dIx (eVar 0) (eC (.int 0)))) (gNm 3) (tTrue) (eBin (dMod) (eVar 3) (eVar 2)) [3] [some M, some (.ref S.length), some (nI p), z2] T = some ((ss.map fun (n : Nat) => ((n : Int) % (p : Int))).map D.int, T) := by
        rw [fLc_eq h1 (by rw [List.length_map, sizeLine_eq]; omega)]
        have := lcR_pure (gd := fun _ => True) (g := gNm 3) (t := tTrue) (e := eBin (dMod) (eVar 3) (eVar 2)) (ρ := wipeR [some M, some (.ref S.length), some (nI p), z2] [3]) (S := T) (fun _ => true) (fun d => match d with
          | .int i => .int (i % (p : Int))
          | d => d) trivial (ss.map nI) (fun d hd => by
          obtain ⟨n, _, rfl⟩ := List.mem_map.mp hd
          refine ⟨_, rfl, rfl, fun _ => ?_⟩
          simp only [eVar, eC, aNil, aCons, eBin, eUn, eArg, eArgK, eIf, tBl, tAnd2, tOr2, tNot2, eAnd2, eOr2, eNot2, eChain, tTru, tTrue, sNil, sSeq, sRet, sRetN, sExpr, sIf, sCont, sBreak, sAsg, gNm, gsNil, gsCons, gTp, sPar, sPar3, gTupD, gLstD, gNewD, aYi, mYR, mYL, dSub_int, dMod_int, dFdiv_int, dLt_int, dLe_int, dGt_int, dGe_int, dEq_int, dNe_int, dEq_str, dNe_str, dEq_bl, dNe_bl, dNeg, dIx_tup, dIx_lst, atI_0, atI_1, atI_2, atI_3, dLen, dInt1, dMax2, dMin2, dAbs, dGcd, dTup, dLst, dIsN, dNotN, eMeth, truD, startR, fRun, permL, eSl, oSome, oNone, iSeq, iEnu, eLenSet, intsOf, wkOf, lsOf, Option.map_some, List.getElem?_cons_zero, List.getElem?_cons_succ, List.set_cons_zero, List.set_cons_succ, List.map_cons, List.map_nil, List.cons_append, List.nil_append, List.append_nil, List.replicate_succ, List.replicate_zero, List.length_cons, List.length_nil, List.filterMap_cons, List.filterMap_nil, if_true, ite_true, ite_false, decide_true, decide_false, Bool.not_true, Bool.not_false, Bool.true_and, Bool.and_true, Bool.false_and, Bool.or_true, Bool.true_or, Bool.false_or, Bool.or_false, decide_eq_true_eq, reduceIte, Nat.reduceAdd, Nat.reduceSub, Nat.reduceMul, Nat.reduceLT, Nat.reduceLeDiff, Int.reduceNeg, Int.reduceLT, Int.reduceLE, Int.reduceAdd, Int.reduceSub, Int.reduceMul, Int.reducePow, Int.reduceToNat, Int.natAbs_natCast, Int.reduceEq, Int.reduceNe, Bool.decide_eq_true, eq_self, reduceCtorEq, Nat.zero_add, Bool.false_eq_true, wipeR, p0])
        rw [this, List.filter_eq_self.mpr fun _ _ => rfl, List.map_map, List.map_map]
        rfl
      refine ⟨trivial, _, _, rfl, ?_⟩
      rw [List.set_cons_succ, List.set_cons_succ, List.set_cons_zero]
      cases ha : ss.any fun n => n % p == 0 with
      | true =>
        refine ⟨.nx, [some M, some (.ref S.length), some (nI p), z2], S ++ [.lst (((P25.take (j + 1)).filter fun p => ss.any fun n => n % p == 0).map nI)], ?_, .inl rfl, _, _, rfl, rfl⟩
        have hap : dAppend (.ref S.length) [nI p] T = some (.non, S ++ [.lst (((P25.take (j + 1)).filter fun p => ss.any fun n => n % p == 0).map nI)]) := by
          rw [← hT, app_end (by
            rw [List.length_map]
            have h3 := List.length_filter_le (fun p => ss.any fun n => n % p == 0) (P25.take j)
            have h4 : (P25.take j).length ≤ 25 := by rw [List.length_take]; exact Nat.min_le_right _ _
            omega), htake, List.filter_append, List.map_append]
          have h5 : List.filter (fun p => ss.any fun n => n % p == 0) [p] = [p] := by simp only [List.filter_cons, ha, List.filter_nil, if_true]
          rw [h5]
          rfl
        simp only [eVar, eC, aNil, aCons, eBin, eUn, eArg, eArgK, eIf, tBl, tAnd2, tOr2, tNot2, eAnd2, eOr2, eNot2, eChain, tTru, tTrue, sNil, sSeq, sRet, sRetN, sExpr, sIf, sCont, sBreak, sAsg, gNm, gsNil, gsCons, gTp, sPar, sPar3, gTupD, gLstD, gNewD, aYi, mYR, mYL, dSub_int, dMod_int, dFdiv_int, dLt_int, dLe_int, dGt_int, dGe_int, dEq_int, dNe_int, dEq_str, dNe_str, dEq_bl, dNe_bl, dNeg, dIx_tup, dIx_lst, atI_0, atI_1, atI_2, atI_3, dLen, dInt1, dMax2, dMin2, dAbs, dGcd, dTup, dLst, dIsN, dNotN, eMeth, truD, startR, fRun, permL, eSl, oSome, oNone, iSeq, iEnu, eLenSet, intsOf, wkOf, lsOf, Option.map_some, List.getElem?_cons_zero, List.getElem?_cons_succ, List.set_cons_zero, List.set_cons_succ, List.map_cons, List.map_nil, List.cons_append, List.nil_append, List.append_nil, List.replicate_succ, List.replicate_zero, List.length_cons, List.length_nil, List.filterMap_cons, List.filterMap_nil, if_true, ite_true, ite_false, decide_true, decide_false, Bool.not_true, Bool.not_false, Bool.true_and, Bool.and_true, Bool.false_and, Bool.or_true, Bool.true_or, Bool.false_or, Bool.or_false, decide_eq_true_eq, reduceIte, Nat.reduceAdd, Nat.reduceSub, Nat.reduceMul, Nat.reduceLT, Nat.reduceLeDiff, Int.reduceNeg, Int.reduceLT, Int.reduceLE, Int.reduceAdd, Int.reduceSub, Int.reduceMul, Int.reducePow, Int.reduceToNat, Int.natAbs_natCast, Int.reduceEq, Int.reduceNe, Bool.decide_eq_true, eq_self, reduceCtorEq, Nat.zero_add, Bool.false_eq_true, h2, in_lints, any_mod, ha, hap]
      | false =>
        refine ⟨.nx, [some M, some (.ref S.length), some (nI p), z2], T, ?_, .inl rfl, _, _, rfl, ?_⟩
        · simp only [eVar, eC, aNil, aCons, eBin, eUn, eArg, eArgK, eIf, tBl, tAnd2, tOr2, tNot2, eAnd2, eOr2, eNot2, eChain, tTru, tTrue, sNil, sSeq, sRet, sRetN, sExpr, sIf, sCont, sBreak, sAsg, gNm, gsNil, gsCons, gTp, sPar, sPar3, gTupD, gLstD, gNewD, aYi, mYR, mYL, dSub_int, dMod_int, dFdiv_int, dLt_int, dLe_int, dGt_int, dGe_int, dEq_int, dNe_int, dEq_str, dNe_str, dEq_bl, dNe_bl, dNeg, dIx_tup, dIx_lst, atI_0, atI_1, atI_2, atI_3, dLen, dInt1, dMax2, dMin2, dAbs, dGcd, dTup, dLst, dIsN, dNotN, eMeth, truD, startR, fRun, permL, eSl, oSome, oNone, iSeq, iEnu, eLenSet, intsOf, wkOf, lsOf, Option.map_some, List.getElem?_cons_zero, List.getElem?_cons_succ, List.set_cons_zero, List.set_cons_succ, List.map_cons, List.map_nil, List.cons_append, List.nil_append, List.append_nil, List.replicate_succ, List.replicate_zero, List.length_cons, List.length_nil, List.filterMap_cons, List.filterMap_nil, if_true, ite_true, ite_false, decide_true, decide_false, Bool.not_true, Bool.not_false, Bool.true_and, Bool.and_true, Bool.false_and, Bool.or_true, Bool.true_or, Bool.false_or, Bool.or_false, decide_eq_true_eq, reduceIte, Nat.reduceAdd, Nat.reduceSub, Nat.reduceMul, Nat.reduceLT, Nat.reduceLeDiff, Int.reduceNeg, Int.reduceLT, Int.reduceLE, Int.reduceAdd, Int.reduceSub, Int.reduceMul, Int.reducePow, Int.reduceToNat, Int.natAbs_natCast, Int.reduceEq, Int.reduceNe, Bool.decide_eq_true, eq_self, reduceCtorEq, Nat.zero_add, Bool.false_eq_true, h2, in_lints, any_mod, ha]
        · have h5 : List.filter (fun p => ss.any fun n => n % p == 0) [p] = [] := by simp only [List.filter_cons, ha, List.filter_nil, Bool.false_eq_true, if_false]
          rw [← hT, htake, List.filter_append, h5, List.append_nil])
    (fun _ _ _ => trivial)
  obtain ⟨ρ', S', hl, z1, z2, hρ, hS⟩ := hloop
  subst hρ hS
  have hall : P25.take (P25.map nI).length = P25 := by rw [List.length_map]; exact List.take_length
  rw [hall] at hl
  have hl' : forL (fun _ => True) (gNm 2) (sIf (tBl (eBin dIn (eC (.int 0)) (eArg gLstD (fLc (iSeq (eBin dIx (eVar 0) (eC (.int 0)))) (gNm 3) (tTrue) (eBin (dMod) (eVar 3) (eVar 2)) [3])))) (sExpr (eMeth dAppend (eVar 1) (aCons (eVar 2) (aNil)))) (sNil)) (P25.map nI) [some M, some (.ref S.length), none, none] (S ++ [.lst []]) = some (.nx, [some M, some (.ref S.length), z1, z2], S ++ [.lst ((due ss).map nI)]) := hl
  have hat : (S ++ [O.lst ((due ss).map nI)])[S.length]? = some (O.lst ((due ss).map nI)) := by simp
  unfold F_primes_of b_primes_of
  rw [p25_int]
  generalize P25.map nI = LP at hl'
  simp only [eVar, eC, aNil, aCons, eBin, eUn, eArg, eArgK, eIf, tBl, tAnd2, tOr2, tNot2, eAnd2, eOr2, eNot2, eChain, tTru, tTrue, sNil, sSeq, sRet, sRetN, sExpr, sIf, sCont, sBreak, sAsg, gNm, gsNil, gsCons, gTp, sPar, sPar3, gTupD, gLstD, gNewD, aYi, mYR, mYL, dSub_int, dMod_int, dFdiv_int, dLt_int, dLe_int, dGt_int, dGe_int, dEq_int, dNe_int, dEq_str, dNe_str, dEq_bl, dNe_bl, dNeg, dIx_tup, dIx_lst, atI_0, atI_1, atI_2, atI_3, dLen, dInt1, dMax2, dMin2, dAbs, dGcd, dTup, dLst, dIsN, dNotN, eMeth, truD, startR, fRun, permL, eSl, oSome, oNone, iSeq, iEnu, eLenSet, intsOf, wkOf, lsOf, Option.map_some, List.getElem?_cons_zero, List.getElem?_cons_succ, List.set_cons_zero, List.set_cons_succ, List.map_cons, List.map_nil, List.cons_append, List.nil_append, List.append_nil, List.replicate_succ, List.replicate_zero, List.length_cons, List.length_nil, List.filterMap_cons, List.filterMap_nil, if_true, ite_true, ite_false, decide_true, decide_false, Bool.not_true, Bool.not_false, Bool.true_and, Bool.and_true, Bool.false_and, Bool.or_true, Bool.true_or, Bool.false_or, Bool.or_false, decide_eq_true_eq, reduceIte, Nat.reduceAdd, Nat.reduceSub, Nat.reduceMul, Nat.reduceLT, Nat.reduceLeDiff, Int.reduceNeg, Int.reduceLT, Int.reduceLE, Int.reduceAdd, Int.reduceSub, Int.reduceMul, Int.reducePow, Int.reduceToNat, Int.natAbs_natCast, Int.reduceEq, Int.reduceNe, Bool.decide_eq_true, eq_self, reduceCtorEq, Nat.zero_add, Bool.false_eq_true, sFor, hl', hat]
end
end Gk02
namespace Gk02
open PySem PySem.Spec PyProof.Rows L2 Nw
/-! ### steps as numbers -/
section
variable {a b c p : Nat}
theorem quo_mul (a b : Nat) : quo a b * Nat.gcd a b = a := Nat.div_mul_cancel (Nat.gcd_dvd_left a b)
theorem quo_pos (ha : 1 ≤ a) : 1 ≤ quo a b := Nat.div_pos (Nat.le_of_dvd ha (Nat.gcd_dvd_left a b)) (Nat.gcd_pos_of_pos_left b ha)
theorem quo_le : quo a b ≤ a := Nat.div_le_self _ _
/-- a divides m times b exactly if the quotient divides m -/
theorem quo_dvd (ha : 1 ≤ a) (m : Nat) : a ∣ m * b ↔ quo a b ∣ m := by
  have hg : 1 ≤ Nat.gcd a b := Nat.gcd_pos_of_pos_left b ha
  obtain ⟨b', hb'⟩ := Nat.gcd_dvd_right a b
  have hco : Nat.Coprime (quo a b) (b / Nat.gcd a b) := Nat.coprime_div_gcd_div_gcd hg
  have e1 := quo_mul a b
  have e2 : b / Nat.gcd a b * Nat.gcd a b = b := Nat.div_mul_cancel (Nat.gcd_dvd_right a b)
  constructor
  · intro h
    have h1 : quo a b * Nat.gcd a b ∣ m * (b / Nat.gcd a b) * Nat.gcd a b := by rw [Nat.mul_assoc, e1, e2]; exact h
    exact Nat.Coprime.dvd_of_dvd_mul_right hco (Nat.dvd_of_mul_dvd_mul_right hg h1)
  · rintro ⟨k, rfl⟩
    refine ⟨k * (b / Nat.gcd a b), ?_⟩
    have h2 : quo a b * k * b = quo a b * k * (b / Nat.gcd a b * Nat.gcd a b) := by rw [e2]
    have h3 : a * (k * (b / Nat.gcd a b)) = quo a b * Nat.gcd a b * (k * (b / Nat.gcd a b)) := by rw [e1]
    rw [h2, h3]
    simp only [Nat.mul_assoc, Nat.mul_comm, Nat.mul_left_comm]
theorem quo_least (ha : 1 ≤ a) (hp : 2 ≤ p) (h1 : quo a b % p = 0) : quo a b / p * b % a ≠ 0 := by
  intro h
  have hd := (quo_dvd ha _).mp (Nat.dvd_of_mod_eq_zero h)
  have hq := quo_pos (b := b) ha
  have hlt : quo a b / p < quo a b := Nat.div_lt_self hq hp
  have hpos : 1 ≤ quo a b / p := Nat.div_pos (Nat.le_of_dvd hq (Nat.dvd_of_mod_eq_zero h1)) (by omega)
  have := Nat.le_of_dvd hpos hd
  omega
theorem quo_all (ha : 1 ≤ a) : quo a b * b % a = 0 := Nat.mod_eq_zero_of_dvd ((quo_dvd ha _).mpr (Nat.dvd_refl _))
theorem quo_one (ha : 1 ≤ a) : quo a b = 1 ↔ b % a = 0 := by
  constructor
  · intro h
    have := quo_all (b := b) ha
    rwa [h, Nat.one_mul] at this
  · intro h
    have := (quo_dvd (b := b) ha 1).mp (by rw [Nat.one_mul]; exact Nat.dvd_of_mod_eq_zero h)
    exact Nat.dvd_one.mp this
theorem quo_self (ha : 1 ≤ a) : quo a b = a ↔ Nat.gcd a b = 1 := by
  have e := quo_mul a b
  constructor
  · intro h
    rw [h] at e
    exact Nat.eq_of_mul_eq_mul_left (show 0 < a by omega) (by rw [e, Nat.mul_one])
  · intro h
    rw [h, Nat.mul_one] at e
    exact e
theorem quo_two (hb : 1 ≤ b) (hc : 1 ≤ c) (a : Nat) : quo b a * quo c b % quo c a = 0 := by
  refine Nat.mod_eq_zero_of_dvd ((quo_dvd hc _).mp ?_)
  have h1 : b ∣ quo b a * a := (quo_dvd hb _).mpr (Nat.dvd_refl _)
  have h2 : c ∣ quo c b * b := (quo_dvd hc _).mpr (Nat.dvd_refl _)
  have h3 : quo b a * quo c b * a = quo c b * (quo b a * a) := by simp only [Nat.mul_assoc, Nat.mul_comm, Nat.mul_left_comm]
  rw [h3]
  exact Nat.dvd_trans h2 (Nat.mul_dvd_mul_left _ h1)
theorem vp_small {n : Nat} (hp : 2 ≤ p) (hn : 1 ≤ n) (h : n ≤ 1000000000000000000000000000000) : vp p n ≤ 100 := by
  rcases Nat.lt_or_ge 100 (vp p n) with q | q
  · have h1 := Nat.le_of_dvd hn ((pow_dvd_vp hp _ n hn).mpr (Nat.le_refl _))
    have h2 : 2 ^ vp p n ≤ p ^ vp p n := Nat.pow_le_pow_left hp _
    have h3 : 2 ^ 101 ≤ 2 ^ vp p n := Nat.pow_le_pow_right (by decide) q
    have h4 : (2 : Nat) ^ 101 = 2535301200456458802993406410752 := by decide +kernel
    omega
  · exact q
theorem pprod_app (n : Nat) : ∀ (l : List Nat) (p : Nat), pprod n (l ++ [p]) = pprod n l * p ^ vp p n
  | [], p => by simp [pprod]
  | q :: l, p => by
    show q ^ vp q n * pprod n (l ++ [p]) = q ^ vp q n * pprod n l * p ^ vp p n
    rw [pprod_app n l p, Nat.mul_assoc]
end
section
variable {S : Sto}
theorem fit_nI {n B k : Nat} (h : n < 10 ^ B) : fit B k (nI n) = true := by
  cases k <;> simpa [fit] using h
theorem fits_nI {l : List Nat} {B k : Nat} (h : ∀ n ∈ l, n < 10 ^ B) : fits B k (l.map nI) = true := by
  rw [fits_all, List.all_eq_true]
  intro d hd
  obtain ⟨n, hn, rfl⟩ := List.mem_map.mp hd
  exact fit_nI (h n hn)
theorem nodess_nI (l : List Nat) : nodess (l.map nI) = l.length := by
  induction l with
  | nil => simp [nodess]
  | cons i l ih => simp [nodess, nodes, ih]; omega
theorem repr_lst {l : List D} (h : fits 40 3 l = true) (hc : nodess l ≤ 100000) : dRepr [.lst l] S = some (.str (toPy (.lst l)).shown, S) := by
  refine repr_ok (B := 40) (n := 4) (by decide) (by decide) ?_ (by decide) ?_
  · show fit 40 (3 + 1) (.lst l) = true
    rw [fit]
    exact h
  · show (40 + 12) * nodes (.lst l) ≤ 16000000
    rw [nodes]
    omega
theorem repr_two {a b : Nat} (ha : a < 10 ^ 40) (hb : b < 10 ^ 40) : dRepr [.lst [nI a, nI b]] S = some (.str (toPy (.lst [nI a, nI b])).shown, S) := by
  refine repr_lst ?_ ?_
  · rw [fits, fits, fits, fit_nI ha, fit_nI hb]
    rfl
  · show 1 + (1 + 0) ≤ 100000
    decide
theorem big40 {n : Nat} (h : n ≤ 1000000000000000000000000000000) : n < 10 ^ 40 := by
  have : (10 : Nat) ^ 40 = 10000000000000000000000000000000000000000 := by decide +kernel
  omega
structure Mc (ss : List Nat) : Prop where
  l0 : 1 ≤ ss.length
  l1 : ss.length ≤ 6
  smo : ∀ n ∈ ss, Smo n ∧ 2 ≤ n ∧ n ≤ 1000000000000000000000000000000
theorem due_comp {ss : List Nat} (hl : ss.length ≤ 1000) {ρ : Rho} (h9 : ρ.length = 9) (h1 : ρ[1]? = some (some (.tup (ss.map nI)))) : fLc (iSeq (eArg F__law_primes aNil)) (gNm 6) (tBl (eBin dNe (eArg gLstD (fLc (iSeq (eVar 1)) (gNm 4) (tBl (eBin dEq (eBin (dMod) (eVar 4) (eVar 6)) (eC (.int 0)))) (eC (.int 1)) [4])) (eArg gLstD (aNil)))) (eVar 6) [6] ρ S = some ((due ss).map nI, S) := by
  have e1 : iSeq (eArg F__law_primes aNil) ρ S = some (⟨P25.map nI, fun _ => True⟩, S) := by
    rw [← p25_int]
    rfl
  rw [fLc_eq e1 (by rw [List.length_map, sizeLine_eq]; decide)]
  obtain ⟨r0, r1, r2, r3, r4, r5, r6, r7, r8, rfl⟩ : ∃ r0 r1 r2 r3 r4 r5 r6 r7 r8, ρ = [r0, r1, r2, r3, r4, r5, r6, r7, r8] := by
    match ρ, h9 with
    | [r0, r1, r2, r3, r4, r5, r6, r7, r8], _ => exact ⟨_, _, _, _, _, _, _, _, _, rfl⟩
  have h1' : r1 = some (.tup (ss.map nI)) := Option.some.inj h1
  subst h1'
  have := lcR_pure (gd := fun _ => True) (g := gNm 6) (t := tBl (eBin dNe (eArg gLstD (fLc (iSeq (eVar 1)) (gNm 4) (tBl (eBin dEq (eBin (dMod) (eVar 4) (eVar 6)) (eC (.int 0)))) (eC (.int 1)) [4])) (eArg gLstD (aNil)))) (e := eVar 6) (ρ := wipeR [r0, some (.tup (ss.map nI)), r2, r3, r4, r5, r6, r7, r8] [6]) (S := S) (fun d => match d with
    | .int i => ss.any fun n => n % i.toNat == 0
    | _ => false) id trivial (P25.map nI) (fun d hd => by
    obtain ⟨p, hp, rfl⟩ := List.mem_map.mp hd
    have p0 : (0 : Int) < (p : Int) := by have := p25_2 hp; omega
    refine ⟨_, rfl, ?_, fun _ => rfl⟩
    have e2 : fLc (iSeq (eVar 1)) (gNm 4) (tBl (eBin dEq (eBin (dMod) (eVar 4) (eVar 6)) (eC (.int 0)))) (eC (.int 1)) [4] [r0, some (.tup (ss.map nI)), r2, r3, r4, r5, some (nI p), r7, r8] S = some (((ss.filter fun n => n % p == 0).map fun _ => (1 : Int)).map D.int, S) := by
      rw [fLc_eq (k := ⟨ss.map nI, fun _ => True⟩) (S1 := S) rfl (by rw [List.length_map, sizeLine_eq]; omega)]
      have := lcR_pure (gd := fun _ => True) (g := gNm 4) (t := tBl (eBin dEq (eBin (dMod) (eVar 4) (eVar 6)) (eC (.int 0)))) (e := eC (.int 1)) (ρ := wipeR [r0, some (.tup (ss.map nI)), r2, r3, r4, r5, some (nI p), r7, r8] [4]) (S := S) (fun d => match d with
        | .int i => decide (i % (p : Int) = 0)
        | _ => false) (fun _ => .int 1) trivial (ss.map nI) (fun d hd => by
        obtain ⟨n, _, rfl⟩ := List.mem_map.mp hd
        refine ⟨_, rfl, ?_, fun _ => rfl⟩
        simp only [eVar, eC, aNil, aCons, eBin, eUn, eArg, eArgK, eIf, tBl, tAnd2, tOr2, tNot2, eAnd2, eOr2, eNot2, eChain, tTru, tTrue, sNil, sSeq, sRet, sRetN, sExpr, sIf, sCont, sBreak, sAsg, gNm, gsNil, gsCons, gTp, sPar, sPar3, gTupD, gLstD, gNewD, aYi, mYR, mYL, dSub_int, dMod_int, dFdiv_int, dLt_int, dLe_int, dGt_int, dGe_int, dEq_int, dNe_int, dEq_str, dNe_str, dEq_bl, dNe_bl, dNeg, dIx_tup, dIx_lst, atI_0, atI_1, atI_2, atI_3, dLen, dInt1, dMax2, dMin2, dAbs, dGcd, dTup, dLst, dIsN, dNotN, eMeth, truD, startR, fRun, permL, eSl, oSome, oNone, iSeq, iEnu, eLenSet, intsOf, wkOf, lsOf, Option.map_some, List.getElem?_cons_zero, List.getElem?_cons_succ, List.set_cons_zero, List.set_cons_succ, List.map_cons, List.map_nil, List.cons_append, List.nil_append, List.append_nil, List.replicate_succ, List.replicate_zero, List.length_cons, List.length_nil, List.filterMap_cons, List.filterMap_nil, if_true, ite_true, ite_false, decide_true, decide_false, Bool.not_true, Bool.not_false, Bool.true_and, Bool.and_true, Bool.false_and, Bool.or_true, Bool.true_or, Bool.false_or, Bool.or_false, decide_eq_true_eq, reduceIte, Nat.reduceAdd, Nat.reduceSub, Nat.reduceMul, Nat.reduceLT, Nat.reduceLeDiff, Int.reduceNeg, Int.reduceLT, Int.reduceLE, Int.reduceAdd, Int.reduceSub, Int.reduceMul, Int.reducePow, Int.reduceToNat, Int.natAbs_natCast, Int.reduceEq, Int.reduceNe, Bool.decide_eq_true, eq_self, reduceCtorEq, Nat.zero_add, Bool.false_eq_true, wipeR, p0])
      rw [this, List.filter_map, List.map_map, List.map_map]
      have e3 : ((fun d => match d with
        | .int i => decide (i % (p : Int) = 0)
        | _ => false) ∘ nI) = fun n => n % p == 0 := by
        funext n
        show decide ((n : Int) % (p : Int) = 0) = (n % p == 0)
        rw [Bool.eq_iff_iff, decide_eq_true_iff, beq_iff_eq]
        omega
      rw [e3]
      rfl
    have e4 : (((ss.filter fun n => n % p == 0).map fun _ => (1 : Int)) = []) = ((ss.any fun n => n % p == 0) = false) := by
      rw [List.map_eq_nil_iff, List.filter_eq_nil_iff, List.any_eq_false]
    have e5 : (!decide (((ss.filter fun n => n % p == 0).map fun _ => (1 : Int)) = [])) = ss.any fun n => n % p == 0 := by
      have e6 : decide (((ss.filter fun n => n % p == 0).map fun _ => (1 : Int)) = []) = decide ((ss.any fun n => n % p == 0) = false) := by
        congr 1
      rw [e6]
      cases ss.any fun n => n % p == 0 <;> rfl
    simp only [eVar, eC, aNil, aCons, eBin, eUn, eArg, eArgK, eIf, tBl, tAnd2, tOr2, tNot2, eAnd2, eOr2, eNot2, eChain, tTru, tTrue, sNil, sSeq, sRet, sRetN, sExpr, sIf, sCont, sBreak, sAsg, gNm, gsNil, gsCons, gTp, sPar, sPar3, gTupD, gLstD, gNewD, aYi, mYR, mYL, dSub_int, dMod_int, dFdiv_int, dLt_int, dLe_int, dGt_int, dGe_int, dEq_int, dNe_int, dEq_str, dNe_str, dEq_bl, dNe_bl, dNeg, dIx_tup, dIx_lst, atI_0, atI_1, atI_2, atI_3, dLen, dInt1, dMax2, dMin2, dAbs, dGcd, dTup, dLst, dIsN, dNotN, eMeth, truD, startR, fRun, permL, eSl, oSome, oNone, iSeq, iEnu, eLenSet, intsOf, wkOf, lsOf, Option.map_some, List.getElem?_cons_zero, List.getElem?_cons_succ, List.set_cons_zero, List.set_cons_succ, List.map_cons, List.map_nil, List.cons_append, List.nil_append, List.append_nil, List.replicate_succ, List.replicate_zero, List.length_cons, List.length_nil, List.filterMap_cons, List.filterMap_nil, if_true, ite_true, ite_false, decide_true, decide_false, Bool.not_true, Bool.not_false, Bool.true_and, Bool.and_true, Bool.false_and, Bool.or_true, Bool.true_or, Bool.false_or, Bool.or_false, decide_eq_true_eq, reduceIte, Nat.reduceAdd, Nat.reduceSub, Nat.reduceMul, Nat.reduceLT, Nat.reduceLeDiff, Int.reduceNeg, Int.reduceLT, Int.reduceLE, Int.reduceAdd, Int.reduceSub, Int.reduceMul, Int.reducePow, Int.reduceToNat, Int.natAbs_natCast, Int.reduceEq, Int.reduceNe, Bool.decide_eq_true, eq_self, reduceCtorEq, Nat.zero_add, Bool.false_eq_true, wipeR, e2, ne_nil, e5, Int.toNat_natCast])
  rw [this, List.map_id, List.filter_map]
  rfl
end
end Gk02
namespace Gk02
open PySem PySem.Spec PyProof.Rows L2 Nw
section
variable {S : Sto}
theorem Mc.at {ss : List Nat} (h : Mc ss) {i n : Nat} (e : ss[i]? = some n) : Smo n ∧ 2 ≤ n ∧ n ≤ 1000000000000000000000000000000 := h.smo n (List.mem_of_getElem? e)
/-- the primes of a size, one behind another -/
theorem inner_loop {ss : List Nat} {ws : List D} (hm : Mc ss) {i n : Nat} (hi : ss[i]? = some n) (sz : Option D) (z6 z7 z8 : Option D) :
    ∃ y6 y7 y8, forL (fun _ => True) (gNm 6) (sSeq (sAsg (eArg F_depth (aCons (eVar 0) (aCons (eVar 6) (aCons (eVar 3) (aNil))))) (gNm 7))
    (sSeq (sIf (tBl (eBin dNe (eArg dRepr (aCons (eArg gLstD (aCons (eVar 7) (aCons (eArgK F_depth [2, 1, 0] aNil (aCons (eVar 3) (aCons (eVar 6) (aCons (eVar 0) (aNil))))) (aNil)))) (aNil))) (eArg dRepr (aCons (eBin (dMulY gLstD) (eArg gLstD (aCons (eArg F__law_often (aCons (eVar 4) (aCons (eVar 6) (aNil)))) (aNil))) (eC (.int 2))) (aNil))))) (sRet (eC (.bl false))) (sNil))
    (sFor (iRan1 (eVar 7)) (gNm 8) (sAsg (eBin (dMulY gLstD) (eVar 5) (eVar 6)) (gNm 5))))) ((due ss).map nI)
      [some (mach ss ws), sz, some (.tup ((due ss).map nI)), some (nI i), some (nI n), some (.int 1), z6, z7, z8] S = some (.nx, [some (mach ss ws), sz, some (.tup ((due ss).map nI)), some (nI i), some (nI n), some (nI n), y6, y7, y8], S) := by
  obtain ⟨sn, n2, n30⟩ := hm.at hi
  generalize hdu : D.tup ((due ss).map nI) = du
  have hloop := forL_run (gd := fun _ => True) (g := gNm 6) (b := sSeq (sAsg (eArg F_depth (aCons (eVar 0) (aCons (eVar 6) (aCons (eVar 3) (aNil))))) (gNm 7))
    (sSeq (sIf (tBl (eBin dNe (eArg dRepr (aCons (eArg gLstD (aCons (eVar 7) (aCons (eArgK F_depth [2, 1, 0] aNil (aCons (eVar 3) (aCons (eVar 6) (aCons (eVar 0) (aNil))))) (aNil)))) (aNil))) (eArg dRepr (aCons (eBin (dMulY gLstD) (eArg gLstD (aCons (eArg F__law_often (aCons (eVar 4) (aCons (eVar 6) (aNil)))) (aNil))) (eC (.int 2))) (aNil))))) (sRet (eC (.bl false))) (sNil))
    (sFor (iRan1 (eVar 7)) (gNm 8) (sAsg (eBin (dMulY gLstD) (eVar 5) (eVar 6)) (gNm 5))))) ((due ss).map nI)
    (fun j ρ S' => ∃ (z6 z7 z8 : Option D), ρ = [some (mach ss ws), sz, some du, some (nI i), some (nI n), some (nI (pprod n ((due ss).take j))), z6, z7, z8] ∧ S' = S)
    [some (mach ss ws), sz, some du, some (nI i), some (nI n), some (.int 1), z6, z7, z8] S ⟨z6, z7, z8, rfl, rfl⟩
    (fun j d ρ S' hj ⟨z6, z7, z8, hρ, hS⟩ => by
      subst hρ hS
      obtain ⟨p, hp, rfl⟩ : ∃ p, (due ss)[j]? = some p ∧ d = nI p := by
        rw [List.getElem?_map] at hj
        cases q : (due ss)[j]? with
        | none => rw [q] at hj; cases hj
        | some p => rw [q] at hj; exact ⟨p, rfl, (Option.some.inj hj).symm⟩
      have hpP : p ∈ P25 := due_P25 (List.mem_of_getElem? hp)
      have p2 := p25_2 hpP
      have p97 := p25_97 hpP
      have htake : (due ss).take (j + 1) = (due ss).take j ++ [p] := by
        rw [List.take_succ, hp]
        rfl
      have hv := vp_small p2 (by omega) n30
      have e1 : ∀ S, F_depth [mach ss ws, nI p, nI i] S = some (nI (vp p n), S) := fun S => s_depth hi (by omega) p p2 (by omega)
      have e2 : ∀ S, F__law_often [nI n, nI p] S = some (nI (vp p n), S) := fun S => s_often p p2 (by omega) n (by omega)
      have e3 : ∀ S, dRepr [.lst [nI (vp p n), nI (vp p n)]] S = some (.str (toPy (.lst [nI (vp p n), nI (vp p n)])).shown, S) := fun S => repr_two (big40 (by omega)) (big40 (by omega))
      have p1 : -18446744073709551616 < (p : Int) := by omega
      have p3 : (p : Int) < 18446744073709551616 := by omega
      generalize hv0 : vp p n = v at e1 e2 e3 hv
      generalize hP : pprod n ((due ss).take j) = P
      have h4 := forL_run (gd := fun _ => True) (g := gNm 8) (b := sAsg (eBin (dMulY gLstD) (eVar 5) (eVar 6)) (gNm 5)) (rangeL 0 v)
        (fun t ρ S'' => ∃ (z8 : Option D), ρ = [some (mach ss ws), sz, some du, some (nI i), some (nI n), some (nI (P * p ^ t)), some (nI p), some (nI v), z8] ∧ S'' = S')
        [some (mach ss ws), sz, some du, some (nI i), some (nI n), some (nI P), some (nI p), some (nI v), z8] S' ⟨z8, by rw [Nat.pow_zero, Nat.mul_one], rfl⟩
        (fun t d ρ S'' ht ⟨z8, hρ, hS⟩ => by
          subst hρ
          rw [hS]
          refine ⟨trivial, _, _, rfl, .nx, [some (mach ss ws), sz, some du, some (nI i), some (nI n), some (nI (P * p ^ (t + 1))), some (nI p), some (nI v), some d], S', ?_, .inl rfl, _, rfl, rfl⟩
          have e5 : ((P * p ^ (t + 1) : Nat) : Int) = ((P * p ^ t : Nat) : Int) * (p : Int) := by rw [Nat.pow_succ, ← Nat.mul_assoc]; exact Int.natCast_mul _ _
          generalize P * p ^ t = Z at e5
          simp only [eVar, eC, aNil, aCons, eBin, eUn, eArg, eArgK, eIf, tBl, tAnd2, tOr2, tNot2, eAnd2, eOr2, eNot2, eChain, tTru, tTrue, sNil, sSeq, sRet, sRetN, sExpr, sIf, sCont, sBreak, sAsg, gNm, gsNil, gsCons, gTp, sPar, sPar3, gTupD, gLstD, gNewD, aYi, mYR, mYL, dSub_int, dMod_int, dFdiv_int, dLt_int, dLe_int, dGt_int, dGe_int, dEq_int, dNe_int, dEq_str, dNe_str, dEq_bl, dNe_bl, dNeg, dIx_tup, dIx_lst, atI_0, atI_1, atI_2, atI_3, dLen, dInt1, dMax2, dMin2, dAbs, dGcd, dTup, dLst, dIsN, dNotN, eMeth, truD, startR, fRun, permL, eSl, oSome, oNone, iSeq, iEnu, eLenSet, intsOf, wkOf, lsOf, Option.map_some, List.getElem?_cons_zero, List.getElem?_cons_succ, List.set_cons_zero, List.set_cons_succ, List.map_cons, List.map_nil, List.cons_append, List.nil_append, List.append_nil, List.replicate_succ, List.replicate_zero, List.length_cons, List.length_nil, List.filterMap_cons, List.filterMap_nil, if_true, ite_true, ite_false, decide_true, decide_false, Bool.not_true, Bool.not_false, Bool.true_and, Bool.and_true, Bool.false_and, Bool.or_true, Bool.true_or, Bool.false_or, Bool.or_false, decide_eq_true_eq, reduceIte, Nat.reduceAdd, Nat.reduceSub, Nat.reduceMul, Nat.reduceLT, Nat.reduceLeDiff, Int.reduceNeg, Int.reduceLT, Int.reduceLE, Int.reduceAdd, Int.reduceSub, Int.reduceMul, Int.reducePow, Int.reduceToNat, Int.natAbs_natCast, Int.reduceEq, Int.reduceNe, Bool.decide_eq_true, eq_self, reduceCtorEq, Nat.zero_add, Bool.false_eq_true, p1, p3]
          rw [← e5])
        (fun _ _ _ => trivial)
      obtain ⟨ρ5, S5, h5, y8, hρ5, hS5⟩ := h4
      rw [hρ5, hS5] at h5
      rw [range_len] at h5
      have e6 : ∀ S, iRan1 (eVar 7) [some (mach ss ws), sz, some du, some (nI i), some (nI n), some (nI P), some (nI p), some (nI v), z8] S = some (⟨rangeL 0 v, fun _ => True⟩, S) := fun S => iRan1_eq (j := (v : Int)) rfl (by omega) (by omega)
      have e7 : P * p ^ v = pprod n ((due ss).take (j + 1)) := by rw [htake, pprod_app, hP, hv0]
      rw [e7] at h5
      clear e7 hP hv0 hv n30
      refine ⟨trivial, _, _, rfl, .nx, [some (mach ss ws), sz, some du, some (nI i), some (nI n), some (nI (pprod n ((due ss).take (j + 1)))), some (nI p), some (nI v), y8], S', ?_, .inl rfl, _, _, _, rfl, rfl⟩
      simp only [eVar, eC, aNil, aCons, eBin, eUn, eArg, eArgK, eIf, tBl, tAnd2, tOr2, tNot2, eAnd2, eOr2, eNot2, eChain, tTru, tTrue, sNil, sSeq, sRet, sRetN, sExpr, sIf, sCont, sBreak, sAsg, gNm, gsNil, gsCons, gTp, sPar, sPar3, gTupD, gLstD, gNewD, aYi, mYR, mYL, dSub_int, dMod_int, dFdiv_int, dLt_int, dLe_int, dGt_int, dGe_int, dEq_int, dNe_int, dEq_str, dNe_str, dEq_bl, dNe_bl, dNeg, dIx_tup, dIx_lst, atI_0, atI_1, atI_2, atI_3, dLen, dInt1, dMax2, dMin2, dAbs, dGcd, dTup, dLst, dIsN, dNotN, eMeth, truD, startR, fRun, permL, eSl, oSome, oNone, iSeq, iEnu, eLenSet, intsOf, wkOf, lsOf, Option.map_some, List.getElem?_cons_zero, List.getElem?_cons_succ, List.set_cons_zero, List.set_cons_succ, List.map_cons, List.map_nil, List.cons_append, List.nil_append, List.append_nil, List.replicate_succ, List.replicate_zero, List.length_cons, List.length_nil, List.filterMap_cons, List.filterMap_nil, if_true, ite_true, ite_false, decide_true, decide_false, Bool.not_true, Bool.not_false, Bool.true_and, Bool.and_true, Bool.false_and, Bool.or_true, Bool.true_or, Bool.false_or, Bool.or_false, decide_eq_true_eq, reduceIte, Nat.reduceAdd, Nat.reduceSub, Nat.reduceMul, Nat.reduceLT, Nat.reduceLeDiff, Int.reduceNeg, Int.reduceLT, Int.reduceLE, Int.reduceAdd, Int.reduceSub, Int.reduceMul, Int.reducePow, Int.reduceToNat, Int.natAbs_natCast, Int.reduceEq, Int.reduceNe, Bool.decide_eq_true, eq_self, reduceCtorEq, Nat.zero_add, Bool.false_eq_true, e1, e2, e3, mYtwo, sFor_eq (e6 _), h5])
    (fun _ _ _ => trivial)
  obtain ⟨ρ', S', hl, y6, y7, y8, hρ, hS⟩ := hloop
  subst hρ hS
  have e8 : pprod n ((due ss).take ((due ss).map nI).length) = n := by
    rw [List.length_map, List.take_length]
    exact pprod_smo (fun p hp => due_P25 hp) (due_nodup ss) sn fun p hp hd => due_mem hp (List.mem_of_getElem? hi) hd
  rw [e8] at hl
  exact ⟨y6, y7, y8, hl⟩
theorem enum_get {l : List D} {j : Nat} {d : D} (h : (enumL l)[j]? = some d) : ∃ x, l[j]? = some x ∧ d = .tup [nI j, x] := by
  unfold enumL at h
  rw [List.getElem?_mapIdx] at h
  cases q : l[j]? with
  | none => rw [q] at h; cases h
  | some x => rw [q] at h; exact ⟨x, rfl, (Option.some.inj h).symm⟩
theorem s_divided {ss : List Nat} {ws : List D} (hm : Mc ss) : ∃ T, F__law_is_divided [mach ss ws] S = some (.bl true, S ++ T) := by
  have hl6 := hm.l1
  have e1 : ∀ S, F_primes_of [mach ss ws] S = some (.tup ((due ss).map nI), S ++ [.lst ((due ss).map nI)]) := fun S => s_primes_of ss ws (by omega)
  have hfit : fits 40 3 [.tup ((due ss).map nI), .tup ((due ss).map nI)] = true := by
    have h1 : fits 40 2 ((due ss).map nI) = true := fits_nI fun n hn => big40 (by have := p25_97 (due_P25 hn); omega)
    simp only [fits, fit, h1, Bool.and_self]
  have hnod : nodess [.tup ((due ss).map nI), .tup ((due ss).map nI)] ≤ 100000 := by
    have := due_len ss
    simp only [nodess, nodes, nodess_nI]
    omega
  have e2 : ∀ S, dRepr [.lst [.tup ((due ss).map nI), .tup ((due ss).map nI)]] S = some (.str (toPy (.lst [.tup ((due ss).map nI), .tup ((due ss).map nI)])).shown, S) := fun S => repr_lst hfit hnod
  have e3 := due_comp (S := S) (ss := ss) (by omega) (ρ := [some (mach ss ws), some (.tup (ss.map nI)), none, none, none, none, none, none, none]) rfl rfl
  clear hfit hnod
  generalize hX : (toPy (.lst [.tup ((due ss).map nI), .tup ((due ss).map nI)])).shown = X at e2
  have e4 : ∀ S : Sto, iEnu (eVar 1) [some (mach ss ws), some (.tup (ss.map nI)), some (.tup ((due ss).map nI)), none, none, none, none, none, none] S = some (⟨enumL (ss.map nI), fun _ => True⟩, S) := fun S => rfl
  have hloop := fun S => forL_run (gd := fun _ => True) (g := gTp 2 (gsCons (gNm 3) (gsCons (gNm 4) (gsNil)))) (b := sSeq (sAsg (eC (.int 1)) (gNm 5))
    (sSeq (sFor (iSeq (eVar 2)) (gNm 6) (sSeq (sAsg (eArg F_depth (aCons (eVar 0) (aCons (eVar 6) (aCons (eVar 3) (aNil))))) (gNm 7))
    (sSeq (sIf (tBl (eBin dNe (eArg dRepr (aCons (eArg gLstD (aCons (eVar 7) (aCons (eArgK F_depth [2, 1, 0] aNil (aCons (eVar 3) (aCons (eVar 6) (aCons (eVar 0) (aNil))))) (aNil)))) (aNil))) (eArg dRepr (aCons (eBin (dMulY gLstD) (eArg gLstD (aCons (eArg F__law_often (aCons (eVar 4) (aCons (eVar 6) (aNil)))) (aNil))) (eC (.int 2))) (aNil))))) (sRet (eC (.bl false))) (sNil))
    (sFor (iRan1 (eVar 7)) (gNm 8) (sAsg (eBin (dMulY gLstD) (eVar 5) (eVar 6)) (gNm 5))))))
    (sIf (tBl (eBin dNe (eVar 5) (eVar 4))) (sRet (eC (.bl false))) (sNil)))) (enumL (ss.map nI))
    (fun j ρ S' => ∃ (z3 z4 z5 z6 z7 z8 : Option D), ρ = [some (mach ss ws), some (.tup (ss.map nI)), some (.tup ((due ss).map nI)), z3, z4, z5, z6, z7, z8] ∧ S' = S)
    [some (mach ss ws), some (.tup (ss.map nI)), some (.tup ((due ss).map nI)), none, none, none, none, none, none] S ⟨_, _, _, _, _, _, rfl, rfl⟩
    (fun j d ρ S' hj ⟨z3, z4, z5, z6, z7, z8, hρ, hS⟩ => by
      subst hρ hS
      obtain ⟨x, hx, rfl⟩ := enum_get hj
      obtain ⟨n, hn, rfl⟩ : ∃ n, ss[j]? = some n ∧ x = nI n := by
        rw [List.getElem?_map] at hx
        cases q : ss[j]? with
        | none => rw [q] at hx; cases hx
        | some p => rw [q] at hx; exact ⟨p, rfl, (Option.some.inj hx).symm⟩
      obtain ⟨y6, y7, y8, h6⟩ := inner_loop (S := S') (ws := ws) hm hn (some (.tup (ss.map nI))) z6 z7 z8
      refine ⟨trivial, _, _, rfl, .nx, _, S', ?_, .inl rfl, some (nI j), some (nI n), some (nI n), y6, y7, y8, rfl, rfl⟩
      simp only [eVar, eC, aNil, aCons, eBin, eUn, eArg, eArgK, eIf, tBl, tAnd2, tOr2, tNot2, eAnd2, eOr2, eNot2, eChain, tTru, tTrue, sNil, sSeq, sRet, sRetN, sExpr, sIf, sCont, sBreak, sAsg, gNm, gsNil, gsCons, gTp, sPar, sPar3, gTupD, gLstD, gNewD, aYi, mYR, mYL, dSub_int, dMod_int, dFdiv_int, dLt_int, dLe_int, dGt_int, dGe_int, dEq_int, dNe_int, dEq_str, dNe_str, dEq_bl, dNe_bl, dNeg, dIx_tup, dIx_lst, atI_0, atI_1, atI_2, atI_3, dLen, dInt1, dMax2, dMin2, dAbs, dGcd, dTup, dLst, dIsN, dNotN, eMeth, truD, startR, fRun, permL, eSl, oSome, oNone, iSeq, iEnu, eLenSet, intsOf, wkOf, lsOf, Option.map_some, List.getElem?_cons_zero, List.getElem?_cons_succ, List.set_cons_zero, List.set_cons_succ, List.map_cons, List.map_nil, List.cons_append, List.nil_append, List.append_nil, List.replicate_succ, List.replicate_zero, List.length_cons, List.length_nil, List.filterMap_cons, List.filterMap_nil, if_true, ite_true, ite_false, decide_true, decide_false, Bool.not_true, Bool.not_false, Bool.true_and, Bool.and_true, Bool.false_and, Bool.or_true, Bool.true_or, Bool.false_or, Bool.or_false, decide_eq_true_eq, reduceIte, Nat.reduceAdd, Nat.reduceSub, Nat.reduceMul, Nat.reduceLT, Nat.reduceLeDiff, Int.reduceNeg, Int.reduceLT, Int.reduceLE, Int.reduceAdd, Int.reduceSub, Int.reduceMul, Int.reducePow, Int.reduceToNat, Int.natAbs_natCast, Int.reduceEq, Int.reduceNe, Bool.decide_eq_true, eq_self, reduceCtorEq, Nat.zero_add, Bool.false_eq_true, sFor, h6])
    (fun _ _ _ => trivial)
  obtain ⟨ρ', S', hl, z3, z4, z5, z6, z7, z8, hρ, hS⟩ := hloop ((S ++ [.lst ((due ss).map nI)]) ++ [.lst ((due ss).map nI)])
  subst hρ hS
  refine ⟨[.lst ((due ss).map nI), .lst ((due ss).map nI)], ?_⟩
  rw [List.append_assoc] at hl
  have hM0 : ∀ S, dIx (mach ss ws) (.int 0) S = some (.tup (ss.map nI), S) := fun S => m_0
  generalize mach ss ws = M at e1 e3 e4 hl hM0
  unfold F__law_is_divided b__law_is_divided
  simp only [eVar, eC, aNil, aCons, eBin, eUn, eArg, eArgK, eIf, tBl, tAnd2, tOr2, tNot2, eAnd2, eOr2, eNot2, eChain, tTru, tTrue, sNil, sSeq, sRet, sRetN, sExpr, sIf, sCont, sBreak, sAsg, gNm, gsNil, gsCons, gTp, sPar, sPar3, gTupD, gLstD, gNewD, aYi, mYR, mYL, dSub_int, dMod_int, dFdiv_int, dLt_int, dLe_int, dGt_int, dGe_int, dEq_int, dNe_int, dEq_str, dNe_str, dEq_bl, dNe_bl, dNeg, dIx_tup, dIx_lst, atI_0, atI_1, atI_2, atI_3, dLen, dInt1, dMax2, dMin2, dAbs, dGcd, dTup, dLst, dIsN, dNotN, eMeth, truD, startR, fRun, permL, eSl, oSome, oNone, iSeq, iEnu, eLenSet, intsOf, wkOf, lsOf, Option.map_some, List.getElem?_cons_zero, List.getElem?_cons_succ, List.set_cons_zero, List.set_cons_succ, List.map_cons, List.map_nil, List.cons_append, List.nil_append, List.append_nil, List.replicate_succ, List.replicate_zero, List.length_cons, List.length_nil, List.filterMap_cons, List.filterMap_nil, if_true, ite_true, ite_false, decide_true, decide_false, Bool.not_true, Bool.not_false, Bool.true_and, Bool.and_true, Bool.false_and, Bool.or_true, Bool.true_or, Bool.false_or, Bool.or_false, decide_eq_true_eq, reduceIte, Nat.reduceAdd, Nat.reduceSub, Nat.reduceMul, Nat.reduceLT, Nat.reduceLeDiff, Int.reduceNeg, Int.reduceLT, Int.reduceLE, Int.reduceAdd, Int.reduceSub, Int.reduceMul, Int.reducePow, Int.reduceToNat, Int.natAbs_natCast, Int.reduceEq, Int.reduceNe, Bool.decide_eq_true, eq_self, reduceCtorEq, Nat.zero_add, Bool.false_eq_true, hM0, e3, e1, e2, sFor, enumL, List.append_assoc]
  unfold enumL at hl
  simp only [List.cons_append, List.nil_append] at hl
  simp only [eVar, eC, aNil, aCons, eBin, eUn, eArg, eArgK, eIf, tBl, tAnd2, tOr2, tNot2, eAnd2, eOr2, eNot2, eChain, tTru, tTrue, sNil, sSeq, sRet, sRetN, sExpr, sIf, sCont, sBreak, sAsg, gNm, gsNil, gsCons, gTp, sPar, sPar3, gTupD, gLstD, gNewD, aYi, mYR, mYL, dSub_int, dMod_int, dFdiv_int, dLt_int, dLe_int, dGt_int, dGe_int, dEq_int, dNe_int, dEq_str, dNe_str, dEq_bl, dNe_bl, dNeg, dIx_tup, dIx_lst, atI_0, atI_1, atI_2, atI_3, dLen, dInt1, dMax2, dMin2, dAbs, dGcd, dTup, dLst, dIsN, dNotN, eMeth, truD, startR, fRun, permL, eSl, oSome, oNone, iSeq, iEnu, eLenSet, intsOf, wkOf, lsOf, Option.map_some, List.getElem?_cons_zero, List.getElem?_cons_succ, List.set_cons_zero, List.set_cons_succ, List.map_cons, List.map_nil, List.cons_append, List.nil_append, List.append_nil, List.replicate_succ, List.replicate_zero, List.length_cons, List.length_nil, List.filterMap_cons, List.filterMap_nil, if_true, ite_true, ite_false, decide_true, decide_false, Bool.not_true, Bool.not_false, Bool.true_and, Bool.and_true, Bool.false_and, Bool.or_true, Bool.true_or, Bool.false_or, Bool.or_false, decide_eq_true_eq, reduceIte, Nat.reduceAdd, Nat.reduceSub, Nat.reduceMul, Nat.reduceLT, Nat.reduceLeDiff, Int.reduceNeg, Int.reduceLT, Int.reduceLE, Int.reduceAdd, Int.reduceSub, Int.reduceMul, Int.reducePow, Int.reduceToNat, Int.natAbs_natCast, Int.reduceEq, Int.reduceNe, Bool.decide_eq_true, eq_self, reduceCtorEq, Nat.zero_add, Bool.false_eq_true, hl]
end
end Gk02
namespace Gk02
open PySem PySem.Spec PyProof.Rows L2 Nw
theorem bool_ne {p q : Prop} [Decidable p] [Decidable q] (h : p ↔ q) : (!decide (decide p = decide q)) = false := by
  have e : decide p = decide q := by
    by_cases hp : p
    · rw [decide_eq_true hp, decide_eq_true (h.mp hp)]
    · rw [decide_eq_false hp, decide_eq_false fun z => hp (h.mpr z)]
  rw [decide_eq_true e]
  rfl
section
variable {S : Sto}
theorem least_loop {sz M : D} {a b t i j : Nat} (hsz : ∀ S, dIx sz (nI i) S = some (nI a, S)) (hsz2 : ∀ S, dIx sz (nI j) S = some (nI b, S)) (ht : t = quo a b) (ha : 1 ≤ a) (hb : 1 ≤ b) (ha2 : a ≤ 1000000000000000000000000000000) (hb2 : b ≤ 1000000000000000000000000000000) (z : Option D) :
    ∃ y, forL (fun _ => True) (gNm 5) (sSeq (sIf (tAnd2 (tBl (eBin dEq (eBin (dMod) (eVar 4) (eVar 5)) (eC (.int 0)))) (tBl (eBin dEq (eBin (dMod) (eBin (dMulY gLstD) (eBin (dFdiv) (eVar 4) (eVar 5)) (eBin dIx (eVar 3) (eVar 1))) (eBin dIx (eVar 3) (eVar 2))) (eC (.int 0))))) (sRet (eC (.bl false))) (sNil))
    (sIf (tBl (eBin dNe (eArg F__law_often (aCons (eVar 4) (aCons (eVar 5) (aNil)))) (eArg dMax2 (aCons (eC (.int 0)) (aCons (eBin (dSub) (eArg F__law_often (aCons (eBin dIx (eVar 3) (eVar 2)) (aCons (eVar 5) (aNil)))) (eArg F__law_often (aCons (eBin dIx (eVar 3) (eVar 1)) (aCons (eVar 5) (aNil))))) (aNil)))))) (sRet (eC (.bl false))) (sNil))) (P25.map nI)
      [some M, some (nI j), some (nI i), some sz, some (nI t), z] S = some (.nx, [some M, some (nI j), some (nI i), some sz, some (nI t), y], S) := by
  have ht1 : 1 ≤ t := by rw [ht]; exact quo_pos ha
  have hta : t ≤ a := by rw [ht]; exact quo_le
  have hloop := forL_run (gd := fun _ => True) (g := gNm 5) (b := sSeq (sIf (tAnd2 (tBl (eBin dEq (eBin (dMod) (eVar 4) (eVar 5)) (eC (.int 0)))) (tBl (eBin dEq (eBin (dMod) (eBin (dMulY gLstD) (eBin (dFdiv) (eVar 4) (eVar 5)) (eBin dIx (eVar 3) (eVar 1))) (eBin dIx (eVar 3) (eVar 2))) (eC (.int 0))))) (sRet (eC (.bl false))) (sNil))
    (sIf (tBl (eBin dNe (eArg F__law_often (aCons (eVar 4) (aCons (eVar 5) (aNil)))) (eArg dMax2 (aCons (eC (.int 0)) (aCons (eBin (dSub) (eArg F__law_often (aCons (eBin dIx (eVar 3) (eVar 2)) (aCons (eVar 5) (aNil)))) (eArg F__law_often (aCons (eBin dIx (eVar 3) (eVar 1)) (aCons (eVar 5) (aNil))))) (aNil)))))) (sRet (eC (.bl false))) (sNil))) (P25.map nI)
    (fun _ ρ S' => ∃ z : Option D, ρ = [some M, some (nI j), some (nI i), some sz, some (nI t), z] ∧ S' = S)
    [some M, some (nI j), some (nI i), some sz, some (nI t), z] S ⟨z, rfl, rfl⟩
    (fun n d ρ S' hj ⟨z, hρ, hS⟩ => by
      subst hρ hS
      obtain ⟨p, hp, rfl⟩ : ∃ p, P25[n]? = some p ∧ d = nI p := by
        rw [List.getElem?_map] at hj
        cases q : P25[n]? with
        | none => rw [q] at hj; cases hj
        | some p => rw [q] at hj; exact ⟨p, rfl, (Option.some.inj hj).symm⟩
      have hpP : p ∈ P25 := List.mem_of_getElem? hp
      have p2 := p25_2 hpP
      have p97 := p25_97 hpP
      have p0 : (0 : Int) < (p : Int) := by omega
      have a0 : (0 : Int) < (a : Int) := by omega
      have o1 : F__law_often [nI t, nI p] S' = some (nI (vp p t), S') := s_often p p2 (by omega) t ht1
      have o2 : F__law_often [nI a, nI p] S' = some (nI (vp p a), S') := s_often p p2 (by omega) a ha
      have o3 : F__law_often [nI b, nI p] S' = some (nI (vp p b), S') := s_often p p2 (by omega) b hb
      have hv : vp p t = vp p a - vp p b := by rw [ht]; exact vp_quot p2 (p25_euc hpP) ha hb
      have hmax : (if ((vp p a : Int) - (vp p b : Int)) > 0 then (vp p a : Int) - (vp p b : Int) else 0) = ((vp p t : Nat) : Int) := by
        rw [hv]
        split <;> omega
      generalize vp p t = vt at o1 hmax
      generalize vp p a = va at o2 hmax
      generalize vp p b = vb at o3 hmax
      refine ⟨trivial, _, _, rfl, .nx, [some M, some (nI j), some (nI i), some sz, some (nI t), some (nI p)], S', ?_, .inl rfl, _, rfl, rfl⟩
      rw [List.set_cons_succ, List.set_cons_succ, List.set_cons_succ, List.set_cons_succ, List.set_cons_succ, List.set_cons_zero]
      by_cases h1 : t % p = 0
      · have e1 : ((t : Int) % (p : Int) = 0) = True := by simp only [eq_iff_iff, iff_true]; omega
        have hw : dFdiv (nI t) (nI p) S' = some (nI (t / p), S') := by
          rw [dFdiv_int p0 (by omega)]
          rfl
        have hx : t / p ≤ a := Nat.le_trans (Nat.div_le_self _ _) hta
        have e2 : t / p * b % a ≠ 0 := by
          rw [ht]
          exact quo_least ha p2 (by rw [← ht]; exact h1)
        generalize t / p = V at hw hx e2
        have hmul : dMulY gLstD (nI V) (nI b) S' = some (nI (V * b), S') := by
          rw [mYW (by
            have q1 := log_num (x := (V : Int)) (by omega) (by omega)
            have q2 := log_num (x := (b : Int)) (by omega) (by omega)
            omega)]
          rfl
        have e3 : (((V * b : Nat) : Int) % (a : Int) = 0) = False := by simp only [eq_iff_iff, iff_false]; omega
        generalize V * b = W at hmul e3
        clear ha2 hb2 hta hx
        simp only [eVar, eC, aNil, aCons, eBin, eUn, eArg, eArgK, eIf, tBl, tAnd2, tOr2, tNot2, eAnd2, eOr2, eNot2, eChain, tTru, tTrue, sNil, sSeq, sRet, sRetN, sExpr, sIf, sCont, sBreak, sAsg, gNm, gsNil, gsCons, gTp, sPar, sPar3, gTupD, gLstD, gNewD, aYi, mYR, mYL, dSub_int, dMod_int, dFdiv_int, dLt_int, dLe_int, dGt_int, dGe_int, dEq_int, dNe_int, dEq_str, dNe_str, dEq_bl, dNe_bl, dNeg, dIx_tup, dIx_lst, atI_0, atI_1, atI_2, atI_3, dLen, dInt1, dMax2, dMin2, dAbs, dGcd, dTup, dLst, dIsN, dNotN, eMeth, truD, startR, fRun, permL, eSl, oSome, oNone, iSeq, iEnu, eLenSet, intsOf, wkOf, lsOf, Option.map_some, List.getElem?_cons_zero, List.getElem?_cons_succ, List.set_cons_zero, List.set_cons_succ, List.map_cons, List.map_nil, List.cons_append, List.nil_append, List.append_nil, List.replicate_succ, List.replicate_zero, List.length_cons, List.length_nil, List.filterMap_cons, List.filterMap_nil, if_true, ite_true, ite_false, decide_true, decide_false, Bool.not_true, Bool.not_false, Bool.true_and, Bool.and_true, Bool.false_and, Bool.or_true, Bool.true_or, Bool.false_or, Bool.or_false, decide_eq_true_eq, reduceIte, Nat.reduceAdd, Nat.reduceSub, Nat.reduceMul, Nat.reduceLT, Nat.reduceLeDiff, Int.reduceNeg, Int.reduceLT, Int.reduceLE, Int.reduceAdd, Int.reduceSub, Int.reduceMul, Int.reducePow, Int.reduceToNat, Int.natAbs_natCast, Int.reduceEq, Int.reduceNe, Bool.decide_eq_true, eq_self, reduceCtorEq, Nat.zero_add, Bool.false_eq_true, p0, a0, e1, hw, hsz, hsz2, hmul, e3, o1, o2, o3, hmax]
      · have e1 : ((t : Int) % (p : Int) = 0) = False := by simp only [eq_iff_iff, iff_false]; omega
        clear ha2 hb2 hta
        simp only [eVar, eC, aNil, aCons, eBin, eUn, eArg, eArgK, eIf, tBl, tAnd2, tOr2, tNot2, eAnd2, eOr2, eNot2, eChain, tTru, tTrue, sNil, sSeq, sRet, sRetN, sExpr, sIf, sCont, sBreak, sAsg, gNm, gsNil, gsCons, gTp, sPar, sPar3, gTupD, gLstD, gNewD, aYi, mYR, mYL, dSub_int, dMod_int, dFdiv_int, dLt_int, dLe_int, dGt_int, dGe_int, dEq_int, dNe_int, dEq_str, dNe_str, dEq_bl, dNe_bl, dNeg, dIx_tup, dIx_lst, atI_0, atI_1, atI_2, atI_3, dLen, dInt1, dMax2, dMin2, dAbs, dGcd, dTup, dLst, dIsN, dNotN, eMeth, truD, startR, fRun, permL, eSl, oSome, oNone, iSeq, iEnu, eLenSet, intsOf, wkOf, lsOf, Option.map_some, List.getElem?_cons_zero, List.getElem?_cons_succ, List.set_cons_zero, List.set_cons_succ, List.map_cons, List.map_nil, List.cons_append, List.nil_append, List.append_nil, List.replicate_succ, List.replicate_zero, List.length_cons, List.length_nil, List.filterMap_cons, List.filterMap_nil, if_true, ite_true, ite_false, decide_true, decide_false, Bool.not_true, Bool.not_false, Bool.true_and, Bool.and_true, Bool.false_and, Bool.or_true, Bool.true_or, Bool.false_or, Bool.or_false, decide_eq_true_eq, reduceIte, Nat.reduceAdd, Nat.reduceSub, Nat.reduceMul, Nat.reduceLT, Nat.reduceLeDiff, Int.reduceNeg, Int.reduceLT, Int.reduceLE, Int.reduceAdd, Int.reduceSub, Int.reduceMul, Int.reducePow, Int.reduceToNat, Int.natAbs_natCast, Int.reduceEq, Int.reduceNe, Bool.decide_eq_true, eq_self, reduceCtorEq, Nat.zero_add, Bool.false_eq_true, p0, e1, hsz, hsz2, o1, o2, o3, hmax])
    (fun _ _ _ => trivial)
  obtain ⟨ρ', S', hl, y, hρ, hS⟩ := hloop
  rw [hρ, hS] at hl
  exact ⟨y, hl⟩
theorem s_least {ss : List Nat} {ws : List D} {i j a b : Nat} (hi : ss[i]? = some a) (hj : ss[j]? = some b) (ha : 1 ≤ a) (hb : 1 ≤ b) (ha2 : a ≤ 1000000000000000000000000000000) (hb2 : b ≤ 1000000000000000000000000000000) : F__law_is_least [mach ss ws, nI j, nI i] S = some (.bl true, S) := by
  have e1 : ∀ S, F_step [mach ss ws, nI j, nI i] S = some (nI (quo a b), S) := fun S => s_step hi hj ha ha2
  have e2 : ∀ S, F__law_step [.tup (ss.map nI), nI j, nI i] S = some (nI (quo a b), S) := fun S => s_lstep hi hj ha ha2
  have hM0 : ∀ S, dIx (mach ss ws) (.int 0) S = some (.tup (ss.map nI), S) := fun S => m_0
  have hsz : ∀ S, dIx (.tup (ss.map nI)) (nI i) S = some (nI a, S) := fun S => m_at hi
  have hsz2 : ∀ S, dIx (.tup (ss.map nI)) (nI j) S = some (nI b, S) := fun S => m_at hj
  have hc : ∀ S, F__law_common [nI a, nI b] S = some (nI (Nat.gcd b a), S) := fun S => s_common S b a
  have t1 : 1 ≤ quo a b := quo_pos ha
  have t2 : quo a b ≤ a := quo_le
  have e3 : ∀ S, dRepr [.lst [nI (quo a b), nI (quo a b)]] S = some (.str (toPy (.lst [nI (quo a b), nI (quo a b)])).shown, S) := fun S => repr_two (big40 (by omega)) (big40 (by omega))
  have q1 : quo a b = 1 ↔ b % a = 0 := quo_one ha
  have q2 : quo a b = a ↔ Nat.gcd b a = 1 := by rw [Nat.gcd_comm]; exact quo_self ha
  have q3 : quo a b * b % a = 0 := quo_all ha
  obtain ⟨y, hl⟩ := least_loop (S := S) (sz := .tup (ss.map nI)) (M := mach ss ws) hsz hsz2 rfl ha hb ha2 hb2 none
  generalize mach ss ws = M at e1 hl hM0
  generalize hsz0 : D.tup (ss.map nI) = sz at e2 hsz hsz2 hl hM0
  generalize hX : (toPy (.lst [nI (quo a b), nI (quo a b)])).shown = X at e3
  generalize quo a b = t at e1 e2 e3 q1 q2 q3 hl t1 t2
  generalize Nat.gcd b a = G at hc q2
  have hmul : dMulY gLstD (nI t) (nI b) S = some (nI (t * b), S) := by
    rw [mYW (by
      have q1 := log_num (x := (t : Int)) (by omega) (by omega)
      have q2 := log_num (x := (b : Int)) (by omega) (by omega)
      omega)]
    rfl
  have a0 : (0 : Int) < (a : Int) := by omega
  have b1 : (!decide (decide ((t : Int) = 1) = decide ((b : Int) % (a : Int) = 0))) = false := bool_ne (by omega)
  have b2 : (!decide (decide ((t : Int) = (a : Int)) = decide ((G : Int) = 1))) = false := bool_ne (by omega)
  have b3 : (((t * b : Nat) : Int) % (a : Int) = 0) = True := by simp only [eq_iff_iff, iff_true]; omega
  generalize t * b = W at hmul b3
  have hP : ∀ S, iSeq (eArg F__law_primes aNil) [some M, some (nI j), some (nI i), some sz, some (nI t), none] S = some (⟨P25.map nI, fun _ => True⟩, S) := fun S => by
    rw [← p25_int]
    rfl
  clear ha2 hb2 t2 q1 q2 q3
  unfold F__law_is_least b__law_is_least
  simp only [eVar, eC, aNil, aCons, eBin, eUn, eArg, eArgK, eIf, tBl, tAnd2, tOr2, tNot2, eAnd2, eOr2, eNot2, eChain, tTru, tTrue, sNil, sSeq, sRet, sRetN, sExpr, sIf, sCont, sBreak, sAsg, gNm, gsNil, gsCons, gTp, sPar, sPar3, gTupD, gLstD, gNewD, aYi, mYR, mYL, dSub_int, dMod_int, dFdiv_int, dLt_int, dLe_int, dGt_int, dGe_int, dEq_int, dNe_int, dEq_str, dNe_str, dEq_bl, dNe_bl, dNeg, dIx_tup, dIx_lst, atI_0, atI_1, atI_2, atI_3, dLen, dInt1, dMax2, dMin2, dAbs, dGcd, dTup, dLst, dIsN, dNotN, eMeth, truD, startR, fRun, permL, eSl, oSome, oNone, iSeq, iEnu, eLenSet, intsOf, wkOf, lsOf, Option.map_some, List.getElem?_cons_zero, List.getElem?_cons_succ, List.set_cons_zero, List.set_cons_succ, List.map_cons, List.map_nil, List.cons_append, List.nil_append, List.append_nil, List.replicate_succ, List.replicate_zero, List.length_cons, List.length_nil, List.filterMap_cons, List.filterMap_nil, if_true, ite_true, ite_false, decide_true, decide_false, Bool.not_true, Bool.not_false, Bool.true_and, Bool.and_true, Bool.false_and, Bool.or_true, Bool.true_or, Bool.false_or, Bool.or_false, decide_eq_true_eq, reduceIte, Nat.reduceAdd, Nat.reduceSub, Nat.reduceMul, Nat.reduceLT, Nat.reduceLeDiff, Int.reduceNeg, Int.reduceLT, Int.reduceLE, Int.reduceAdd, Int.reduceSub, Int.reduceMul, Int.reducePow, Int.reduceToNat, Int.natAbs_natCast, Int.reduceEq, Int.reduceNe, Bool.decide_eq_true, eq_self, reduceCtorEq, Nat.zero_add, Bool.false_eq_true, hM0, e1, e2, e3, mYtwo, sFor_eq (hP _), hl, hsz, hsz2, a0, b1, hc, b2, hmul, b3]
end
end Gk02
namespace Gk02
open PySem PySem.Spec PyProof.Rows L2 Nw
theorem nats_of : ∀ {ds : List D}, (∀ d ∈ ds, Siz 2 d) → ∃ ss : List Nat, ds = ss.map nI ∧ ∀ n ∈ ss, Smo n ∧ 2 ≤ n ∧ n ≤ 1000000000000000000000000000000
  | [], _ => ⟨[], rfl, fun n h => by cases h⟩
  | d :: ds, h => by
    obtain ⟨n, rfl, h1, h2, h3⟩ := h d (List.mem_cons_self ..)
    obtain ⟨ss, rfl, hs⟩ := nats_of fun d hd => h d (List.mem_cons_of_mem _ hd)
    refine ⟨n :: ss, rfl, fun m hm => ?_⟩
    rcases List.mem_cons.mp hm with e | e
    · rw [e]; exact ⟨h1, h2, h3⟩
    · exact hs m e
section
variable {S : Sto} {q : Pot} {r : Sto}
theorem repr_mach {ss : List Nat} {ws : List D} (hm : Mc ss) (hl : ws.length ≤ 36) (hw : ∀ d ∈ ws, Wir ss.length d) : ∃ X, ∀ S, dRepr [mach ss ws] S = some (.str X, S) := by
  refine ⟨(toPy (mach ss ws)).shown, fun S => ?_⟩
  have h6 := hm.l1
  have f1 : fits 40 2 (ss.map nI) = true := fits_nI fun n hn => big40 (hm.smo n hn).2.2
  have f2 : fits 40 2 ws = true := by
    rw [fits_all, List.all_eq_true]
    intro d hd
    obtain ⟨j, i, rfl, h1, h2, _⟩ := hw d hd
    have g1 : fit 40 1 (nI j) = true := fit_nI (big40 (by omega))
    have g2 : fit 40 1 (nI i) = true := fit_nI (big40 (by omega))
    rw [fit, fits, fits, fits, g1, g2]
    rfl
  have n2 : nodess ws ≤ ws.length * 3 := nodess_le fun d hd => by
    obtain ⟨j, i, rfl, _⟩ := hw d hd
    show 1 + (1 + (1 + 0)) ≤ 3
    decide
  have e : rdD S (mach ss ws) = mach ss ws := rfl
  have := repr_ok (B := 40) (n := 4) (d := mach ss ws) (S := S) (by decide) (by decide) (by
    rw [e]
    unfold mach
    rw [fit, fits, fits, fits, fit, fit, f1, f2]
    rfl) (by decide) (by
    rw [e]
    unfold mach
    simp only [nodes, nodess, nodess_nI]
    omega)
  rw [e] at this
  exact this
theorem again_loop {ss : List Nat} {ws : List D} (hm : Mc ss) (g : Good q) (sc z2 kp z6 z7 z8 z9 : Option D) (n : Nat) :
    ∃ q' y6 y7 y8 y9, forL (fun _ => True) (gNm 6) (sSeq (sPar3 7 8 9 (aCons (eArg F__law_dip (aCons (eVar 1) (aCons (eVar 5) (aNil)))) (aCons (eArg F__law_dip (aCons (eVar 1) (aCons (eVar 5) (aNil)))) (aCons (eArg F__law_dip (aCons (eVar 1) (aCons (eVar 5) (aNil)))) (aNil)))))
    (sSeq (sIf (tAnd2 (tBl (eBin dNe (eVar 7) (eVar 8))) (tNot2 (tTru (eArg F__law_is_least (aCons (eVar 3) (aCons (eVar 7) (aCons (eVar 8) (aNil)))))))) (sRet (eC (.bl false))) (sNil))
    (sIf (tAnd2 (tBl (eBin dEq (eLenSet (aCons (eVar 7) (aCons (eVar 8) (aCons (eVar 9) (aNil))))) (eC (.int 3)))) (tBl (eBin dNe (eBin (dMod) (eBin (dMulY gLstD) (eArg F_step (aCons (eVar 3) (aCons (eVar 7) (aCons (eVar 8) (aNil))))) (eArg F_step (aCons (eVar 3) (aCons (eVar 8) (aCons (eVar 9) (aNil)))))) (eArg F_step (aCons (eVar 3) (aCons (eVar 7) (aCons (eVar 9) (aNil)))))) (eC (.int 0))))) (sRet (eC (.bl false))) (sNil)))) (rangeL 0 n)
      [sc, some (.ref 1), z2, some (mach ss ws), kp, some (nI ss.length), z6, z7, z8, z9] (sto q r) = some (.nx, [sc, some (.ref 1), z2, some (mach ss ws), kp, some (nI ss.length), y6, y7, y8, y9], sto q' r) ∧ Good q' := by
  have h0 := hm.l0
  have h6 := hm.l1
  have hloop := forL_run (gd := fun _ => True) (g := gNm 6) (b := sSeq (sPar3 7 8 9 (aCons (eArg F__law_dip (aCons (eVar 1) (aCons (eVar 5) (aNil)))) (aCons (eArg F__law_dip (aCons (eVar 1) (aCons (eVar 5) (aNil)))) (aCons (eArg F__law_dip (aCons (eVar 1) (aCons (eVar 5) (aNil)))) (aNil)))))
    (sSeq (sIf (tAnd2 (tBl (eBin dNe (eVar 7) (eVar 8))) (tNot2 (tTru (eArg F__law_is_least (aCons (eVar 3) (aCons (eVar 7) (aCons (eVar 8) (aNil)))))))) (sRet (eC (.bl false))) (sNil))
    (sIf (tAnd2 (tBl (eBin dEq (eLenSet (aCons (eVar 7) (aCons (eVar 8) (aCons (eVar 9) (aNil))))) (eC (.int 3)))) (tBl (eBin dNe (eBin (dMod) (eBin (dMulY gLstD) (eArg F_step (aCons (eVar 3) (aCons (eVar 7) (aCons (eVar 8) (aNil))))) (eArg F_step (aCons (eVar 3) (aCons (eVar 8) (aCons (eVar 9) (aNil)))))) (eArg F_step (aCons (eVar 3) (aCons (eVar 7) (aCons (eVar 9) (aNil)))))) (eC (.int 0))))) (sRet (eC (.bl false))) (sNil)))) (rangeL 0 n)
    (fun _ ρ S => ∃ (q : Pot) (y6 y7 y8 y9 : Option D), ρ = [sc, some (.ref 1), z2, some (mach ss ws), kp, some (nI ss.length), y6, y7, y8, y9] ∧ S = sto q r ∧ Good q)
    [sc, some (.ref 1), z2, some (mach ss ws), kp, some (nI ss.length), z6, z7, z8, z9] (sto q r) ⟨q, _, _, _, _, rfl, rfl, g⟩
    (fun _ d ρ S _ ⟨q, y6, y7, y8, y9, hρ, hS, g⟩ => by
      subst hρ hS
      obtain ⟨x, q1, d1, x0, x1, g1⟩ := s_dip (r := r) g (n := (ss.length : Nat)) (by omega) (by omega)
      obtain ⟨y, q2, d2, y0, y1, g2⟩ := s_dip (r := r) g1 (n := (ss.length : Nat)) (by omega) (by omega)
      obtain ⟨w, q3, d3, w0, w1, g3⟩ := s_dip (r := r) g2 (n := (ss.length : Nat)) (by omega) (by omega)
      obtain ⟨j, rfl⟩ := Int.eq_ofNat_of_zero_le x0
      obtain ⟨i, rfl⟩ := Int.eq_ofNat_of_zero_le y0
      obtain ⟨k, rfl⟩ := Int.eq_ofNat_of_zero_le w0
      obtain ⟨a, ha⟩ : ∃ a, ss[i]? = some a := ⟨_, List.getElem?_eq_getElem (by omega)⟩
      obtain ⟨b, hb⟩ : ∃ b, ss[j]? = some b := ⟨_, List.getElem?_eq_getElem (by omega)⟩
      obtain ⟨c, hc⟩ : ∃ c, ss[k]? = some c := ⟨_, List.getElem?_eq_getElem (by omega)⟩
      obtain ⟨_, a1, a2⟩ := hm.at ha
      obtain ⟨_, b1, b2⟩ := hm.at hb
      obtain ⟨_, c1, c2⟩ := hm.at hc
      have l1 : ∀ S, F__law_is_least [mach ss ws, nI j, nI i] S = some (.bl true, S) := fun S => s_least ha hb (by omega) (by omega) a2 b2
      have t1 : ∀ S, F_step [mach ss ws, nI j, nI i] S = some (nI (quo a b), S) := fun S => s_step ha hb (by omega) a2
      have t2 : ∀ S, F_step [mach ss ws, nI i, nI k] S = some (nI (quo c a), S) := fun S => s_step hc ha (by omega) c2
      have t3 : ∀ S, F_step [mach ss ws, nI j, nI k] S = some (nI (quo c b), S) := fun S => s_step hc hb (by omega) c2
      have p1 : quo a b ≤ a := quo_le
      have p2 : quo c a ≤ c := quo_le
      have p3 : 1 ≤ quo c b := quo_pos (by omega)
      have p4 : quo a b * quo c a % quo c b = 0 := quo_two (by omega) (by omega) b
      have hmul : ∀ S, dMulY gLstD (nI (quo a b)) (nI (quo c a)) S = some (nI (quo a b * quo c a), S) := fun S => by
        rw [mYW (by
          have q1 := log_num (x := (quo a b : Int)) (by omega) (by omega)
          have q2 := log_num (x := (quo c a : Int)) (by omega) (by omega)
          omega)]
        rfl
      have p5 : (0 : Int) < (quo c b : Int) := by omega
      have p6 : (((quo a b * quo c a : Nat) : Int) % (quo c b : Int) = 0) = True := by simp only [eq_iff_iff, iff_true]; omega
      generalize quo a b * quo c a = W at hmul p6
      generalize quo a b = u1 at t1 hmul
      generalize quo c a = u2 at t2 hmul
      generalize quo c b = u3 at t3 p5 p6
      clear a2 b2 c2 p1 p2 p3 p4 hm
      generalize mach ss ws = M at l1 t1 t2 t3
      refine ⟨trivial, _, _, rfl, .nx, [sc, some (.ref 1), z2, some M, kp, some (nI ss.length), some d, some (nI j), some (nI i), some (nI k)], sto q3 r, ?_, .inl rfl, q3, _, _, _, _, rfl, rfl, g3⟩
      have hset : ∀ (ρ : Rho) (S : Sto), eLenSet (aCons (eVar 7) (aCons (eVar 8) (aCons (eVar 9) (aNil)))) [sc, some (.ref 1), z2, some M, kp, some (nI ss.length), some d, some (nI j), some (nI i), some (nI k)] S = some (.int (dcnt (fun _ => false) 0 [(j : Int), (i : Int), (k : Int)] : Nat), S) := fun ρ S => by
        show (if ([(j : Int), (i : Int), (k : Int)]).length ≤ 30 then some (D.int (dcnt (fun _ => false) 0 [(j : Int), (i : Int), (k : Int)] : Nat), S) else none) = _
        rw [if_pos (by show 3 ≤ 30; decide)]
      generalize dcnt (fun _ => false) 0 [(j : Int), (i : Int), (k : Int)] = N at hset
      have hset' := fun S => hset [] S
      by_cases hji : (j : Int) = (i : Int)
      · have e1 := eq_true hji
        clear hji
        by_cases hN : (N : Int) = 3
        · have e2 := eq_true hN
          clear hN
          simp only [eVar, eC, aNil, aCons, eBin, eUn, eArg, eArgK, eIf, tBl, tAnd2, tOr2, tNot2, eAnd2, eOr2, eNot2, eChain, tTru, tTrue, sNil, sSeq, sRet, sRetN, sExpr, sIf, sCont, sBreak, sAsg, gNm, gsNil, gsCons, gTp, sPar, sPar3, gTupD, gLstD, gNewD, aYi, mYR, mYL, dSub_int, dMod_int, dFdiv_int, dLt_int, dLe_int, dGt_int, dGe_int, dEq_int, dNe_int, dEq_str, dNe_str, dEq_bl, dNe_bl, dNeg, dIx_tup, dIx_lst, atI_0, atI_1, atI_2, atI_3, dLen, dInt1, dMax2, dMin2, dAbs, dGcd, dTup, dLst, dIsN, dNotN, eMeth, truD, startR, fRun, permL, eSl, oSome, oNone, iSeq, iEnu, wkOf, lsOf, Option.map_some, List.getElem?_cons_zero, List.getElem?_cons_succ, List.set_cons_zero, List.set_cons_succ, List.map_cons, List.map_nil, List.cons_append, List.nil_append, List.append_nil, List.replicate_succ, List.replicate_zero, List.length_cons, List.length_nil, List.filterMap_cons, List.filterMap_nil, if_true, ite_true, ite_false, decide_true, decide_false, Bool.not_true, Bool.not_false, Bool.true_and, Bool.and_true, Bool.false_and, Bool.or_true, Bool.true_or, Bool.false_or, Bool.or_false, decide_eq_true_eq, reduceIte, Nat.reduceAdd, Nat.reduceSub, Nat.reduceMul, Nat.reduceLT, Nat.reduceLeDiff, Int.reduceNeg, Int.reduceLT, Int.reduceLE, Int.reduceAdd, Int.reduceSub, Int.reduceMul, Int.reducePow, Int.reduceToNat, Int.natAbs_natCast, Int.reduceEq, Int.reduceNe, Bool.decide_eq_true, eq_self, reduceCtorEq, Nat.zero_add, Bool.false_eq_true, d1, d2, d3, e1, hset', e2, l1, t1, t2, t3, hmul, p5, p6]
        · have e2 := eq_false hN
          clear hN
          simp only [eVar, eC, aNil, aCons, eBin, eUn, eArg, eArgK, eIf, tBl, tAnd2, tOr2, tNot2, eAnd2, eOr2, eNot2, eChain, tTru, tTrue, sNil, sSeq, sRet, sRetN, sExpr, sIf, sCont, sBreak, sAsg, gNm, gsNil, gsCons, gTp, sPar, sPar3, gTupD, gLstD, gNewD, aYi, mYR, mYL, dSub_int, dMod_int, dFdiv_int, dLt_int, dLe_int, dGt_int, dGe_int, dEq_int, dNe_int, dEq_str, dNe_str, dEq_bl, dNe_bl, dNeg, dIx_tup, dIx_lst, atI_0, atI_1, atI_2, atI_3, dLen, dInt1, dMax2, dMin2, dAbs, dGcd, dTup, dLst, dIsN, dNotN, eMeth, truD, startR, fRun, permL, eSl, oSome, oNone, iSeq, iEnu, wkOf, lsOf, Option.map_some, List.getElem?_cons_zero, List.getElem?_cons_succ, List.set_cons_zero, List.set_cons_succ, List.map_cons, List.map_nil, List.cons_append, List.nil_append, List.append_nil, List.replicate_succ, List.replicate_zero, List.length_cons, List.length_nil, List.filterMap_cons, List.filterMap_nil, if_true, ite_true, ite_false, decide_true, decide_false, Bool.not_true, Bool.not_false, Bool.true_and, Bool.and_true, Bool.false_and, Bool.or_true, Bool.true_or, Bool.false_or, Bool.or_false, decide_eq_true_eq, reduceIte, Nat.reduceAdd, Nat.reduceSub, Nat.reduceMul, Nat.reduceLT, Nat.reduceLeDiff, Int.reduceNeg, Int.reduceLT, Int.reduceLE, Int.reduceAdd, Int.reduceSub, Int.reduceMul, Int.reducePow, Int.reduceToNat, Int.natAbs_natCast, Int.reduceEq, Int.reduceNe, Bool.decide_eq_true, eq_self, reduceCtorEq, Nat.zero_add, Bool.false_eq_true, d1, d2, d3, e1, hset', e2]
      · have e1 := eq_false hji
        clear hji
        by_cases hN : (N : Int) = 3
        · have e2 := eq_true hN
          clear hN
          simp only [eVar, eC, aNil, aCons, eBin, eUn, eArg, eArgK, eIf, tBl, tAnd2, tOr2, tNot2, eAnd2, eOr2, eNot2, eChain, tTru, tTrue, sNil, sSeq, sRet, sRetN, sExpr, sIf, sCont, sBreak, sAsg, gNm, gsNil, gsCons, gTp, sPar, sPar3, gTupD, gLstD, gNewD, aYi, mYR, mYL, dSub_int, dMod_int, dFdiv_int, dLt_int, dLe_int, dGt_int, dGe_int, dEq_int, dNe_int, dEq_str, dNe_str, dEq_bl, dNe_bl, dNeg, dIx_tup, dIx_lst, atI_0, atI_1, atI_2, atI_3, dLen, dInt1, dMax2, dMin2, dAbs, dGcd, dTup, dLst, dIsN, dNotN, eMeth, truD, startR, fRun, permL, eSl, oSome, oNone, iSeq, iEnu, wkOf, lsOf, Option.map_some, List.getElem?_cons_zero, List.getElem?_cons_succ, List.set_cons_zero, List.set_cons_succ, List.map_cons, List.map_nil, List.cons_append, List.nil_append, List.append_nil, List.replicate_succ, List.replicate_zero, List.length_cons, List.length_nil, List.filterMap_cons, List.filterMap_nil, if_true, ite_true, ite_false, decide_true, decide_false, Bool.not_true, Bool.not_false, Bool.true_and, Bool.and_true, Bool.false_and, Bool.or_true, Bool.true_or, Bool.false_or, Bool.or_false, decide_eq_true_eq, reduceIte, Nat.reduceAdd, Nat.reduceSub, Nat.reduceMul, Nat.reduceLT, Nat.reduceLeDiff, Int.reduceNeg, Int.reduceLT, Int.reduceLE, Int.reduceAdd, Int.reduceSub, Int.reduceMul, Int.reducePow, Int.reduceToNat, Int.natAbs_natCast, Int.reduceEq, Int.reduceNe, Bool.decide_eq_true, eq_self, reduceCtorEq, Nat.zero_add, Bool.false_eq_true, d1, d2, d3, e1, hset', e2, l1, t1, t2, t3, hmul, p5, p6]
        · have e2 := eq_false hN
          clear hN
          simp only [eVar, eC, aNil, aCons, eBin, eUn, eArg, eArgK, eIf, tBl, tAnd2, tOr2, tNot2, eAnd2, eOr2, eNot2, eChain, tTru, tTrue, sNil, sSeq, sRet, sRetN, sExpr, sIf, sCont, sBreak, sAsg, gNm, gsNil, gsCons, gTp, sPar, sPar3, gTupD, gLstD, gNewD, aYi, mYR, mYL, dSub_int, dMod_int, dFdiv_int, dLt_int, dLe_int, dGt_int, dGe_int, dEq_int, dNe_int, dEq_str, dNe_str, dEq_bl, dNe_bl, dNeg, dIx_tup, dIx_lst, atI_0, atI_1, atI_2, atI_3, dLen, dInt1, dMax2, dMin2, dAbs, dGcd, dTup, dLst, dIsN, dNotN, eMeth, truD, startR, fRun, permL, eSl, oSome, oNone, iSeq, iEnu, wkOf, lsOf, Option.map_some, List.getElem?_cons_zero, List.getElem?_cons_succ, List.set_cons_zero, List.set_cons_succ, List.map_cons, List.map_nil, List.cons_append, List.nil_append, List.append_nil, List.replicate_succ, List.replicate_zero, List.length_cons, List.length_nil, List.filterMap_cons, List.filterMap_nil, if_true, ite_true, ite_false, decide_true, decide_false, Bool.not_true, Bool.not_false, Bool.true_and, Bool.and_true, Bool.false_and, Bool.or_true, Bool.true_or, Bool.false_or, Bool.or_false, decide_eq_true_eq, reduceIte, Nat.reduceAdd, Nat.reduceSub, Nat.reduceMul, Nat.reduceLT, Nat.reduceLeDiff, Int.reduceNeg, Int.reduceLT, Int.reduceLE, Int.reduceAdd, Int.reduceSub, Int.reduceMul, Int.reducePow, Int.reduceToNat, Int.natAbs_natCast, Int.reduceEq, Int.reduceNe, Bool.decide_eq_true, eq_self, reduceCtorEq, Nat.zero_add, Bool.false_eq_true, d1, d2, d3, e1, hset', e2, l1])
    (fun _ _ _ => trivial)
  obtain ⟨ρ', S', hl, q', y6, y7, y8, y9, hρ, hS, g'⟩ := hloop
  rw [hρ, hS] at hl
  exact ⟨q', y6, y7, y8, y9, hl, g'⟩
end
end Gk02
namespace Gk02
open PySem PySem.Spec PyProof.Rows L2 Nw
section
variable {S : Sto} {q : Pot} {r : Sto}
theorem s_law (ns : List Int) (hn : ns.length ≤ 63) : ∃ S', F_law [.scr (ns.map D.int)] [] = some (.bl true, S') := by
  obtain ⟨q0, e0, g0⟩ := s_pot ns hn
  generalize hsc : D.scr (ns.map D.int) = sc at e0
  have hloop := forL_run (gd := fun _ => True) (g := gNm 2) (b := sSeq (sAsg (eArg F__law_machine (aCons (eVar 1) (aCons (eBin dGt (eVar 2) (eC (.int 1))) (aNil)))) (gNm 3))
    (sSeq (sPar 4 5 (aCons (eArg dRepr (aCons (eVar 3) (aNil))) (aCons (eArg dLen (aCons (eBin dIx (eVar 3) (eC (.int 0))) (aNil))) (aNil))))
    (sSeq (sIf (tNot2 (tTru (eArg F__law_is_divided (aCons (eVar 3) (aNil))))) (sRet (eC (.bl false))) (sNil))
    (sSeq (sFor (iRan1 (eIf (tBl (eBin dGt (eVar 5) (eC (.int 1)))) (eC (.int 3)) (eC (.int 0)))) (gNm 6) (sSeq (sPar3 7 8 9 (aCons (eArg F__law_dip (aCons (eVar 1) (aCons (eVar 5) (aNil)))) (aCons (eArg F__law_dip (aCons (eVar 1) (aCons (eVar 5) (aNil)))) (aCons (eArg F__law_dip (aCons (eVar 1) (aCons (eVar 5) (aNil)))) (aNil)))))
    (sSeq (sIf (tAnd2 (tBl (eBin dNe (eVar 7) (eVar 8))) (tNot2 (tTru (eArg F__law_is_least (aCons (eVar 3) (aCons (eVar 7) (aCons (eVar 8) (aNil)))))))) (sRet (eC (.bl false))) (sNil))
    (sIf (tAnd2 (tBl (eBin dEq (eLenSet (aCons (eVar 7) (aCons (eVar 8) (aCons (eVar 9) (aNil))))) (eC (.int 3)))) (tBl (eBin dNe (eBin (dMod) (eBin (dMulY gLstD) (eArg F_step (aCons (eVar 3) (aCons (eVar 7) (aCons (eVar 8) (aNil))))) (eArg F_step (aCons (eVar 3) (aCons (eVar 8) (aCons (eVar 9) (aNil)))))) (eArg F_step (aCons (eVar 3) (aCons (eVar 7) (aCons (eVar 9) (aNil)))))) (eC (.int 0))))) (sRet (eC (.bl false))) (sNil)))))
    (sIf (tBl (eBin dNe (eArg dRepr (aCons (eVar 3) (aNil))) (eVar 4))) (sRet (eC (.bl false))) (sNil)))))) (rangeL 0 5)
    (fun _ ρ S => ∃ (q : Pot) (r : Sto) (z2 z3 z4 z5 z6 z7 z8 z9 : Option D), ρ = [some sc, some (.ref 1), z2, z3, z4, z5, z6, z7, z8, z9] ∧ S = sto q r ∧ Good q)
    [some sc, some (.ref 1), none, none, none, none, none, none, none, none] (sto q0 []) ⟨q0, [], _, _, _, _, _, _, _, _, rfl, rfl, g0⟩
    (fun j d ρ S hj ⟨q, r, z2, z3, z4, z5, z6, z7, z8, z9, hρ, hS, g⟩ => by
      subst hρ hS
      obtain ⟨_, rfl⟩ := range_get hj
      obtain ⟨ds, ws, q1, r1, d1, l0, l1, hd, lw, hw, g1⟩ := s_machine (r := r) g (decide ((1 : Int) < 0 + (j : Int)))
      obtain ⟨ss, rfl, hs⟩ := nats_of hd
      rw [List.length_map] at l0 l1 hw
      have hm : Mc ss := ⟨l0, l1, hs⟩
      obtain ⟨X, hX⟩ := repr_mach hm lw hw
      obtain ⟨T, hT⟩ := s_divided (S := sto q1 r1) (ws := ws) hm
      have hT' : F__law_is_divided [mach ss ws] (sto q1 r1) = some (.bl true, sto q1 (r1 ++ T)) := hT
      obtain ⟨q2, y6, y7, y8, y9, hA, g2⟩ := again_loop (r := r1 ++ T) (ws := ws) hm g1 (some sc) (some (.int (0 + (j : Int)))) (some (.str X)) z6 z7 z8 z9 (if (1 : Int) < (ss.length : Nat) then 3 else 0)
      have hL : (List.map nI ss).length = ss.length := List.length_map _
      have hM0 : ∀ S, dIx (mach ss ws) (.int 0) S = some (.tup (ss.map nI), S) := fun S => m_0
      have d1' : F__law_machine [.ref 1, .bl (decide ((1 : Int) < 0 + (j : Int)))] (sto q r) = some (mach ss ws, sto q1 r1) := d1
      have hR : ∀ (S : Sto), iRan1 (eIf (tBl (eBin dGt (eVar 5) (eC (.int 1)))) (eC (.int 3)) (eC (.int 0))) [some sc, some (.ref 1), some (.int (0 + (j : Int))), some (mach ss ws), some (.str X), some (nI ss.length), z6, z7, z8, z9] S = some (⟨rangeL 0 (if (1 : Int) < (ss.length : Nat) then 3 else 0), fun _ => True⟩, S) := fun S => by
        by_cases hh : (1 : Int) < (ss.length : Nat)
        · rw [if_pos hh]
          refine iRan1_eq (j := 3) ?_ (by decide) (by decide)
          simp only [eVar, eC, aNil, aCons, eBin, eUn, eArg, eArgK, eIf, tBl, tAnd2, tOr2, tNot2, eAnd2, eOr2, eNot2, eChain, tTru, tTrue, sNil, sSeq, sRet, sRetN, sExpr, sIf, sCont, sBreak, sAsg, gNm, gsNil, gsCons, gTp, sPar, sPar3, gTupD, gLstD, gNewD, aYi, mYR, mYL, dSub_int, dMod_int, dFdiv_int, dLt_int, dLe_int, dGt_int, dGe_int, dEq_int, dNe_int, dEq_str, dNe_str, dEq_bl, dNe_bl, dNeg, dIx_tup, dIx_lst, atI_0, atI_1, atI_2, atI_3, dLen, dInt1, dMax2, dMin2, dAbs, dGcd, dTup, dLst, dIsN, dNotN, eMeth, truD, startR, fRun, permL, eSl, oSome, oNone, iSeq, iEnu, wkOf, lsOf, Option.map_some, List.getElem?_cons_zero, List.getElem?_cons_succ, List.set_cons_zero, List.set_cons_succ, List.map_cons, List.map_nil, List.cons_append, List.nil_append, List.append_nil, List.replicate_succ, List.replicate_zero, List.length_cons, List.length_nil, List.filterMap_cons, List.filterMap_nil, if_true, ite_true, ite_false, decide_true, decide_false, Bool.not_true, Bool.not_false, Bool.true_and, Bool.and_true, Bool.false_and, Bool.or_true, Bool.true_or, Bool.false_or, Bool.or_false, decide_eq_true_eq, reduceIte, Nat.reduceAdd, Nat.reduceSub, Nat.reduceMul, Nat.reduceLT, Nat.reduceLeDiff, Int.reduceNeg, Int.reduceLT, Int.reduceLE, Int.reduceAdd, Int.reduceSub, Int.reduceMul, Int.reducePow, Int.reduceToNat, Int.natAbs_natCast, Int.reduceEq, Int.reduceNe, Bool.decide_eq_true, eq_self, reduceCtorEq, Nat.zero_add, Bool.false_eq_true, hh]
        · rw [if_neg hh]
          refine iRan1_eq (j := 0) ?_ (by decide) (by decide)
          simp only [eVar, eC, aNil, aCons, eBin, eUn, eArg, eArgK, eIf, tBl, tAnd2, tOr2, tNot2, eAnd2, eOr2, eNot2, eChain, tTru, tTrue, sNil, sSeq, sRet, sRetN, sExpr, sIf, sCont, sBreak, sAsg, gNm, gsNil, gsCons, gTp, sPar, sPar3, gTupD, gLstD, gNewD, aYi, mYR, mYL, dSub_int, dMod_int, dFdiv_int, dLt_int, dLe_int, dGt_int, dGe_int, dEq_int, dNe_int, dEq_str, dNe_str, dEq_bl, dNe_bl, dNeg, dIx_tup, dIx_lst, atI_0, atI_1, atI_2, atI_3, dLen, dInt1, dMax2, dMin2, dAbs, dGcd, dTup, dLst, dIsN, dNotN, eMeth, truD, startR, fRun, permL, eSl, oSome, oNone, iSeq, iEnu, wkOf, lsOf, Option.map_some, List.getElem?_cons_zero, List.getElem?_cons_succ, List.set_cons_zero, List.set_cons_succ, List.map_cons, List.map_nil, List.cons_append, List.nil_append, List.append_nil, List.replicate_succ, List.replicate_zero, List.length_cons, List.length_nil, List.filterMap_cons, List.filterMap_nil, if_true, ite_true, ite_false, decide_true, decide_false, Bool.not_true, Bool.not_false, Bool.true_and, Bool.and_true, Bool.false_and, Bool.or_true, Bool.true_or, Bool.false_or, Bool.or_false, decide_eq_true_eq, reduceIte, Nat.reduceAdd, Nat.reduceSub, Nat.reduceMul, Nat.reduceLT, Nat.reduceLeDiff, Int.reduceNeg, Int.reduceLT, Int.reduceLE, Int.reduceAdd, Int.reduceSub, Int.reduceMul, Int.reducePow, Int.reduceToNat, Int.natAbs_natCast, Int.reduceEq, Int.reduceNe, Bool.decide_eq_true, eq_self, reduceCtorEq, Nat.zero_add, Bool.false_eq_true, hh]
      clear hm hs hw hd d1 hT
      generalize mach ss ws = M at hX hT' hA hM0 d1' hR
      refine ⟨trivial, _, _, rfl, .nx, _, sto q2 (r1 ++ T), ?_, .inl rfl, q2, r1 ++ T, some (.int (0 + (j : Int))), some M, some (.str X), some (nI ss.length), y6, y7, y8, y9, rfl, rfl, g2⟩
      simp only [eVar, eC, aNil, aCons, eBin, eUn, eArg, eArgK, eIf, tBl, tAnd2, tOr2, tNot2, eAnd2, eOr2, eNot2, eChain, tTru, tTrue, sNil, sSeq, sRet, sRetN, sExpr, sIf, sCont, sBreak, sAsg, gNm, gsNil, gsCons, gTp, sPar, sPar3, gTupD, gLstD, gNewD, aYi, mYR, mYL, dSub_int, dMod_int, dFdiv_int, dLt_int, dLe_int, dGt_int, dGe_int, dEq_int, dNe_int, dEq_str, dNe_str, dEq_bl, dNe_bl, dNeg, dIx_tup, dIx_lst, atI_0, atI_1, atI_2, atI_3, dLen, dInt1, dMax2, dMin2, dAbs, dGcd, dTup, dLst, dIsN, dNotN, eMeth, truD, startR, fRun, permL, eSl, oSome, oNone, iSeq, iEnu, wkOf, lsOf, Option.map_some, List.getElem?_cons_zero, List.getElem?_cons_succ, List.set_cons_zero, List.set_cons_succ, List.map_cons, List.map_nil, List.cons_append, List.nil_append, List.append_nil, List.replicate_succ, List.replicate_zero, List.length_cons, List.length_nil, List.filterMap_cons, List.filterMap_nil, if_true, ite_true, ite_false, decide_true, decide_false, Bool.not_true, Bool.not_false, Bool.true_and, Bool.and_true, Bool.false_and, Bool.or_true, Bool.true_or, Bool.false_or, Bool.or_false, decide_eq_true_eq, reduceIte, Nat.reduceAdd, Nat.reduceSub, Nat.reduceMul, Nat.reduceLT, Nat.reduceLeDiff, Int.reduceNeg, Int.reduceLT, Int.reduceLE, Int.reduceAdd, Int.reduceSub, Int.reduceMul, Int.reducePow, Int.reduceToNat, Int.natAbs_natCast, Int.reduceEq, Int.reduceNe, Bool.decide_eq_true, eq_self, reduceCtorEq, Nat.zero_add, Bool.false_eq_true, d1', hX, hM0, hL, hT', sFor_eq (hR _), hA])
    (fun _ _ _ => trivial)
  obtain ⟨ρ', S', hl, q1, r1, z2, z3, z4, z5, z6, z7, z8, z9, hρ, hS, g1⟩ := hloop
  rw [hρ, hS] at hl
  have h5 : iRan1 (eC (.int 5)) [some sc, some (.ref 1), none, none, none, none, none, none, none, none] (sto q0 []) = some (⟨rangeL 0 5, fun _ => True⟩, sto q0 []) := iRan1_eq (j := 5) rfl (by decide) (by decide)
  refine ⟨sto q1 r1, ?_⟩
  unfold F_law b_law
  simp only [eVar, eC, aNil, aCons, eBin, eUn, eArg, eArgK, eIf, tBl, tAnd2, tOr2, tNot2, eAnd2, eOr2, eNot2, eChain, tTru, tTrue, sNil, sSeq, sRet, sRetN, sExpr, sIf, sCont, sBreak, sAsg, gNm, gsNil, gsCons, gTp, sPar, sPar3, gTupD, gLstD, gNewD, aYi, mYR, mYL, dSub_int, dMod_int, dFdiv_int, dLt_int, dLe_int, dGt_int, dGe_int, dEq_int, dNe_int, dEq_str, dNe_str, dEq_bl, dNe_bl, dNeg, dIx_tup, dIx_lst, atI_0, atI_1, atI_2, atI_3, dLen, dInt1, dMax2, dMin2, dAbs, dGcd, dTup, dLst, dIsN, dNotN, eMeth, truD, startR, fRun, permL, eSl, oSome, oNone, iSeq, iEnu, wkOf, lsOf, Option.map_some, List.getElem?_cons_zero, List.getElem?_cons_succ, List.set_cons_zero, List.set_cons_succ, List.map_cons, List.map_nil, List.cons_append, List.nil_append, List.append_nil, List.replicate_succ, List.replicate_zero, List.length_cons, List.length_nil, List.filterMap_cons, List.filterMap_nil, if_true, ite_true, ite_false, decide_true, decide_false, Bool.not_true, Bool.not_false, Bool.true_and, Bool.and_true, Bool.false_and, Bool.or_true, Bool.true_or, Bool.false_or, Bool.or_false, decide_eq_true_eq, reduceIte, Nat.reduceAdd, Nat.reduceSub, Nat.reduceMul, Nat.reduceLT, Nat.reduceLeDiff, Int.reduceNeg, Int.reduceLT, Int.reduceLE, Int.reduceAdd, Int.reduceSub, Int.reduceMul, Int.reducePow, Int.reduceToNat, Int.natAbs_natCast, Int.reduceEq, Int.reduceNe, Bool.decide_eq_true, eq_self, reduceCtorEq, Nat.zero_add, Bool.false_eq_true, e0, sFor_eq h5, hl]
end
end Gk02
namespace Gk02
open PySem PySem.Spec PyProof.Rows L2 Nw
def loose0 : List PySem.Str := ["PRIMES", "primes_of", "depth", "step", "_law_pot", "_law_dip", "_law_pick", "_law_primes", "_law_common", "_law_step", "_law_great", "_law_sizes", "_law_wires", "_law_machine", "_law_often", "_law_is_divided", "_law_is_least"]
abbrev R : PySem.W.OpenRow := PySem.W.OpenLaw.row PySem.Challenge.rw_narrowadds_k02_whole_primes_and_steps
abbrev hk : PySem.W.Hook := hookN 4 Cc
def ob (s : PySem.W.SharedT) : AlN := obsNG 4 Cc (HandSHeadRun.getT s)
theorem ob_eq (s : PySem.W.SharedT) : ob s = hk.obs s.abs := obsNG_eq (HandSHeadRun.getT_eq s)
def lo : List PySem.Str := loose0
theorem run (w : World) : HandSHeadRun.RunEqI R (PySem.W.view R.prog [0, 20]) hk ob 4000 lo w := by
  unfold HandSHeadRun.RunEqI
  kernel_rfl
end Gk02
open PySem PySem.W PySem.Calls PyProof.Rows
theorem PySem.Challenge.cw_narrowadds_k02_whole_primes_and_steps_holds : PySem.Challenge.rw_narrowadds_k02_whole_primes_and_steps.Holds := by
  w_on; o_law
  refine HandSHeadRun.head_imp (r := OpenLaw.row PySem.Challenge.rw_narrowadds_k02_whole_primes_and_steps) (q := view (OpenLaw.row PySem.Challenge.rw_narrowadds_k02_whole_primes_and_steps).prog [0, 20]) (H := Gk02.hk) (ob := Gk02.ob) (M := 4000) (loose := Gk02.lo) (d := HandSHeadRun.topDef (OpenLaw.row PySem.Challenge.rw_narrowadds_k02_whole_primes_and_steps).prog 20) (kwd := []) Gk02.ob_eq
    Gk02.run (by kernel_rfl) (by kernel_rfl) (by kernel_rfl) (by rfl) (by first | assumption | decide +kernel) (by decide +kernel) ⟨rfl, rfl, rfl, rfl, rfl, by decide +kernel⟩ ?hw ?hc
  case hw => w_witness2
  case hc =>
    exact Nw.walk_nw (l := PySem.Challenge.rw_narrowadds_k02_whole_primes_and_steps) (n := 63) (k := 6) (x := "script") (C := Gk02.Cc) (dL := Gk02.d_law) (F := Gk02.F_law) rfl (by decide) (by kernel_rfl) ⟨rfl, by decide, by decide⟩ (by kernel_rfl)
      (fun w K mg base E => Gk02.ok_law base E) (fun _ _ _ _ _ _ us hl => match us, hl with | [_], _ => rfl) (fun ns h1 h2 => Gk02.s_law ns h1)
