import PyProof.Rows.All
import Wide.All
import OpenK.AllK
import Wide.FinOn
import HandS.ForExc
import HandS.Comp
import HandS.Iter
import HandS.Wide
import HandS.CallSlots
import HandS.IsInst
import HandS.TryMany
import HandS.Defaults
import HandS.HeadHook1
import HandS.HeadHook2
import HandS.TupAny
import HandS.Style
import HandS.Zip
import HandS.ExcIs
import HandS.ExcField
import HandS.ExcValue
import HandS.Head0
import HandS.Head1
import HandS.Head2
import HandS.HeadEnd
import HandS.More
import KE.KStateDown
import PyProof.Rows.Digits
import PyProof.Rows.StrOr
import HandS.Text
import HandS.FStr
import HandS.Deep
import HandS.ExcInit
import HandS.SetFor
import KE.DataFind
import HandS.Conv
import KE.KExcIs
import HandS.Dict
import PyProof.StrOps2
import KE.KIntText
import HandS.TryOnly
import PySem.Challenge.RW_helmsum_k91_numbers_and_rows_read
set_option Elab.async false
set_option linter.all false
set_option maxRecDepth 100000
set_option maxHeartbeats 4000000
namespace Hm
open PySem PySem.Spec PyProof.Rows L2
inductive D where
  | non | bl (b : Bool) | int (i : Int) | str (x : Str) | tup (ds : List D) | scr (ns : List Int) | loc (n : Nat)
inductive Ob where
  | lst (ds : List D)
  | ins (c : Str) (fs : List (Str × D))
  | dic (kvs : List (Key × D))
abbrev Sto := List Ob
section
variable (K : PySem.W.Frag) (m : List Addr) (H : Hp)
mutual
def RD : D → V → Prop
  | .non, v => v = .non
  | .bl b, v => v = .bl b
  | .int i, v => v = .int i
  | .str x, v => v = .str x
  | .tup ds, v => ∃ a vs, v = .ref a ∧ SqT K H a vs ∧ RDs ds vs
  | .scr ns, v => ∃ a, v = .ref a ∧ ((∃ o, H a = some (.frz o (.lst (ns.map V.int)))) ∨ SqL K (fun _ => none) a (ns.map V.int))
  | .loc n, v => ∃ a, v = .ref a ∧ m[n]? = some a
def RDs : List D → List V → Prop
  | [], vs => vs = []
  | d :: ds, vs => ∃ v r, vs = v :: r ∧ RD d v ∧ RDs ds r
end
def RFs : List (Str × D) → List (Str × V) → Prop
  | [], vs => vs = []
  | d :: ds, vs => ∃ v r, vs = (d.1, v) :: r ∧ RD K m H d.2 v ∧ RFs ds r
def RKs : List (Key × D) → List (Key × V) → Prop
  | [], vs => vs = []
  | d :: ds, vs => ∃ v r, vs = (d.1, v) :: r ∧ RD K m H d.2 v ∧ RKs ds r
def ObR : Ob → Addr → Prop
  | .lst ds, a => ∃ vs, H a = some (.lst vs) ∧ RDs K m H ds vs
  | .ins c fs, a => ∃ dx vs, H a = some (.ins (He.ga K c) dx vs) ∧ RFs K m H fs vs
  | .dic kvs, a => ∃ vs, H a = some (.dK vs) ∧ RKs K m H kvs vs
end
structure Rep (K : PySem.W.Frag) (m : List Addr) (S : Sto) (H : Hp) : Prop where
  len : m.length = S.length
  nd : m.Nodup
  at_ : ∀ (n : Nat) (a : Addr) (ob : Ob), m[n]? = some a → S[n]? = some ob → ObR K m H ob a
structure Sta (m m' : List Addr) (H H' : Hp) : Prop where
  pre : ∃ g, m' = m ++ g
  tup : ∀ b xs, H b = some (.tup xs) → H' b = some (.tup xs)
  frz : ∀ b o u, H b = some (.frz o u) → H' b = some (.frz o u)
structure Gro (m m' : List Addr) (H H' : Hp) : Prop where
  pre : ∃ g, m' = m ++ g
  tup : ∀ b xs, H b = some (.tup xs) → H' b = some (.tup xs)
  frz : ∀ b o u, H b = some (.frz o u) → H' b = some (.frz o u)
  fr : ∀ b o, b ∉ m → H b = some o → H' b = some o
  new : ∀ b ∈ m', b ∉ m → H b = none
theorem Gro.refl (m : List Addr) (H : Hp) : Gro m m H H := ⟨⟨[], by simp⟩, fun _ _ h => h, fun _ _ _ h => h, fun _ _ _ h => h, fun b h h' => absurd h h'⟩
theorem Gro.trans {m m1 m2 : List Addr} {H H1 H2 : Hp} (a : Gro m m1 H H1) (b : Gro m1 m2 H1 H2) : Gro m m2 H H2 := by
  obtain ⟨g, e⟩ := a.pre
  obtain ⟨g', e'⟩ := b.pre
  refine ⟨⟨g ++ g', by rw [e', e, List.append_assoc]⟩, fun c xs h => b.tup c xs (a.tup c xs h), fun c o u h => b.frz c o u (a.frz c o u h), fun c o hc h => ?_, fun x h2 h0 => ?_⟩
  · by_cases h1 : c ∈ m1
    · have := a.new c h1 hc
      rw [this] at h; cases h
    · exact b.fr c o h1 (a.fr c o hc h)
  · by_cases h1 : x ∈ m1
    · exact a.new x h1 h0
    · have q := b.new x h2 h1
      cases e0 : H x with
      | none => rfl
      | some o => rw [a.fr x o h0 e0] at q; cases q
theorem Gro.sta {m m' : List Addr} {H H' : Hp} (g : Gro m m' H H') : Sta m m' H H' := ⟨g.pre, g.tup, g.frz⟩
theorem Sta.ix {m m' : List Addr} {H H' : Hp} (g : Sta m m' H H') {n : Nat} {a : Addr} (h : m[n]? = some a) : m'[n]? = some a := by
  obtain ⟨r, e⟩ := g.pre
  have hl : n < m.length := by
    rcases Nat.lt_or_ge n m.length with q | q
    · exact q
    · rw [List.getElem?_eq_none q] at h; cases h
  rw [e, List.getElem?_append_left hl]; exact h
section
variable {K : PySem.W.Frag} {m m' : List Addr} {H H' : Hp}
theorem sqT_mono (g : Sta m m' H H') {a : Addr} {vs : List V} (h : SqT K H a vs) : SqT K H' a vs := by
  rcases h with (h | ⟨o, h⟩) | h
  · exact .inl (.inl (g.tup _ _ h))
  · exact .inl (.inr ⟨o, g.frz _ _ _ h⟩)
  · exact .inr h
mutual
theorem RD.mono (g : Sta m m' H H') : ∀ (d : D) (v : V), RD K m H d v → RD K m' H' d v
  | .non, _, h => h
  | .bl _, _, h => h
  | .int _, _, h => h
  | .str _, _, h => h
  | .tup ds, _, h => by
    obtain ⟨a, vs, e, s, r⟩ := h
    exact ⟨a, vs, e, sqT_mono g s, RDs.mono g ds vs r⟩
  | .scr ns, _, h => by
    obtain ⟨a, e, h⟩ := h
    refine ⟨a, e, ?_⟩
    rcases h with ⟨o, h⟩ | h
    · exact .inl ⟨o, g.frz _ _ _ h⟩
    · exact .inr h
  | .loc n, _, h => by
    obtain ⟨a, e, h⟩ := h
    exact ⟨a, e, g.ix h⟩
theorem RDs.mono (g : Sta m m' H H') : ∀ (ds : List D) (vs : List V), RDs K m H ds vs → RDs K m' H' ds vs
  | [], _, h => h
  | d :: ds, _, h => by
    obtain ⟨v, r, e, h1, h2⟩ := h
    exact ⟨v, r, e, RD.mono g d v h1, RDs.mono g ds r h2⟩
end
theorem RFs.mono (g : Sta m m' H H') : ∀ (ds : List (Str × D)) (vs : List (Str × V)), RFs K m H ds vs → RFs K m' H' ds vs
  | [], _, h => h
  | d :: ds, _, h => by
    obtain ⟨v, r, e, h1, h2⟩ := h
    exact ⟨v, r, e, RD.mono g d.2 v h1, RFs.mono g ds r h2⟩
theorem RKs.mono (g : Sta m m' H H') : ∀ (ds : List (Key × D)) (vs : List (Key × V)), RKs K m H ds vs → RKs K m' H' ds vs
  | [], _, h => h
  | d :: ds, _, h => by
    obtain ⟨v, r, e, h1, h2⟩ := h
    exact ⟨v, r, e, RD.mono g d.2 v h1, RKs.mono g ds r h2⟩
theorem ObR.mono (g : Sta m m' H H') {ob : Ob} {a : Addr} (h : ObR K m H ob a) (e : ∀ o, H a = some o → H' a = some o) : ObR K m' H' ob a := by
  cases ob with
  | lst ds => obtain ⟨vs, h1, h2⟩ := h; exact ⟨vs, e _ h1, RDs.mono g _ _ h2⟩
  | ins c fs => obtain ⟨dx, vs, h1, h2⟩ := h; exact ⟨dx, vs, e _ h1, RFs.mono g _ _ h2⟩
  | dic ks => obtain ⟨vs, h1, h2⟩ := h; exact ⟨vs, e _ h1, RKs.mono g _ _ h2⟩
theorem ObR.tracked {ob : Ob} {a : Addr} (h : ObR K m H ob a) : ∃ o, H a = some o ∧ (∀ xs, o ≠ .tup xs) ∧ (∀ x u, o ≠ .frz x u) := by
  cases ob with
  | lst ds => obtain ⟨vs, h1, h2⟩ := h; exact ⟨_, h1, (fun _ z => by cases z), (fun _ _ z => by cases z)⟩
  | ins c fs => obtain ⟨dx, vs, h1, h2⟩ := h; exact ⟨_, h1, (fun _ z => by cases z), (fun _ _ z => by cases z)⟩
  | dic ks => obtain ⟨vs, h1, h2⟩ := h; exact ⟨_, h1, (fun _ z => by cases z), (fun _ _ z => by cases z)⟩
theorem RDs.length : ∀ {ds : List D} {vs : List V}, RDs K m H ds vs → ds.length = vs.length
  | [], _, h => by rw [show _ = [] from h]; rfl
  | d :: ds, _, h => by
    obtain ⟨v, r, e, _, h2⟩ := h
    rw [e, List.length_cons, List.length_cons, RDs.length h2]
theorem RDs.get : ∀ {ds : List D} {vs : List V} {i : Nat} {d : D}, RDs K m H ds vs → ds[i]? = some d → ∃ v, vs[i]? = some v ∧ RD K m H d v
  | [], _, _, _, _, e => by simp at e
  | d :: ds, _, 0, _, h, e => by
    obtain ⟨v, r, rfl, h1, _⟩ := h
    simp at e; subst e
    exact ⟨v, rfl, h1⟩
  | d :: ds, _, i + 1, x, h, e => by
    obtain ⟨v, r, rfl, _, h2⟩ := h
    obtain ⟨w, q1, q2⟩ := RDs.get (i := i) (d := x) h2 (by simpa using e)
    exact ⟨w, by simpa using q1, q2⟩
theorem RDs.append : ∀ {ds es : List D} {vs ws : List V}, RDs K m H ds vs → RDs K m H es ws → RDs K m H (ds ++ es) (vs ++ ws)
  | [], _, _, _, h, h' => by rw [show _ = [] from h]; exact h'
  | d :: ds, _, _, _, h, h' => by
    obtain ⟨v, r, rfl, h1, h2⟩ := h
    exact ⟨v, r ++ _, rfl, h1, RDs.append h2 h'⟩
theorem RDs.set {d : D} {v : V} (q : RD K m H d v) : ∀ {ds : List D} {vs : List V} (i : Nat), RDs K m H ds vs → RDs K m H (ds.set i d) (vs.set i v)
  | [], _, _, h => by rw [show _ = [] from h]; rfl
  | x :: ds, _, 0, h => by
    obtain ⟨w, r, rfl, h1, h2⟩ := h
    exact ⟨v, r, rfl, q, h2⟩
  | x :: ds, _, i + 1, h => by
    obtain ⟨w, r, rfl, h1, h2⟩ := h
    exact ⟨w, r.set i v, rfl, h1, RDs.set q i h2⟩
theorem RDs.take : ∀ {ds : List D} {vs : List V} (n : Nat), RDs K m H ds vs → RDs K m H (ds.take n) (vs.take n)
  | _, _, 0, _ => by rw [List.take_zero, List.take_zero]; rfl
  | [], _, n + 1, h => by rw [show _ = [] from h]; rfl
  | x :: ds, _, n + 1, h => by
    obtain ⟨w, r, rfl, h1, h2⟩ := h
    exact ⟨w, r.take n, rfl, h1, RDs.take n h2⟩
theorem RDs.drop : ∀ {ds : List D} {vs : List V} (n : Nat), RDs K m H ds vs → RDs K m H (ds.drop n) (vs.drop n)
  | _, _, 0, h => h
  | [], _, n + 1, h => by rw [show _ = [] from h]; rfl
  | x :: ds, _, n + 1, h => by
    obtain ⟨w, r, rfl, h1, h2⟩ := h
    exact RDs.drop (ds := ds) (vs := r) n h2
theorem RDs.one {d : D} {v : V} (h : RD K m H d v) : RDs K m H [d] [v] := ⟨v, [], rfl, h, rfl⟩
theorem RDs.inv1 {d : D} {vs : List V} (h : RDs K m H [d] vs) : ∃ v, vs = [v] ∧ RD K m H d v := by
  obtain ⟨v, r, rfl, h1, h2⟩ := h
  rw [show r = [] from h2]
  exact ⟨v, rfl, h1⟩
theorem RDs.inv2 {d e : D} {vs : List V} (h : RDs K m H [d, e] vs) : ∃ v w, vs = [v, w] ∧ RD K m H d v ∧ RD K m H e w := by
  obtain ⟨v, r, rfl, h1, h2⟩ := h
  obtain ⟨w, rfl, h3⟩ := RDs.inv1 h2
  exact ⟨v, w, rfl, h1, h3⟩
theorem RDs.ints : ∀ (ns : List Int), RDs K m H (ns.map D.int) (ns.map V.int)
  | [] => rfl
  | n :: ns => ⟨.int n, ns.map V.int, rfl, rfl, RDs.ints ns⟩
end
section
variable {K : PySem.W.Frag} {m : List Addr} {S : Sto} {H : Hp}
theorem Rep.there (r : Rep K m S H) {n : Nat} {a : Addr} (h : m[n]? = some a) : ∃ ob, S[n]? = some ob ∧ ObR K m H ob a := by
  have hl : n < m.length := by
    rcases Nat.lt_or_ge n m.length with q | q
    · exact q
    · rw [List.getElem?_eq_none q] at h; cases h
  have e : S[n]? = some (S[n]'(by rw [← r.len]; exact hl)) := List.getElem?_eq_getElem _
  exact ⟨_, e, r.at_ n _ _ h e⟩
theorem Rep.mem_tracked (r : Rep K m S H) {a : Addr} (h : a ∈ m) : ∃ o, H a = some o ∧ (∀ xs, o ≠ .tup xs) ∧ (∀ x u, o ≠ .frz x u) := by
  obtain ⟨n, hn, e⟩ := List.getElem_of_mem h
  have e' : m[n]? = some a := by rw [List.getElem?_eq_getElem hn, e]
  obtain ⟨ob, _, q⟩ := r.there e'
  exact q.tracked
theorem Rep.fresh (r : Rep K m S H) {p : Addr} (h : H p = none) : p ∉ m := fun q => by
  obtain ⟨o, e, _⟩ := r.mem_tracked q
  rw [h] at e; cases e
theorem gro_new {p : Addr} {o : HO} (h : H p = none) : Gro m m H (upd H p o) :=
  ⟨⟨[], by simp⟩, fun b xs e => by rw [upd_ne (ne_of_none e h)]; exact e, fun b x u e => by rw [upd_ne (ne_of_none e h)]; exact e,
   fun b x _ e => by rw [upd_ne (ne_of_none e h)]; exact e, fun b h1 h2 => absurd h1 h2⟩
theorem Rep.tupd (r : Rep K m S H) {p : Addr} {o : HO} (h : H p = none) : Rep K m S (upd H p o) :=
  ⟨r.len, r.nd, fun n a ob h1 h2 => (r.at_ n a ob h1 h2).mono (gro_new h).sta fun o e => by rw [upd_ne (ne_of_none e h)]; exact e⟩
theorem gro_alloc {p : Addr} {o : HO} (h : H p = none) : Gro m (m ++ [p]) H (upd H p o) :=
  ⟨⟨[p], rfl⟩, fun b xs e => by rw [upd_ne (ne_of_none e h)]; exact e, fun b x u e => by rw [upd_ne (ne_of_none e h)]; exact e,
   fun b x _ e => by rw [upd_ne (ne_of_none e h)]; exact e, fun b h1 h2 => by
     rcases List.mem_append.mp h1 with q | q
     · exact absurd q h2
     · have : b = p := by simpa using q
       rw [this]; exact h⟩
theorem Rep.alloc (r : Rep K m S H) {p : Addr} {ob : Ob} {o : HO} (h : H p = none) (hr : ObR K (m ++ [p]) (upd H p o) ob p) : Rep K (m ++ [p]) (S ++ [ob]) (upd H p o) := by
  refine ⟨by rw [List.length_append, List.length_append, r.len]; rfl, ?_, fun n a ob' h1 h2 => ?_⟩
  · rw [List.nodup_append]
    refine ⟨r.nd, by simp, fun a ha b hb => ?_⟩
    have : b = p := by simpa using hb
    subst this
    intro e; subst e
    exact r.fresh h ha
  · by_cases hn : n < m.length
    · rw [List.getElem?_append_left hn] at h1
      rw [List.getElem?_append_left (by rw [← r.len]; exact hn)] at h2
      exact (r.at_ n a ob' h1 h2).mono (gro_alloc h).sta fun o e => by rw [upd_ne (ne_of_none e h)]; exact e
    · have hl : n < (m ++ [p]).length := by
        rcases Nat.lt_or_ge n (m ++ [p]).length with q | q
        · exact q
        · rw [List.getElem?_eq_none q] at h1; cases h1
      have en : n = m.length := by rw [List.length_append] at hl; simp at hl; omega
      subst en
      rw [List.getElem?_append_right (Nat.le_refl _)] at h1
      rw [r.len, List.getElem?_append_right (Nat.le_refl _)] at h2
      simp at h1 h2
      subst h1; subst h2
      exact hr
theorem gro_write {a : Addr} {o u : HO} (h : H a = some o) (hm : a ∈ m) (h1 : ∀ xs, o ≠ .tup xs) (h2 : ∀ x v, o ≠ .frz x v) : Gro m m H (upd H a u) :=
  ⟨⟨[], by simp⟩, fun b xs e => by
      by_cases hb : b = a
      · subst hb; rw [h] at e; exact absurd (Option.some.inj e) (h1 xs)
      · rw [upd_ne hb]; exact e, fun b x v e => by
      by_cases hb : b = a
      · subst hb; rw [h] at e; exact absurd (Option.some.inj e) (h2 x v)
      · rw [upd_ne hb]; exact e, fun b x hb e => by rw [upd_ne (fun z => hb (by rw [z]; exact hm))]; exact e, fun b h1 h2 => absurd h1 h2⟩
theorem Rep.write (r : Rep K m S H) {n : Nat} {a : Addr} {ob : Ob} {o : HO} (hn : m[n]? = some a) (hr : ObR K m (upd H a o) ob a) : Rep K m (S.set n ob) (upd H a o) := by
  refine ⟨by rw [List.length_set, r.len], r.nd, fun i b ob' h1 h2 => ?_⟩
  obtain ⟨u, hu, n1, n2⟩ := r.mem_tracked (List.mem_of_getElem? hn)
  by_cases hi : i = n
  · subst hi
    rw [hn] at h1; cases h1
    have : i < S.length := by
      rcases Nat.lt_or_ge i S.length with q | q
      · exact q
      · rw [List.getElem?_eq_none (by simpa using q)] at h2; cases h2
    rw [List.getElem?_set_self this] at h2; cases h2
    exact hr
  · rw [List.getElem?_set_ne (Ne.symm hi)] at h2
    have hba : b ≠ a := fun e => by
      subst e
      have hi' : i < m.length := by
        rcases Nat.lt_or_ge i m.length with q | q
        · exact q
        · rw [List.getElem?_eq_none q] at h1; cases h1
      have hn' : n < m.length := by
        rcases Nat.lt_or_ge n m.length with q | q
        · exact q
        · rw [List.getElem?_eq_none q] at hn; cases hn
      have z := List.pairwise_iff_getElem.mp r.nd
      have e1 : m[i] = b := by rw [List.getElem?_eq_getElem hi'] at h1; exact Option.some.inj h1
      have e2 : m[n] = b := by rw [List.getElem?_eq_getElem hn'] at hn; exact Option.some.inj hn
      rcases Nat.lt_trichotomy i n with q | q | q
      · exact z i n hi' hn' q (e1.trans e2.symm)
      · exact hi q
      · exact z n i hn' hi' q (e2.trans e1.symm)
    exact (r.at_ i b ob' h1 h2).mono (gro_write hu (List.mem_of_getElem? hn) n1 n2).sta fun o e => by rw [upd_ne hba]; exact e
theorem Rep.adopt (r : Rep K m S H) {p : Addr} {ob : Ob} (hp : p ∉ m) (h : ObR K m H ob p) : Rep K (m ++ [p]) (S ++ [ob]) H := by
  have sta : Sta m (m ++ [p]) H H := ⟨⟨[p], rfl⟩, fun _ _ h => h, fun _ _ _ h => h⟩
  refine ⟨by rw [List.length_append, List.length_append, r.len]; rfl, ?_, fun n a ob' h1 h2 => ?_⟩
  · rw [List.nodup_append]
    refine ⟨r.nd, by simp, fun a ha b hb => ?_⟩
    have : b = p := by simpa using hb
    subst this
    intro e; subst e
    exact hp ha
  · by_cases hn : n < m.length
    · rw [List.getElem?_append_left hn] at h1
      rw [List.getElem?_append_left (by rw [← r.len]; exact hn)] at h2
      exact (r.at_ n a ob' h1 h2).mono sta fun o e => e
    · have hl : n < (m ++ [p]).length := by
        rcases Nat.lt_or_ge n (m ++ [p]).length with q | q
        · exact q
        · rw [List.getElem?_eq_none q] at h1; cases h1
      have en : n = m.length := by rw [List.length_append] at hl; simp at hl; omega
      subst en
      rw [List.getElem?_append_right (Nat.le_refl _)] at h1
      rw [r.len, List.getElem?_append_right (Nat.le_refl _)] at h2
      simp at h1 h2
      subst h1; subst h2
      exact h.mono sta fun o e => e
end
abbrev Ev := List (Option D)
abbrev Sg := List (Option V)
def ER (K : PySem.W.Frag) (m : List Addr) (H : Hp) (r : Ev) (q : Sg) : Prop := r.length = q.length ∧ ∀ (i : Nat) (d : D), r[i]? = some (some d) → ∃ v, q[i]? = some (some v) ∧ RD K m H d v
theorem ER.mono {K : PySem.W.Frag} {m m' : List Addr} {H H' : Hp} {r : Ev} {q : Sg} (h : ER K m H r q) (g : Sta m m' H H') : ER K m' H' r q :=
  ⟨h.1, fun i d e => let ⟨v, a, b⟩ := h.2 i d e; ⟨v, a, RD.mono g d v b⟩⟩
theorem ER.set {K : PySem.W.Frag} {m : List Addr} {H : Hp} {r : Ev} {q : Sg} (h : ER K m H r q) {d : D} {v : V} (e : RD K m H d v) (i : Nat) : ER K m H (r.set i (some d)) (q.set i (some v)) := by
  refine ⟨by rw [List.length_set, List.length_set, h.1], fun j x hj => ?_⟩
  by_cases hi : j = i
  · subst hi
    have hl : j < r.length := by
      rcases Nat.lt_or_ge j r.length with z | z
      · exact z
      · rw [List.getElem?_eq_none (by simpa using z)] at hj; cases hj
    rw [List.getElem?_set_self hl] at hj
    have ex : d = x := by simpa using hj
    subst ex
    rw [List.getElem?_set_self (by rw [← h.1]; exact hl)]
    exact ⟨v, rfl, e⟩
  · rw [List.getElem?_set_ne (Ne.symm hi)] at hj
    rw [List.getElem?_set_ne (Ne.symm hi)]
    exact h.2 j x hj
theorem ER.unset {K : PySem.W.Frag} {m : List Addr} {H : Hp} {r : Ev} {q : Sg} (h : ER K m H r q) (i : Nat) : ER K m H (r.set i none) (q.set i none) := by
  refine ⟨by rw [List.length_set, List.length_set, h.1], fun j x hj => ?_⟩
  by_cases hi : j = i
  · subst hi
    have hl : j < r.length := by
      rcases Nat.lt_or_ge j r.length with z | z
      · exact z
      · rw [List.getElem?_eq_none (by simpa using z)] at hj; cases hj
    rw [List.getElem?_set_self hl] at hj
    cases hj
  · rw [List.getElem?_set_ne (Ne.symm hi)] at hj
    rw [List.getElem?_set_ne (Ne.symm hi)]
    exact h.2 j x hj
def wipeD (r : Ev) : List Nat → Ev
  | [] => r
  | v :: vs => (wipeD r vs).set v none
theorem ER.wipe {K : PySem.W.Frag} {m : List Addr} {H : Hp} {r : Ev} {q : Sg} (h : ER K m H r q) : ∀ vs : List Nat, ER K m H (wipeD r vs) (L2.wipe q vs)
  | [] => h
  | v :: vs => (ER.wipe h vs).unset v
structure Ex where
  cls : Str
  fld : Option (Str × D)
inductive Rs (α : Type) where
  | ok (a : α) (S : Sto)
  | exc (e : Ex) (S : Sto)
  | bad
def Rs.bind {α β : Type} (r : Rs α) (f : α → Sto → Rs β) : Rs β := match r with
  | .ok a S => f a S
  | .exc e S => .exc e S
  | .bad => .bad
def Rs.map {α β : Type} (r : Rs α) (f : α → β) : Rs β := r.bind fun a S => .ok (f a) S
def Rs.nox {α : Type} (r : Rs α) : Rs α := match r with
  | .ok a S => .ok a S
  | _ => .bad
def XR (K : PySem.W.Frag) (m : List Addr) (H : Hp) (e : Ex) (cls : Value) (d : Option Addr) : Prop :=
  cls = .ref (He.ga K e.cls) ∧ match e.fld with
    | none => d = none
    | some (n, x) => ∃ a v, d = some a ∧ H a = some (.xd [(n, v)]) ∧ RD K m H x v
section
variable (K : PySem.W.Frag) (W : XK) (m : List Addr) (H : Hp)
def Post {α : Type} (r : Rs α) (good : α → Sto → List Addr → Hp → Prop) : Prop := match r with
  | .ok a S' => ∀ m' H', Gro m m' H H' → Rep K m' S' H' → good a S' m' H'
  | .exc e S' => ∀ m' H' cls d, Gro m m' H H' → Rep K m' S' H' → XR K m' H' e cls d → W cls d H'
  | .bad => False
end
section
variable {K : PySem.W.Frag} {W : XK} {m : List Addr} {H : Hp}
theorem Post.mono {α : Type} {r : Rs α} {g g' : α → Sto → List Addr → Hp → Prop} (h : Post K W m H r g) (i : ∀ a S' m' H', Gro m m' H H' → Rep K m' S' H' → g a S' m' H' → g' a S' m' H') : Post K W m H r g' := by
  cases r with
  | ok a S => exact fun m' H' h1 h2 => i a S m' H' h1 h2 (h m' H' h1 h2)
  | exc e S => exact h
  | bad => exact h
theorem Post.split {α β : Type} {r : Rs α} {f : α → Sto → Rs β} {g : β → Sto → List Addr → Hp → Prop} (h : Post K W m H (r.bind f) g) :
    Post K W m H r (fun a S1 m1 H1 => Post K W m1 H1 (f a S1) g) := by
  cases r with
  | ok a S =>
    intro m1 H1 g1 r1
    show Post K W m1 H1 (f a S) g
    have h' : Post K W m H (f a S) g := h
    revert h'
    generalize f a S = q
    intro h'
    cases q with
    | ok b S2 => exact fun m2 H2 g2 r2 => h' m2 H2 (g1.trans g2) r2
    | exc e S2 => exact fun m2 H2 c d g2 r2 x => h' m2 H2 c d (g1.trans g2) r2 x
    | bad => exact h'
  | exc e S => exact h
  | bad => exact h
theorem Post.at {α : Type} {a : α} {S : Sto} {g : α → Sto → List Addr → Hp → Prop} (h : Post K W m H (.ok a S) g) (r : Rep K m S H) : g a S m H := h m H (Gro.refl _ _) r
theorem Post.later {α : Type} {r : Rs α} {m1 : List Addr} {H1 : Hp} {g : α → Sto → List Addr → Hp → Prop} (h : Post K W m H r g) (g1 : Gro m m1 H H1) : Post K W m1 H1 r g := by
  cases r with
  | ok b S2 => exact fun m2 H2 g2 r2 => h m2 H2 (g1.trans g2) r2
  | exc e S2 => exact fun m2 H2 c d g2 r2 x => h m2 H2 c d (g1.trans g2) r2 x
  | bad => exact h
end
abbrev DE := Ev → Sto → Rs D
abbrev DB := Ev → Sto → Rs Bool
abbrev DA := Ev → Sto → Rs (List D)
inductive Rt where
  | nx (r : Ev) (S : Sto) | rt (d : D) (S : Sto) | bk (r : Ev) (S : Sto) | ct (r : Ev) (S : Sto) | exc (e : Ex) (r : Ev) (S : Sto) | bad
abbrev DS := Ev → Sto → Rt
abbrev PV (K : PySem.W.Frag) (W : XK) (m : List Addr) (H : Hp) (r : Rs D) (Q : VK) : Prop := Post K W m H r fun a _ m' H' => ∀ v, RD K m' H' a v → Q v H'
abbrev PA1 (K : PySem.W.Frag) (W : XK) (m : List Addr) (H : Hp) (r : Rs (List D)) (Q : List V → Hp → Prop) : Prop := Post K W m H r fun a _ m' H' => ∀ v, RDs K m' H' a v → Q v H'
abbrev PB (K : PySem.W.Frag) (W : XK) (m : List Addr) (H : Hp) (r : Rs Bool) (Q : Bool → Hp → Prop) : Prop := Post K W m H r fun a _ _ H' => Q a H'
abbrev WX.at (W : WX) (σ : L2.St) : XK := fun c x H => W c x σ H
def PostS (K : PySem.W.Frag) (W : WX) (m : List Addr) (H : Hp) (x : Rt) (D : Ends) : Prop := match x with
  | .nx r S => ∀ m' H' σ, Gro m m' H H' → Rep K m' S H' → ER K m' H' r σ → D.nx σ H'
  | .rt a S => ∀ m' H' v, Gro m m' H H' → Rep K m' S H' → RD K m' H' a v → D.rt v H'
  | .bk r S => ∀ m' H' σ, Gro m m' H H' → Rep K m' S H' → ER K m' H' r σ → D.bk σ H'
  | .ct r S => ∀ m' H' σ, Gro m m' H H' → Rep K m' S H' → ER K m' H' r σ → D.ct σ H'
  | .exc e r S => ∀ m' H' σ cls d, Gro m m' H H' → Rep K m' S H' → ER K m' H' r σ → XR K m' H' e cls d → W cls d σ H'
  | .bad => False
def tE (K : PySem.W.Frag) (W : WX) (d : DE) : TE := fun σ H Q => ∃ m r S, Rep K m S H ∧ ER K m H r σ ∧ PV K (WX.at W σ) m H (d r S) Q
def tA (K : PySem.W.Frag) (W : WX) (d : DA) : TA := fun σ H Q => ∃ m r S, Rep K m S H ∧ ER K m H r σ ∧ PA1 K (WX.at W σ) m H (d r S) Q
def tT (K : PySem.W.Frag) (W : WX) (d : DB) : TT := fun σ H Q => ∃ m r S, Rep K m S H ∧ ER K m H r σ ∧ PB K (WX.at W σ) m H (d r S) Q
def tS (K : PySem.W.Frag) (W : WX) (d : DS) : TS := fun D σ H => ∃ m r S, Rep K m S H ∧ ER K m H r σ ∧ PostS K W m H (d r S) D
abbrev GE (X : Cx) (W : WX) (e : Expr) (d : DE) : Prop := PE X e (tE X.K W d)
abbrev GA (X : Cx) (W : WX) (es : List Expr) (d : DA) : Prop := PA X es (tA X.K W d)
abbrev GT (X : Cx) (W : WX) (e : Expr) (d : DB) : Prop := PT X e (tT X.K W d)
abbrev GW (X : Cx) (W : WX) (e : Expr) (d : DB) : Prop := PW X e (tT X.K W d)
abbrev GS (X : Cx) (W : WX) (st : Stmt) (d : DS) : Prop := PS X st (tS X.K W d)
abbrev GSs (X : Cx) (W : WX) (st : List Stmt) (d : DS) : Prop := PSs X st (tS X.K W d)
abbrev W0 : XK := fun _ _ _ => False
section
variable {X : Cx}
theorem PE.imp {e : Expr} {t t' : TE} (h : PE X e t) (i : ∀ σ H Q, t' σ H Q → t σ H Q) : PE X e t' := ⟨fun pins s σ H Q I q => h.run pins s σ H Q I (i σ H Q q)⟩
theorem PT.imp {e : Expr} {t t' : TT} (h : PT X e t) (i : ∀ σ H Q, t' σ H Q → t σ H Q) : PT X e t' := ⟨fun pins s σ H Q I q => h.run pins s σ H Q I (i σ H Q q)⟩
theorem PW.imp {e : Expr} {t t' : TT} (h : PW X e t) (i : ∀ σ H Q, t' σ H Q → t σ H Q) : PW X e t' := ⟨fun wh pins s σ H Q I q => h.run wh pins s σ H Q I (i σ H Q q)⟩
theorem PA.imp {e : List Expr} {t t' : TA} (h : PA X e t) (i : ∀ σ H Q, t' σ H Q → t σ H Q) : PA X e t' := ⟨fun pos pins s σ H Q I q => h.run pos pins s σ H Q I (i σ H Q q)⟩
theorem PS.imp {e : Stmt} {t t' : TS} (h : PS X e t) (i : ∀ D σ H, t' D σ H → t D σ H) : PS X e t' := ⟨fun pins s σ H D I q => h.run pins s σ H D I (i D σ H q)⟩
theorem PSs.imp {e : List Stmt} {t t' : TS} (h : PSs X e t) (i : ∀ D σ H, t' D σ H → t D σ H) : PSs X e t' := ⟨fun pins s σ H D I q => h.run pins s σ H D I (i D σ H q)⟩
end
section
variable {K : PySem.W.Frag} {W : XK} {m : List Addr} {S : Sto} {H : Hp}
theorem Post.nox0 {α : Type} {r : Rs α} {g : α → Sto → List Addr → Hp → Prop} (h : Post K W m H r.nox g) : Post K W0 m H r g := by
  cases r with
  | ok a S => exact h
  | exc e S => exact h.elim
  | bad => exact h.elim
end
def dV (i : Nat) : DE := fun r S => match r[i]? with
  | some (some d) => .ok d S
  | _ => .bad
def dC (d : D) : DE := fun _ S => .ok d S
section
variable {X : Cx} {W : WX}
theorem ge_var (i : Nat) {x : Str} {pos : Pos} (hN : X.N[i]? = some x := by rfl) (hv : Vis X.env.scope x := by first | exact Or.inl rfl | exact Or.inr (Or.inl rfl) | exact Or.inr (Or.inr rfl)) (hd : (x == ("__debug__" : Str)) = false := by decide)
    (hcd : (x == ("__classdict__" : Str)) = false := by decide) : GE X W (.Name x pos) (dV i) := by
  refine PE.imp (pe_var hN hv hd hcd) fun σ H Q h => ?_
  obtain ⟨m, r, S, R, E, p⟩ := h
  unfold dV at p
  cases e : r[i]? with
  | none => rw [e] at p; exact p.elim
  | some o =>
    rw [e] at p
    cases o with
    | none => exact p.elim
    | some d =>
      obtain ⟨v, h1, h2⟩ := E.2 i d e
      exact ⟨v, h1, p m H (Gro.refl _ _) R v h2⟩
theorem ge_con {e : Expr} {v : V} {d : D} (h : PE X e (tC v)) (q : ∀ m H, RD X.K m H d v) : GE X W e (dC d) :=
  PE.imp h fun σ H Q ⟨m, r, S, R, E, p⟩ => p m H (Gro.refl _ _) R v (q m H)
theorem ge_int {i j pos} : GE X W (.Constant (.int i) j pos) (dC (.int i)) := ge_con pe_int fun _ _ => rfl
theorem ge_bl {b j pos} : GE X W (.Constant (.bool b) j pos) (dC (.bl b)) := ge_con pe_bl fun _ _ => rfl
theorem ge_non {j pos} : GE X W (.Constant .none j pos) (dC .non) := ge_con pe_non fun _ _ => rfl
theorem ge_str {x j pos} : GE X W (.Constant (.str x) j pos) (dC (.str x)) := ge_con pe_str fun _ _ => rfl
end
def OpD (K : PySem.W.Frag) (r : R2) (g : D → D → Sto → Rs D) : Prop :=
  ∀ m H S x y v w Q, Rep K m S H → RD K m H x v → RD K m H y w → PV K W0 m H (g x y S) Q → r v w H Q
def UnD (K : PySem.W.Frag) (r : V → Hp → VK → Prop) (g : D → Sto → Rs D) : Prop :=
  ∀ m H S x v Q, Rep K m S H → RD K m H x v → PV K W0 m H (g x S) Q → r v H Q
def CallD (K : PySem.W.Frag) (r : List V → Hp → VK → Prop) (g : List D → Sto → Rs D) : Prop :=
  ∀ m H S x v Q, Rep K m S H → RDs K m H x v → PV K W0 m H (g x S) Q → r v H Q
def bin (g : D → D → Sto → Rs D) (a b : DE) : DE := fun r S => (a r S).bind fun x S1 => (b r S1).bind fun y S2 => (g x y S2).nox
def una (g : D → Sto → Rs D) (a : DE) : DE := fun r S => (a r S).bind fun x S1 => (g x S1).nox
def dN : DA := fun _ S => .ok [] S
def dK (a : DE) (b : DA) : DA := fun r S => (a r S).bind fun x S1 => (b r S1).bind fun xs S2 => .ok (x :: xs) S2
def cal (g : List D → Sto → Rs D) (a : DA) : DE := fun r S => (a r S).bind fun xs S1 => (g xs S1).nox
section
variable {X : Cx} {W : WX} {a b : Expr} {da db : DE} {es : List Expr} {d : DA} {pos : Pos}
theorem ge_top {e : Expr} {r : R2} {g : D → D → Sto → Rs D} {ta tb : TE} (h : PE X e (tOp r (tE X.K W da) (tE X.K W db))) (hg : OpD X.K r g) : GE X W e (bin g da db) := by
  refine PE.imp h fun σ H Q ⟨m, r, S, R, E, p⟩ => ?_
  refine ⟨m, r, S, R, E, (Post.split p).mono fun x S1 m1 H1 g1 R1 p1 v rv => ?_⟩
  refine ⟨m1, r, S1, R1, E.mono g1.sta, (Post.split p1).mono fun y S2 m2 H2 g2 R2 p2 w rw => ?_⟩
  exact hg m2 H2 S2 x y v w Q R2 (RD.mono g2.sta x v rv) rw (Post.nox0 p2)
theorem ge_op {op : Operator} {r : R2} {g : D → D → Sto → Rs D} (ho : OpR X (binaryOp op) r) (hg : OpD X.K r g) (ha : GE X W a da) (hb : GE X W b db) : GE X W (.BinOp a op b pos) (bin g da db) :=
  ge_top (ta := tE X.K W da) (tb := tE X.K W db) (pe_op ho ha hb) hg
theorem ge_cmp {op : CmpOp} {r : R2} {g : D → D → Sto → Rs D} (ho : OpR X (compareOp op) r) (hg : OpD X.K r g) (ha : GE X W a da) (hb : GE X W b db) (hm : behindInMarks op b = false) : GE X W (.Compare a [op] [b] pos) (bin g da db) :=
  ge_top (ta := tE X.K W da) (tb := tE X.K W db) (pe_cmpR ho ha hb hm) hg
theorem ge_ix {r : R2} {g : D → D → Sto → Rs D} (hr : IxR X r) (hg : OpD X.K r g) (ha : GE X W a da) (hb : GE X W b db) (hs : PlainIx b := by exact fun _ _ => rfl) : GE X W (.Subscript a b pos) (bin g da db) :=
  ge_top (ta := tE X.K W da) (tb := tE X.K W db) (pe_ix hr ha hb hs) hg
theorem ge_un {op : UnaryOp} {r : V → Hp → VK → Prop} {g : D → Sto → Rs D} (ho : UnR X (unaryOp op) r) (hg : UnD X.K r g) (ha : GE X W a da) : GE X W (.UnaryOp op a pos) (una g da) := by
  refine PE.imp (pe_un ho ha) fun σ H Q ⟨m, r, S, R, E, p⟩ => ?_
  exact ⟨m, r, S, R, E, (Post.split p).mono fun x S1 m1 H1 g1 R1 p1 v rv => hg m1 H1 S1 x v Q R1 rv (Post.nox0 p1)⟩
theorem ga_nil : GA X W [] dN := PA.imp pa_nil fun σ H Q ⟨m, r, S, R, E, p⟩ => p m H (Gro.refl _ _) R [] rfl
theorem ga_cons (ha : GE X W a da) (hb : GA X W es d) (hs : starEach (a :: es) X.env = (false, eval a X.env) :: starEach es X.env := by rfl) : GA X W (a :: es) (dK da d) := by
  refine PA.imp (pa_cons ha hb hs) fun σ H Q ⟨m, r, S, R, E, p⟩ => ?_
  refine ⟨m, r, S, R, E, (Post.split p).mono fun x S1 m1 H1 g1 R1 p1 v rv => ?_⟩
  refine ⟨m1, r, S1, R1, E.mono g1.sta, (Post.split p1).mono fun xs S2 m2 H2 g2 R2 p2 vs rvs => ?_⟩
  exact p2 m2 H2 (Gro.refl _ _) R2 (v :: vs) ⟨v, vs, rfl, RD.mono g2.sta x v rv, rvs⟩
theorem ge_tcb {e : Expr} {r : List V → Hp → VK → Prop} {g : List D → Sto → Rs D} (h : PE X e (tCB r (tA X.K W d))) (hg : CallD X.K r g) : GE X W e (cal g d) := by
  refine PE.imp h fun σ H Q ⟨m, r, S, R, E, p⟩ => ?_
  exact ⟨m, r, S, R, E, (Post.split p).mono fun x S1 m1 H1 g1 R1 p1 v rv => hg m1 H1 S1 x v Q R1 rv (Post.nox0 p1)⟩
theorem ge_callB {id : String} {x : Str} {p : Pos} {r : List V → Hp → VK → Prop} {g : List D → Sto → Rs D} (hc : CallR X (.builtin id) r) (hg' : CallD X.K r g) (hv : bootBuiltins x = some (.builtin id)) (hg : Gl X x) (hm : X.mg x = none) (ha : GA X W (a :: es) d)
    (hn : x ≠ "__name__" := by decide) (hdb : (x == ("__debug__" : Str)) = false := by decide) (he : starEach (a :: es) X.env = (false, eval a X.env) :: starEach es X.env := by rfl) (hpl : (backTo pos (starEach es X.env)).any (·.1) = false := by rfl) :
    GE X W (.Call (.Name x p) (a :: es) [] pos) (cal g d) := ge_tcb (pe_callB hc hg hm hv ha hn hdb he hpl) hg'
theorem ge_callTy {T : String} {x : Str} {p : Pos} {r : List V → Hp → VK → Prop} {g : List D → Sto → Rs D} (hc : CallR X (.type T) r) (hg' : CallD X.K r g) (hv : bootBuiltins x = some (.type T)) (hg : Gl X x) (hm : X.mg x = none) (ha : GA X W (a :: es) d)
    (hn : x ≠ "__name__" := by decide) (hdb : (x == ("__debug__" : Str)) = false := by decide) (he : starEach (a :: es) X.env = (false, eval a X.env) :: starEach es X.env := by rfl) (hpl : (backTo pos (starEach es X.env)).any (·.1) = false := by rfl) :
    GE X W (.Call (.Name x p) (a :: es) [] pos) (cal g d) := ge_tcb (pe_callTy hc hg hm hv ha hn hdb he hpl) hg'
end
def newL (ds : List D) (S : Sto) : Rs D := if ds.length ≤ sizeLine then .ok (.loc S.length) (S ++ [.lst ds]) else .bad
def newT (ds : List D) (S : Sto) : Rs D := if ds.length ≤ sizeLine then .ok (.tup ds) S else .bad
section
variable {K : PySem.W.Frag} {W : XK} {m : List Addr} {S : Sto} {H : Hp}
theorem newL_ok {ds : List D} {vs : List V} {Q : VK} (R : Rep K m S H) (h : RDs K m H ds vs) (p : PV K W m H (newL ds S) Q) : vs.length ≤ sizeLine ∧ ∀ l, H l = none → Q (.ref l) (upd H l (.lst vs)) := by
  unfold newL at p
  split at p
  · rename_i hz
    refine ⟨by rw [← h.length]; exact hz, fun l hl => ?_⟩
    refine p (m ++ [l]) _ (gro_alloc hl) (R.alloc hl ⟨vs, upd_same, RDs.mono (gro_alloc hl).sta _ _ h⟩) _ ⟨l, rfl, ?_⟩
    rw [← R.len, List.getElem?_append_right (Nat.le_refl _)]
    simp
  · exact p.elim
theorem newT_ok {ds : List D} {vs : List V} {Q : VK} (R : Rep K m S H) (h : RDs K m H ds vs) (p : PV K W m H (newT ds S) Q) : vs.length ≤ sizeLine ∧ ∀ l, H l = none → Q (.ref l) (upd H l (.tup vs)) := by
  unfold newT at p
  split at p
  · rename_i hz
    exact ⟨by rw [← h.length]; exact hz, fun l hl => p m _ (gro_new hl) (R.tupd hl) _ ⟨l, vs, rfl, .inl (.inl upd_same), RDs.mono (gro_new hl).sta _ _ h⟩⟩
  · exact p.elim
end
def dL (a : DA) : DE := fun r S => (a r S).bind fun xs S1 => newL xs S1
def dT (a : DA) : DE := fun r S => (a r S).bind fun xs S1 => newT xs S1
section
variable {X : Cx} {W : WX} {es : List Expr} {d : DA} {pos : Pos}
theorem ge_lst (h : GA X W es d) : GE X W (.List es pos) (dL d) := by
  refine PE.imp (pe_lst h) fun σ H Q ⟨m, r, S, R, E, p⟩ => ?_
  exact ⟨m, r, S, R, E, (Post.split p).mono fun x S1 m1 H1 g1 R1 p1 v rv => newL_ok R1 rv p1⟩
theorem ge_tup {k} (h : GA X W es d) : GE X W (.Tuple es k pos) (dT d) := by
  refine PE.imp (pe_tup h) fun σ H Q ⟨m, r, S, R, E, p⟩ => ?_
  exact ⟨m, r, S, R, E, (Post.split p).mono fun x S1 m1 H1 g1 R1 p1 v rv => newT_ok R1 rv p1⟩
end
section
variable {K : PySem.W.Frag} {m : List Addr} {S : Sto} {H : Hp}
end
def iiD (c : Int → Int → Bool) (g : Int → Int → D) : D → D → Sto → Rs D
  | .int i, .int j, S => if c i j then .ok (g i j) S else .bad
  | _, _, _ => .bad
def tr2 : Int → Int → Bool := fun _ _ => true
theorem ii_int {K : PySem.W.Frag} {C : Int → Int → Prop} {c : Int → Int → Bool} {f : Int → Int → Int} (hc : ∀ i j, c i j = true → C i j) : OpD K (rI C fun i j => .int (f i j)) (iiD c fun i j => .int (f i j)) := by
  intro m H S x y v w Q R hx hy p
  cases x <;> first | exact p.elim | skip
  cases y <;> first | exact p.elim | skip
  rename_i i j
  have p' : PV K W0 m H (if c i j then .ok (.int (f i j)) S else .bad) Q := p
  split at p'
  · rename_i h
    exact ⟨i, j, hx, hy, hc _ _ h, p' m H (Gro.refl _ _) R _ rfl⟩
  · exact p'.elim
theorem ii_int0 {K : PySem.W.Frag} {f : Int → Int → Int} : OpD K (rI0 fun i j => .int (f i j)) (iiD tr2 fun i j => .int (f i j)) := by
  intro m H S x y v w Q R hx hy p
  cases x <;> first | exact p.elim | skip
  cases y <;> first | exact p.elim | skip
  rename_i i j
  exact ⟨i, j, hx, hy, p m H (Gro.refl _ _) R _ rfl⟩
theorem ii_bl0 {K : PySem.W.Frag} {f : Int → Int → Bool} : OpD K (rI0 fun i j => .bl (f i j)) (iiD tr2 fun i j => .bl (f i j)) := by
  intro m H S x y v w Q R hx hy p
  cases x <;> first | exact p.elim | skip
  cases y <;> first | exact p.elim | skip
  rename_i i j
  exact ⟨i, j, hx, hy, p m H (Gro.refl _ _) R _ rfl⟩
def mulC (i j : Int) : Bool := decide (i.natAbs.log2 + j.natAbs.log2 < 134217000)
theorem mulC_ok {i j : Int} (h : mulC i j = true) : IntMulOk i j := by
  have h := of_decide_eq_true h
  have b : ∀ x : Int, Builtin.Int.intBits x ≤ x.natAbs.log2 + 1 := by
    intro x
    unfold Builtin.Int.intBits
    split
    · exact Nat.zero_le _
    · exact Nat.le_refl _
  intro z
  have z2 := (Bool.and_eq_true_iff.mp z).2
  unfold Builtin.Int.intTooBig at z2
  have z3 := of_decide_eq_true z2
  have e : bitsLine = 134217728 := by decide
  have b1 := b i
  have b2 := b j
  omega
theorem op_mulG {X : Cx} : OpR X (binaryOp .Mult) (rI (fun i j => mulC i j = true) fun i j => .int (i * j)) := opI fun _ _ _ _ _ _ _ hc q => mul_int q (mulC_ok hc)
def posC (_ j : Int) : Bool := decide (0 < j)
def subD := iiD tr2 fun i j => .int (i - j)
def mulD := iiD mulC fun i j => .int (i * j)
def modD := iiD posC fun i j => .int (i % j)
def divD := iiD posC fun i j => .int (i / j)
def ltD := iiD tr2 fun i j => .bl (decide (i < j))
def gtD := iiD tr2 fun i j => .bl (decide (j < i))
def geD := iiD tr2 fun i j => .bl (decide (j ≤ i))
def negD : D → Sto → Rs D
  | .int i, S => .ok (.int (-i)) S
  | _, _ => .bad
section
variable {X : Cx} {W : WX} {a b : Expr} {da db : DE} {pos : Pos}
theorem ge_sub (ha : GE X W a da) (hb : GE X W b db) : GE X W (.BinOp a .Sub b pos) (bin subD da db) := ge_op op_sub ii_int0 ha hb
theorem ge_mul (ha : GE X W a da) (hb : GE X W b db) : GE X W (.BinOp a .Mult b pos) (bin mulD da db) := ge_op op_mulG (ii_int fun _ _ h => h) ha hb
theorem ge_mod (ha : GE X W a da) (hb : GE X W b db) : GE X W (.BinOp a .Mod b pos) (bin modD da db) := ge_op op_mod (ii_int fun _ _ h => of_decide_eq_true h) ha hb
theorem ge_neg (ha : GE X W a da) : GE X W (.UnaryOp .USub a pos) (una negD da) := by
  refine ge_un un_neg (fun m H S x v Q R hx p => ?_) ha
  cases x <;> first | exact p.elim | (rename_i i; exact ⟨i, hx, p m H (Gro.refl _ _) R _ rfl⟩)
theorem ge_gt (ha : GE X W a da) (hb : GE X W b db) : GE X W (.Compare a [.Gt] [b] pos) (bin gtD da db) := ge_cmp op_gt ii_bl0 ha hb (nomark _)
end
section
variable {K : PySem.W.Frag} {W : XK} {m : List Addr} {S : Sto} {H : Hp}
theorem at_lst (R : Rep K m S H) {n : Nat} {v : V} {ds : List D} (h : RD K m H (.loc n) v) (e : S[n]? = some (.lst ds)) : ∃ a vs, v = .ref a ∧ m[n]? = some a ∧ H a = some (.lst vs) ∧ RDs K m H ds vs := by
  obtain ⟨a, e1, e2⟩ := h
  obtain ⟨vs, h1, h2⟩ := R.at_ n a _ e2 e
  exact ⟨a, vs, e1, e2, h1, h2⟩
theorem rd_scr {ns : List Int} {v : V} (h : RD K m H (.scr ns) v) : ∃ a, v = .ref a ∧ SqL K H a (ns.map V.int) := by
  obtain ⟨a, e, h⟩ := h
  refine ⟨a, e, ?_⟩
  rcases h with ⟨o, h⟩ | h
  · exact .inl (.inr ⟨o, h⟩)
  · rcases h with (h | ⟨o, h⟩) | h
    · cases h
    · cases h
    · exact .inr h
def seqD : D → Sto → Option (List D)
  | .loc n, S => match S[n]? with
    | some (.lst ds) => some ds
    | _ => none
  | .tup ds, _ => some ds
  | .scr ns, _ => some (ns.map D.int)
  | _, _ => none
theorem seq_loc {n : Nat} {S : Sto} {ds : List D} (e : seqD (.loc n) S = some ds) : S[n]? = some (.lst ds) := by
  have e' : (match S[n]? with
    | some (.lst ds) => some ds
    | _ => none) = some ds := e
  cases q : S[n]? with
  | none => rw [q] at e'; cases e'
  | some o =>
    rw [q] at e'
    cases o <;> first | (cases e'; rfl) | cases e'
theorem seq_ok (R : Rep K m S H) {x : D} {v : V} {ds : List D} (h : RD K m H x v) (e : seqD x S = some ds) :
    ∃ a vs, v = .ref a ∧ RDs K m H ds vs ∧ ((SqL K H a vs ∧ ∀ es, x ≠ .tup es) ∨ (SqT K H a vs ∧ ∃ es, x = .tup es)) := by
  cases x with
  | tup es =>
    have e' : some es = some ds := e
    cases e'
    obtain ⟨a, vs, e1, h1, h2⟩ := h
    exact ⟨a, vs, e1, h2, .inr ⟨h1, _, rfl⟩⟩
  | scr ns =>
    have e' : some (ns.map D.int) = some ds := e
    cases e'
    obtain ⟨a, e1, h1⟩ := rd_scr h
    exact ⟨a, _, e1, RDs.ints ns, .inl ⟨h1, fun _ z => nomatch z⟩⟩
  | loc n =>
    obtain ⟨a, vs, e1, _, h1, h2⟩ := at_lst R h (seq_loc e)
    exact ⟨a, vs, e1, h2, .inl ⟨SqL.of h1, fun _ z => nomatch z⟩⟩
  | _ => exact nomatch (show none = some ds from e)
end
def lenD : List D → Sto → Rs D
  | [.str z], S => if z.length ≤ sizeLine then .ok (.int z.length) S else .bad
  | [x], S => match seqD x S with
    | some ds => .ok (.int ds.length) S
    | none => .bad
  | _, _ => .bad
theorem len_d {K : PySem.W.Frag} : CallD K (fun xs H Q => ∃ x n, xs = [x] ∧ LenV K x H n ∧ Q (.int n) H) lenD := by
  intro m H S xs vs Q R h p
  match xs, h, p with
  | [], h, p => exact p.elim
  | x :: y :: r, h, p =>
    cases x <;> exact p.elim
  | [x], h, p =>
    obtain ⟨v, rfl, hv⟩ := h.inv1
    by_cases hs : ∃ z, x = .str z
    · obtain ⟨z, rfl⟩ := hs
      have p' : PV K W0 m H (if z.length ≤ sizeLine then .ok (.int z.length) S else .bad) Q := p
      split at p'
      · rename_i hz
        exact ⟨v, z.length, rfl, by rw [show v = .str z from hv]; exact ⟨hz, rfl⟩, p' m H (Gro.refl _ _) R _ rfl⟩
      · exact p'.elim
    · have p' : PV K W0 m H (match seqD x S with
        | some ds => .ok (.int ds.length) S
        | none => .bad) Q := by
        cases x <;> first | exact p | exact absurd ⟨_, rfl⟩ hs
      cases e : seqD x S with
      | none => rw [e] at p'; exact p'.elim
      | some ds =>
        rw [e] at p'
        obtain ⟨a, ws, rfl, h1, h2⟩ := seq_ok R hv e
        refine ⟨_, ws.length, rfl, ?_, ?_⟩
        · rcases h2 with ⟨h2, _⟩ | ⟨h2, _⟩
          · exact .inl ⟨ws, h2, rfl⟩
          · exact .inr ⟨ws, h2, rfl⟩
        · rw [← h1.length]
          exact p' m H (Gro.refl _ _) R _ rfl
def atD (ds : List D) (i : Int) : Option D := (ixN ds.length i).bind fun j => ds[j]?
def ixD : D → D → Sto → Rs D
  | .str z, .int i, S => if z.length ≤ sizeLine then (match atI z.cps.toList i with
    | some c => .ok (.str ⟨#[c]⟩) S
    | none => .bad) else .bad
  | x, .int i, S => match seqD x S with
    | some ds => (match atD ds i with
      | some d => .ok d S
      | none => .bad)
    | none => .bad
  | _, _, _ => .bad
theorem at_d {K : PySem.W.Frag} {m : List Addr} {H : Hp} {ds : List D} {vs : List V} {i : Int} {d : D} (h : RDs K m H ds vs) (e : atD ds i = some d) : ∃ v, atI vs i = some v ∧ RD K m H d v := by
  unfold atD at e
  unfold atI
  rw [h.length] at e
  cases q : ixN vs.length i with
  | none => rw [q] at e; cases e
  | some j =>
    rw [q] at e
    exact h.get (i := j) e
theorem ix_d {K : PySem.W.Frag} : OpD K (rIx K) ixD := by
  intro m H S x y v w Q R hx hy p
  cases y <;> first | (cases x <;> exact p.elim) | skip
  rename_i i
  have ew : w = .int i := hy
  by_cases hs : ∃ z, x = .str z
  · obtain ⟨z, rfl⟩ := hs
    have p' : PV K W0 m H (if z.length ≤ sizeLine then (match atI z.cps.toList i with
      | some c => .ok (.str ⟨#[c]⟩) S
      | none => .bad) else .bad) Q := p
    split at p'
    · rename_i hz
      cases e : atI z.cps.toList i with
      | none => rw [e] at p'; exact p'.elim
      | some c =>
        rw [e] at p'
        exact .inr (.inr ⟨z, i, c, hx, ew, hz, e, p' m H (Gro.refl _ _) R _ rfl⟩)
    · exact p'.elim
  · have p' : PV K W0 m H (match seqD x S with
      | some ds => (match atD ds i with
        | some d => .ok d S
        | none => .bad)
      | none => .bad) Q := by
      cases x <;> first | exact p | exact absurd ⟨_, rfl⟩ hs
    cases e : seqD x S with
    | none => rw [e] at p'; exact p'.elim
    | some ds =>
      rw [e] at p'
      dsimp only at p'
      obtain ⟨a, ws, rfl, h1, h2⟩ := seq_ok R hx e
      cases e2 : atD ds i with
      | none => rw [e2] at p'; exact p'.elim
      | some d =>
        rw [e2] at p'
        dsimp only at p'
        obtain ⟨u, g1, g2⟩ := at_d h1 e2
        have q := p' m H (Gro.refl _ _) R _ g2
        rcases h2 with ⟨h2, _⟩ | ⟨h2, _⟩
        · exact .inl ⟨a, ws, i, u, rfl, ew, h2, g1, q⟩
        · exact .inr (.inl ⟨a, ws, i, u, rfl, ew, h2, g1, q⟩)
def cutD {α : Type} (xs : List α) (lo hi : Option Int) : List α := (xs.drop (HT.sIx xs.length 0 lo)).take (HT.sIx xs.length xs.length hi - HT.sIx xs.length 0 lo)
def slD (x : D) (lo hi : Option Int) (S : Sto) : Rs D := match x with
  | .tup ds => .ok (.tup (cutD ds lo hi)) S
  | x => match seqD x S with
    | some ds => newL (cutD ds lo hi) S
    | none => .bad
theorem cut_rds {K : PySem.W.Frag} {m : List Addr} {H : Hp} {ds : List D} {vs : List V} {lo hi : Option Int} (h : RDs K m H ds vs) : RDs K m H (cutD ds lo hi) (cutV vs lo hi) := by
  unfold cutD cutV
  rw [h.length]
  exact (h.drop _).take _
theorem SlR.or {X : Cx} {r r' : V → Option Int → Option Int → Hp → VK → Prop} (h : SlR X r) (h' : SlR X r') : SlR X (fun x a b H Q => r x a b H Q ∨ r' x a b H Q) := by
  intro pins s σ H x v vl vu lo hi sl Q I rx hs pl pu q
  rcases q with q | q
  · exact h pins s σ H x v vl vu lo hi sl Q I rx hs pl pu q
  · exact h' pins s σ H x v vl vu lo hi sl Q I rx hs pl pu q
theorem sl_d {K : PySem.W.Frag} {m : List Addr} {S : Sto} {H : Hp} {x : D} {v : V} {lo hi : Option Int} {Q : VK} (R : Rep K m S H) (hx : RD K m H x v) (p : PV K W0 m H (slD x lo hi S) Q) : rSlL K v lo hi H Q ∨ rSlA K v lo hi H Q := by
  by_cases ht : ∃ ds, x = .tup ds
  · obtain ⟨ds, rfl⟩ := ht
    obtain ⟨a, vs, e1, h1, h2⟩ := hx
    refine .inr ⟨a, vs, e1, h1, fun hw => ?_, fun _ l hl => ?_⟩
    · refine p m H (Gro.refl _ _) R _ ⟨a, vs, rfl, h1, ?_⟩
      have e : cutV vs lo hi = vs := by
        unfold cutV
        rw [hw.1, hw.2]
        simp
      have z := cut_rds (lo := lo) (hi := hi) h2
      rw [e] at z
      exact z
    · exact p m _ (gro_new hl) (R.tupd hl) _ ⟨l, _, rfl, .inl (.inl upd_same), RDs.mono (gro_new hl).sta _ _ (cut_rds h2)⟩
  · have p' : PV K W0 m H (match seqD x S with
      | some ds => newL (cutD ds lo hi) S
      | none => .bad) Q := by
      cases x <;> first | exact p | exact absurd ⟨_, rfl⟩ ht
    cases e : seqD x S with
    | none => rw [e] at p'; exact p'.elim
    | some ds =>
      rw [e] at p'
      obtain ⟨a, ws, rfl, h1, h2⟩ := seq_ok R hx e
      have hl : SqL K H a ws := by
        rcases h2 with ⟨h2, _⟩ | ⟨_, h2⟩
        · exact h2
        · exact absurd h2 ht
      exact .inl ⟨a, ws, rfl, hl, (newL_ok R (cut_rds h1) p').2⟩
def dNoP : Ev → Sto → Rs (Option Int) := fun _ S => .ok none S
def dP (d : DE) : Ev → Sto → Rs (Option Int) := fun r S => (d r S).bind fun x S1 => match x with
  | .int i => .ok (some i) S1
  | _ => .bad
def tOd (K : PySem.W.Frag) (W : WX) (d : Ev → Sto → Rs (Option Int)) : TO := fun σ H Q => ∃ m r S, Rep K m S H ∧ ER K m H r σ ∧ Post K (WX.at W σ) m H (d r S) fun a _ _ H' => Q a H'
abbrev GO (X : Cx) (W : WX) (e : Option Expr) (d : Ev → Sto → Rs (Option Int)) : Prop := PO X e (tOd X.K W d)
def sli (d : DE) (lo hi : Ev → Sto → Rs (Option Int)) : DE := fun r S => (d r S).bind fun x S1 => (lo r S1).bind fun l S2 => (hi r S2).bind fun h S3 => (slD x l h S3).nox
section
variable {X : Cx} {W : WX} {a b : Expr} {da db : DE} {pos : Pos}
theorem PO.imp {e : Option Expr} {t t' : TO} (h : PO X e t) (i : ∀ σ H Q, t' σ H Q → t σ H Q) : PO X e t' := ⟨fun pins s σ H Q I q => h.run pins s σ H Q I (i σ H Q q)⟩
theorem go_none : GO X W none dNoP := PO.imp po_none fun σ H Q ⟨m, r, S, R, E, p⟩ => p m H (Gro.refl _ _) R
theorem go_some (h : GE X W a da) : GO X W (some a) (dP da) := by
  refine PO.imp (po_some h) fun σ H Q ⟨m, r, S, R, E, p⟩ => ?_
  refine ⟨m, r, S, R, E, (Post.split p).mono fun x S1 m1 H1 g1 R1 p1 v rv => ?_⟩
  cases x <;> first | exact p1.elim | skip
  exact ⟨_, rv, p1 m1 H1 (Gro.refl _ _) R1⟩
theorem ge_slice {lo hi : Option Expr} {dlo dhi : Ev → Sto → Rs (Option Int)} {p2 : Pos} (he : GE X W a da) (hl : GO X W lo dlo) (hu : GO X W hi dhi) : GE X W (.Subscript a (.Slice lo hi none p2) pos) (sli da dlo dhi) := by
  refine PE.imp (pe_slice (sl_list.or sl_tupA) he hl hu) fun σ H Q ⟨m, r, S, R, E, p⟩ => ?_
  refine ⟨m, r, S, R, E, (Post.split p).mono fun x S1 m1 H1 g1 R1 p1 v rv => ?_⟩
  refine ⟨m1, r, S1, R1, E.mono g1.sta, (Post.split p1).mono fun l S2 m2 H2 g2 R2 p2 => ?_⟩
  refine ⟨m2, r, S2, R2, (E.mono g1.sta).mono g2.sta, (Post.split p2).mono fun h S3 m3 H3 g3 R3 p3 => ?_⟩
  exact sl_d R3 (RD.mono g3.sta _ _ (RD.mono g2.sta _ _ rv)) (Post.nox0 p3)
theorem ge_item (ha : GE X W a da) (hb : GE X W b db) (hs : PlainIx b := by exact fun _ _ => rfl) : GE X W (.Subscript a b pos) (bin ixD da db) := ge_ix ix_seq ix_d ha hb hs
end
def addD : D → D → Sto → Rs D
  | .int i, .int j, S => .ok (.int (i + j)) S
  | .str x, .str y, S => if x.length + y.length ≤ sizeLine then .ok (.str (x ++ y)) S else .bad
  | .tup xs, .tup ys, S => if xs.length + ys.length ≤ sizeLine then .ok (.tup (xs ++ ys)) S else .bad
  | .loc a, .loc b, S => match S[a]?, S[b]? with
    | some (.lst xs), some (.lst ys) => if xs.length + ys.length ≤ sizeLine then .ok (.loc S.length) (S ++ [.lst (xs ++ ys)]) else .bad
    | _, _ => .bad
  | _, _, _ => .bad
theorem rds_nil {K : PySem.W.Frag} {m : List Addr} {H : Hp} {ds : List D} {vs : List V} (h : RDs K m H ds vs) (e : vs = []) : ds = [] := by
  subst e
  cases ds with
  | nil => rfl
  | cons d ds => obtain ⟨_, _, q, _⟩ := h; cases q
theorem newL_of {K : PySem.W.Frag} {m : List Addr} {S : Sto} {H : Hp} {ds : List D} {vs : List V} {Q : VK} (R : Rep K m S H) (h : RDs K m H ds vs) (p : PV K W0 m H (.ok (.loc S.length) (S ++ [.lst ds])) Q) : ∀ l, H l = none → Q (.ref l) (upd H l (.lst vs)) := fun l hl => by
  refine p (m ++ [l]) _ (gro_alloc hl) (R.alloc hl ⟨vs, upd_same, RDs.mono (gro_alloc hl).sta _ _ h⟩) _ ⟨l, rfl, ?_⟩
  rw [← R.len, List.getElem?_append_right (Nat.le_refl _)]
  simp
theorem add_d {X : Cx} : ∃ r, OpR X (binaryOp .Add) r ∧ OpD X.K r addD := by
  refine ⟨_, op_add.or (op_add_str.or (op_catA.or op_cat)), fun m H S x y v w Q R hx hy p => ?_⟩
  cases x <;> first | exact p.elim | skip
  · cases y <;> first | exact p.elim | skip
    exact .inl ⟨_, _, hx, hy, p m H (Gro.refl _ _) R _ rfl⟩
  · cases y <;> first | exact p.elim | skip
    rename_i x y
    have p' : PV X.K W0 m H (if x.length + y.length ≤ sizeLine then .ok (.str (x ++ y)) S else .bad) Q := p
    split at p'
    · rename_i hz
      exact .inr (.inl ⟨_, _, hx, hy, hz, p' m H (Gro.refl _ _) R _ rfl⟩)
    · exact p'.elim
  · cases y <;> first | exact p.elim | skip
    rename_i xs ys
    have p' : PV X.K W0 m H (if xs.length + ys.length ≤ sizeLine then .ok (.tup (xs ++ ys)) S else .bad) Q := p
    split at p'
    · rename_i hz
      obtain ⟨a, vs, e1, h1, h2⟩ := hx
      obtain ⟨b, ws, e2, h3, h4⟩ := hy
      refine .inr (.inr (.inl ⟨a, b, vs, ws, e1, e2, h1, h3, by rw [← h2.length, ← h4.length]; exact hz, fun e => ?_, fun _ e => ?_, fun _ _ l hl => ?_⟩))
      · subst e
        rw [rds_nil h2 rfl] at p'
        exact p' m H (Gro.refl _ _) R _ ⟨b, ws, rfl, h3, h4⟩
      · subst e
        rw [rds_nil h4 rfl, List.append_nil] at p'
        exact p' m H (Gro.refl _ _) R _ ⟨a, vs, rfl, h1, h2⟩
      · exact p' m _ (gro_new hl) (R.tupd hl) _ ⟨l, _, rfl, .inl (.inl upd_same), RDs.mono (gro_new hl).sta _ _ (h2.append h4)⟩
    · exact p'.elim
  · cases y <;> first | exact p.elim | skip
    rename_i a b
    have p' : PV X.K W0 m H (match S[a]?, S[b]? with
      | some (.lst xs), some (.lst ys) => if xs.length + ys.length ≤ sizeLine then .ok (.loc S.length) (S ++ [.lst (xs ++ ys)]) else .bad
      | _, _ => .bad) Q := p
    split at p'
    · rename_i xs ys ea eb
      split at p'
      · rename_i hz
        obtain ⟨a1, vs, e1, _, h1, h2⟩ := at_lst R hx ea
        obtain ⟨b1, ws, e2, _, h3, h4⟩ := at_lst R hy eb
        exact .inr (.inr (.inr ⟨a1, b1, vs, ws, e1, e2, h1, h3, by rw [← h2.length, ← h4.length]; exact hz, newL_of R (h2.append h4) p'⟩))
      · exact p'.elim
    · exact p'.elim
theorem ge_add {X : Cx} {W : WX} {a b : Expr} {da db : DE} {pos : Pos} (ha : GE X W a da) (hb : GE X W b db) : GE X W (.BinOp a .Add b pos) (bin addD da db) := by
  obtain ⟨r, h1, h2⟩ := add_d (X := X)
  exact ge_op h1 h2 ha hb
def listD : List D → Sto → Rs D
  | [x], S => match seqD x S with
    | some ds => .ok (.loc S.length) (S ++ [.lst ds])
    | none => .bad
  | _, _ => .bad
theorem one_arg {g : List D → Sto → Rs D} {K : PySem.W.Frag} {m : List Addr} {S : Sto} {H : Hp} {xs : List D} {vs : List V} {Q : VK} (hg : ∀ xs, xs.length ≠ 1 → g xs S = .bad) (h : RDs K m H xs vs) (p : PV K W0 m H (g xs S) Q) : ∃ x v, xs = [x] ∧ vs = [v] ∧ RD K m H x v := by
  match xs, h, p with
  | [], h, p => rw [hg [] (by simp)] at p; exact p.elim
  | x :: y :: r, h, p => rw [hg _ (by simp)] at p; exact p.elim
  | [x], h, p =>
    obtain ⟨v, rfl, hv⟩ := h.inv1
    exact ⟨x, v, rfl, rfl, hv⟩
theorem list_d {K : PySem.W.Frag} : CallD K (fun xs H Q => ∃ p ys, xs = [.ref p] ∧ (SqL K H p ys ∨ SqT K H p ys) ∧ ∀ l, H l = none → Q (.ref l) (upd H l (.lst ys))) listD := by
  intro m H S xs vs Q R h p
  obtain ⟨x, v, rfl, rfl, hv⟩ := one_arg (g := listD) (fun xs hx => by
    rcases xs with _ | ⟨x, _ | ⟨y, r⟩⟩
    · rfl
    · exact absurd rfl hx
    · rfl) h p
  have p' : PV K W0 m H (match seqD x S with
    | some ds => .ok (.loc S.length) (S ++ [.lst ds])
    | none => .bad) Q := p
  cases e : seqD x S with
  | none => rw [e] at p'; exact p'.elim
  | some ds =>
    rw [e] at p'
    obtain ⟨a, ws, rfl, h1, h2⟩ := seq_ok R hv e
    exact ⟨a, ws, rfl, h2.imp And.left And.left, newL_of R h1 p'⟩
def absD : List D → Sto → Rs D
  | [.int i], S => .ok (.int (if i < 0 then -i else i)) S
  | _, _ => .bad
theorem abs_d {K : PySem.W.Frag} : CallD K (fun xs H Q => ∃ i, xs = [.int i] ∧ Q (.int (if i < 0 then -i else i)) H) absD := by
  intro m H S xs vs Q R h p
  unfold absD at p
  split at p
  · rename_i S' i
    obtain ⟨v, rfl, hv⟩ := h.inv1
    exact ⟨_, by rw [show v = _ from hv], p m H (Gro.refl _ _) R _ rfl⟩
  · exact p.elim
def intD : List D → Sto → Rs D
  | [.int i], S => .ok (.int i) S
  | [.bl k], S => .ok (.int (if k then 1 else 0)) S
  | _, _ => .bad
theorem int_d {K : PySem.W.Frag} : CallD K (fun xs H Q => (∃ i, xs = [.int i] ∧ Q (.int i) H) ∨ ∃ k, xs = [.bl k] ∧ Q (.int (if k then 1 else 0)) H) intD := by
  intro m H S xs vs Q R h p
  unfold intD at p
  split at p
  · obtain ⟨v, rfl, hv⟩ := h.inv1
    exact .inl ⟨_, by rw [show v = _ from hv], p m H (Gro.refl _ _) R _ rfl⟩
  · obtain ⟨v, rfl, hv⟩ := h.inv1
    exact .inr ⟨_, by rw [show v = _ from hv], p m H (Gro.refl _ _) R _ rfl⟩
  · exact p.elim
def blsD : List D → Option (List Bool)
  | [] => some []
  | .bl b :: r => (blsD r).map (b :: ·)
  | _ :: _ => none
theorem bls_ok {K : PySem.W.Frag} {m : List Addr} {H : Hp} : ∀ {ds : List D} {vs : List V} {bs : List Bool}, RDs K m H ds vs → blsD ds = some bs → vs = bs.map V.bl
  | [], vs, bs, h, e => by
    have e' : some [] = some bs := e
    cases e'
    exact h
  | d :: ds, vs, bs, h, e => by
    obtain ⟨v, r, rfl, h1, h2⟩ := h
    cases d <;> first | exact nomatch (show none = some bs from e) | skip
    rename_i b
    have e' : (blsD ds).map (b :: ·) = some bs := e
    cases q : blsD ds with
    | none => rw [q] at e'; cases e'
    | some cs =>
      rw [q] at e'
      cases e'
      rw [show v = _ from h1, bls_ok h2 q]
      rfl
def allD : List D → Sto → Rs D
  | [.loc n], S => match (seqD (.loc n) S).bind blsD with
    | some bs => .ok (.bl (bs.all id)) S
    | none => .bad
  | _, _ => .bad
theorem seq_bls {K : PySem.W.Frag} {m : List Addr} {S : Sto} {H : Hp} {n : Nat} {v : V} {bs : List Bool} (R : Rep K m S H) (h : RD K m H (.loc n) v) (e : (seqD (.loc n) S).bind blsD = some bs) : ∃ a, v = .ref a ∧ SqL K H a (bs.map V.bl) := by
  cases q : seqD (.loc n) S with
  | none => rw [q] at e; cases e
  | some ds =>
    rw [q] at e
    obtain ⟨a, vs, rfl, _, h1, h2⟩ := at_lst R h (seq_loc q)
    rw [bls_ok h2 e] at h1
    exact ⟨a, rfl, SqL.of h1⟩
theorem all_d {K : PySem.W.Frag} : CallD K (rAll K) allD := by
  intro m H S xs vs Q R h p
  unfold allD at p
  split at p
  · split at p
    · rename_i e
      obtain ⟨v, rfl, hv⟩ := h.inv1
      obtain ⟨a, rfl, h1⟩ := seq_bls R hv e
      exact ⟨a, _, rfl, h1, p m H (Gro.refl _ _) R _ rfl⟩
    · exact p.elim
  · exact p.elim
mutual
def pyD (S : Sto) : Nat → D → Option PyData
  | _, .non => some .none
  | _, .bl b => some (.bool b)
  | _, .int i => some (.int i)
  | _, .str x => some (.str x)
  | n, .tup ds => (pyDs S n ds).map PyData.tuple
  | _, .scr ns => some (.list (ns.map PyData.int))
  | 0, .loc _ => none
  | n + 1, .loc k => match S[k]? with
    | some (.lst ds) => (pyDs S n ds).map PyData.list
    | _ => none
def pyDs (S : Sto) : Nat → List D → Option (List PyData)
  | _, [] => some []
  | n, d :: ds => match pyD S n d, pyDs S n ds with
    | some x, some xs => some (x :: xs)
    | _, _ => none
end
theorem dp_ints {K : PySem.W.Frag} {H : Hp} : ∀ ns : List Int, DpAll K H (ns.map V.int) (ns.map PyData.int)
  | [] => .nil
  | n :: ns => .cons (.int n) (dp_ints ns)
mutual
theorem pyD_ok {K : PySem.W.Frag} {m : List Addr} {S : Sto} {H : Hp} (R : Rep K m S H) : ∀ (n : Nat) (x : D) (v : V) (d : PyData), RD K m H x v → pyD S n x = some d → Dp K H v d
  | n, .non, v, d, h, e => by
    rw [pyD] at e
    cases e
    rw [show v = .non from h]; exact .non
  | n, .bl b, v, d, h, e => by
    rw [pyD] at e
    cases e
    rw [show v = .bl b from h]; exact .bl b
  | n, .int i, v, d, h, e => by
    rw [pyD] at e
    cases e
    rw [show v = .int i from h]; exact .int i
  | n, .str x, v, d, h, e => by
    rw [pyD] at e
    cases e
    rw [show v = .str x from h]; exact .str x
  | n, .tup ds, v, d, h, e => by
    rw [pyD] at e
    obtain ⟨xs, e1, rfl⟩ := Option.map_eq_some_iff.mp e
    obtain ⟨a, vs, rfl, h1, h2⟩ := h
    exact .tup h1 (pyDs_ok R n ds vs xs h2 e1)
  | n, .scr ns, v, d, h, e => by
    rw [pyD] at e
    cases e
    obtain ⟨a, rfl, h1⟩ := rd_scr h
    exact .lst h1 (dp_ints ns)
  | 0, .loc k, v, d, h, e => by
    rw [pyD] at e
    cases e
  | n + 1, .loc k, v, d, h, e => by
    rw [pyD] at e
    cases q : S[k]? with
    | none => rw [q] at e; cases e
    | some o =>
      rw [q] at e
      cases o <;> first | cases e | skip
      rename_i ds
      obtain ⟨xs, e1, rfl⟩ := Option.map_eq_some_iff.mp e
      obtain ⟨a, vs, rfl, _, h1, h2⟩ := at_lst R h q
      exact .lst (SqL.of h1) (pyDs_ok R n ds vs xs h2 e1)
theorem pyDs_ok {K : PySem.W.Frag} {m : List Addr} {S : Sto} {H : Hp} (R : Rep K m S H) : ∀ (n : Nat) (x : List D) (v : List V) (d : List PyData), RDs K m H x v → pyDs S n x = some d → DpAll K H v d
  | n, [], v, d, h, e => by
    rw [pyDs] at e
    cases e
    rw [show v = [] from h]; exact .nil
  | n, x :: xs, v, d, h, e => by
    rw [pyDs] at e
    obtain ⟨w, r, rfl, h1, h2⟩ := h
    cases e1 : pyD S n x with
    | none => rw [e1] at e; cases e
    | some y =>
      cases e2 : pyDs S n xs with
      | none => rw [e1, e2] at e; cases e
      | some ys =>
        rw [e1, e2] at e
        cases e
        exact .cons (pyD_ok R n x w y h1 e1) (pyDs_ok R n xs r ys h2 e2)
end
def eqB (x y : D) (S : Sto) : Option Bool := match pyD S 8 x, pyD S 8 y with
  | some d, some e => if SeqAt.shaped d && SeqAt.shaped e then some (PyData.eqv d e) else none
  | _, _ => none
def eqD (x y : D) (S : Sto) : Rs D := match eqB x y S with
  | some b => .ok (.bl b) S
  | none => .bad
def neD (x y : D) (S : Sto) : Rs D := match eqB x y S with
  | some b => .ok (.bl (!b)) S
  | none => .bad
theorem eqB_ok {K : PySem.W.Frag} {m : List Addr} {S : Sto} {H : Hp} {x y : D} {v w : V} {b : Bool} (R : Rep K m S H) (hx : RD K m H x v) (hy : RD K m H y w) (e : eqB x y S = some b) : ∃ d e, Dp K H v d ∧ Dp K H w e ∧ SeqAt.shaped d = true ∧ SeqAt.shaped e = true ∧ PyData.eqv d e = b := by
  unfold eqB at e
  cases e1 : pyD S 8 x with
  | none => rw [e1] at e; cases e
  | some d =>
    cases e2 : pyD S 8 y with
    | none => rw [e1, e2] at e; cases e
    | some d' =>
      rw [e1, e2] at e
      dsimp only at e
      split at e
      · rename_i hs
        obtain ⟨s1, s2⟩ := Bool.and_eq_true_iff.mp hs
        exact ⟨d, d', pyD_ok R 8 x v d hx e1, pyD_ok R 8 y w d' hy e2, s1, s2, Option.some.inj e⟩
      · cases e
theorem eq_d {K : PySem.W.Frag} : OpD K (rEqD K) eqD := by
  intro m H S x y v w Q R hx hy p
  unfold eqD at p
  cases e : eqB x y S with
  | none => rw [e] at p; exact p.elim
  | some b =>
    rw [e] at p
    obtain ⟨d, d', h1, h2, h3, h4, rfl⟩ := eqB_ok R hx hy e
    exact ⟨d, d', h1, h2, h3, h4, p m H (Gro.refl _ _) R _ rfl⟩
theorem ne_d {K : PySem.W.Frag} : OpD K (rNeD K) neD := by
  intro m H S x y v w Q R hx hy p
  unfold neD at p
  cases e : eqB x y S with
  | none => rw [e] at p; exact p.elim
  | some b =>
    rw [e] at p
    obtain ⟨d, d', h1, h2, h3, h4, rfl⟩ := eqB_ok R hx hy e
    exact ⟨d, d', h1, h2, h3, h4, p m H (Gro.refl _ _) R _ rfl⟩
def tyD : D → Sto → Option String
  | .non, _ => some "NoneType"
  | .bl _, _ => some "bool"
  | .int _, _ => some "int"
  | .str _, _ => some "str"
  | .tup _, _ => some "tuple"
  | .scr _, _ => some "list"
  | .loc n, S => match S[n]? with
    | some (.lst _) => some "list"
    | some (.dic _) => some "dict"
    | _ => none
theorem ty_ok {K : PySem.W.Frag} {m : List Addr} {S : Sto} {H : Hp} {x : D} {v : V} {T : String} (R : Rep K m S H) (h : RD K m H x v) (e : tyD x S = some T) : TyX K H v (.type T) := by
  cases x with
  | non =>
    cases (show some _ = some T from e)
    rw [show v = .non from h]
    exact .base .non
  | bl b =>
    cases (show some _ = some T from e)
    rw [show v = .bl b from h]
    exact .base (.bl b)
  | int i =>
    cases (show some _ = some T from e)
    rw [show v = .int i from h]
    exact .base (.int i)
  | str z =>
    cases (show some _ = some T from e)
    rw [show v = .str z from h]
    exact .base (.str z)
  | tup ds =>
    cases (show some _ = some T from e)
    obtain ⟨a, vs, rfl, (h1 | ⟨o, h1⟩) | ⟨o, its, n, h1, hc, _⟩, _⟩ := h
    · exact .base (.tup h1)
    · exact .fTuple h1
    · exact .kTuple h1 hc
  | scr ns =>
    cases (show some _ = some T from e)
    obtain ⟨a, rfl, ⟨o, h1⟩ | h1⟩ := h
    · exact .base (.frz h1)
    · rcases h1 with (h1 | ⟨o, h1⟩) | ⟨o, its, n, h1, hc, _⟩
      · cases h1
      · cases h1
      · exact .kList h1 hc
  | loc n =>
    have e' : (match S[n]? with
      | some (.lst _) => some "list"
      | some (.dic _) => some "dict"
      | _ => none) = some T := e
    cases q : S[n]? with
    | none => rw [q] at e'; cases e'
    | some o =>
      rw [q] at e'
      cases o with
      | lst ds =>
        cases e'
        obtain ⟨a, vs, rfl, _, h1, _⟩ := at_lst R h q
        exact .base (.lst h1)
      | ins c fs => cases e'
      | dic ks =>
        cases e'
        obtain ⟨a, rfl, h2⟩ := h
        obtain ⟨vs, h1, _⟩ := R.at_ n a _ h2 q
        exact .base (.dK h1)
def isiD (T : String) (x : D) (S : Sto) : Rs D := match (tyD x S).bind fun t => kitB t T with
  | some b => .ok (.bl b) S
  | none => .bad
section
variable {X : Cx} {W : WX} {a b : Expr} {da db : DE} {pos p p2 : Pos}
theorem ge_isi {T : Str} {Tn : String} (hg : Gl X "isinstance") (hm : X.mg "isinstance" = none) (hgT : Gl X T) (hmT : X.mg T = none) (hv : bootBuiltins T = some (.type Tn)) (ha : GE X W a da) (hn : T ≠ "__name__" := by decide) (hd : (T == ("__debug__" : Str)) = false := by decide)
    (he : starEach [a, .Name T p2] X.env = (false, eval a X.env) :: starEach [.Name T p2] X.env := by rfl) (he2 : starEach [.Name T p2] X.env = (false, eval (.Name T p2) X.env) :: starEach [] X.env := by rfl)
    (hpl : (backTo pos (starEach [.Name T p2] X.env)).any (·.1) = false := by rfl) :
    GE X W (.Call (.Name "isinstance" p) [a, .Name T p2] [] pos) (una (isiD Tn) da) := by
  refine PE.imp (pe_callB call_isi hg hm (by decide +kernel) (pa_cons ha (pa_cons (pe_bltn (v := .ty Tn) hgT hmT hv rfl hn hd) pa_nil he2) he) (by decide) (by decide) he hpl) fun σ H Q ⟨m, r, S, R, E, p⟩ => ?_
  refine ⟨m, r, S, R, E, (Post.split p).mono fun x S1 m1 H1 g1 R1 p1 v rv => ?_⟩
  have p1 := Post.nox0 p1
  unfold isiD at p1
  cases e : tyD x S1 with
  | none => rw [e] at p1; exact p1.elim
  | some t =>
    rw [e] at p1
    cases e2 : kitB t Tn with
    | none =>
      have z : (some t).bind (fun t => kitB t Tn) = none := e2
      rw [z] at p1; exact p1.elim
    | some b =>
      have z : (some t).bind (fun t => kitB t Tn) = some b := e2
      rw [z] at p1
      exact ⟨v, .ty Tn, .type t, .type Tn, b, rfl, .ty Tn, ty_ok R1 rv e, kit_ty e2, p1 m1 H1 (Gro.refl _ _) R1 _ rfl⟩
theorem ge_eq (hu : X.A.units + 64 < cLine) (ha : GE X W a da) (hb : GE X W b db) : GE X W (.Compare a [.Eq] [b] pos) (bin eqD da db) := ge_cmp (op_eqD hu) eq_d ha hb (nomark _)
end
def truB : D → Sto → Option Bool
  | .non, _ => some false
  | .bl b, _ => some b
  | .int i, _ => some (i != 0)
  | .str z, _ => if z.length ≤ sizeLine then some ((z.length : Int) != 0) else none
  | x, S => (seqD x S).map fun ds => !ds.isEmpty
theorem isEmpty_rds {K : PySem.W.Frag} {m : List Addr} {H : Hp} {ds : List D} {vs : List V} (h : RDs K m H ds vs) : vs.isEmpty = ds.isEmpty := by
  have e := h.length
  cases ds <;> cases vs <;> first | rfl | (simp at e)
theorem tru_v {K : PySem.W.Frag} {m : List Addr} {S : Sto} {H : Hp} {x : D} {v : V} {k : Bool} (R : Rep K m S H) (h : RD K m H x v) (e : truB x S = some k) : TruV K v H k := by
  have sq : ∀ {y : D}, y = x → (seqD y S).map (fun ds => !ds.isEmpty) = some k → TruV K v H k := by
    rintro y rfl e'
    obtain ⟨ds, e1, e2⟩ := Option.map_eq_some_iff.mp e'
    obtain ⟨a, vs, rfl, h1, h2⟩ := seq_ok R h e1
    rw [← isEmpty_rds h1] at e2
    rcases h2 with ⟨h2, _⟩ | ⟨h2, _⟩
    · exact .inl ⟨vs, h2, e2.symm⟩
    · exact .inr (.inl ⟨vs, h2, e2.symm⟩)
  cases x with
  | non =>
    rw [show v = .non from h]
    exact (Option.some.inj e).symm
  | bl b =>
    rw [show v = .bl b from h]
    exact (Option.some.inj e).symm
  | int i =>
    rw [show v = .int i from h]
    exact (Option.some.inj e).symm
  | str z =>
    rw [show v = .str z from h]
    have e' : (if z.length ≤ sizeLine then some ((z.length : Int) != 0) else none) = some k := e
    split at e'
    · rename_i hz
      exact ⟨hz, (Option.some.inj e').symm⟩
    · cases e'
  | tup ds => exact sq rfl e
  | scr ds => exact sq rfl e
  | loc ds => exact sq rfl e
def tru (d : DE) : DB := fun r S => (d r S).bind fun x S1 => match truB x S1 with
  | some b => .ok b S1
  | none => .bad
def tst (d : DE) : DB := fun r S => (d r S).bind fun x S1 => match x with
  | .bl b => .ok b S1
  | _ => .bad
def notB (d : DB) : DB := fun r S => (d r S).map fun b => !b
def andB (a b : DB) : DB := fun r S => (a r S).bind fun x S1 => if x = true then b r S1 else .ok false S1
def orB (a b : DB) : DB := fun r S => (a r S).bind fun x S1 => if x = true then .ok true S1 else b r S1
def notD (d : DE) : DE := fun r S => (d r S).bind fun x S1 => match x with
  | .bl b => .ok (.bl (!b)) S1
  | _ => .bad
def andD (a b : DE) : DE := fun r S => (a r S).bind fun x S1 => match x with
  | .bl k => if k = true then b r S1 else .ok (.bl false) S1
  | _ => .bad
section
variable {X : Cx} {W : WX} {a b c : Expr} {rest : List Expr} {da db : DE} {ta tb : DB} {pos : Pos}
theorem gt_val (ha : GE X W a da) (he : ∀ whole, isTrue a X.env whole = (do let v ← whole; standAt a.pos; holding [v] (truthy v)) := by intro _; rfl) : GT X W a (tru da) := by
  refine PT.imp (pt_truth ha he) fun σ H Q ⟨m, r, S, R, E, p⟩ => ?_
  refine ⟨m, r, S, R, E, (Post.split p).mono fun x S1 m1 H1 g1 R1 p1 v rv => ?_⟩
  cases e : truB x S1 with
  | none => rw [e] at p1; exact p1.elim
  | some k =>
    rw [e] at p1
    exact ⟨k, tru_v R1 rv e, p1 m1 H1 (Gro.refl _ _) R1⟩
theorem gt_cmp {op : CmpOp} {r : R2} {g : D → D → Sto → Rs D} (ho : OpR X (compareOp op) r) (hg : OpD X.K r g) (ha : GE X W a da) (hb : GE X W b db) (hm : behindInMarks op b = false) : GT X W (.Compare a [op] [b] pos) (tst (bin g da db)) := by
  refine PT.imp (pt_cmpR ho ha hb hm) fun σ H Q ⟨m, r, S, R, E, p⟩ => ?_
  have p0 : PB X.K (WX.at W σ) m H (((da r S).bind fun x S1 => (db r S1).bind fun y S2 => (g x y S2).nox).bind fun x S1 => match x with
    | .bl b => .ok b S1
    | _ => .bad) Q := p
  refine ⟨m, r, S, R, E, ?_⟩
  have p1 := Post.split p0
  refine (Post.split p1).mono fun x S1 m1 H1 g1 R1 p1 v rv => ?_
  refine ⟨m1, r, S1, R1, E.mono g1.sta, (Post.split p1).mono fun y S2 m2 H2 g2 R2 p2 w rw => ?_⟩
  refine hg m2 H2 S2 x y v w _ R2 (RD.mono g2.sta x v rv) rw ((Post.nox0 p2).mono fun z S3 m3 H3 g3 R3 p3 u ru => ?_)
  cases z <;> first | exact p3.elim | skip
  exact ⟨_, ru, p3 m3 H3 (Gro.refl _ _) R3⟩
theorem gt_eq (hu : X.A.units + 64 < cLine) (ha : GE X W a da) (hb : GE X W b db) : GT X W (.Compare a [.Eq] [b] pos) (tst (bin eqD da db)) := gt_cmp (op_eqD hu) eq_d ha hb (nomark _)
theorem gt_ne (hu : X.A.units + 64 < cLine) (ha : GE X W a da) (hb : GE X W b db) : GT X W (.Compare a [.NotEq] [b] pos) (tst (bin neD da db)) := gt_cmp (op_neD hu) ne_d ha hb (nomark _)
theorem gt_lt (ha : GE X W a da) (hb : GE X W b db) : GT X W (.Compare a [.Lt] [b] pos) (tst (bin ltD da db)) := gt_cmp op_lt ii_bl0 ha hb (nomark _)
theorem gt_gt (ha : GE X W a da) (hb : GE X W b db) : GT X W (.Compare a [.Gt] [b] pos) (tst (bin gtD da db)) := gt_cmp op_gt ii_bl0 ha hb (nomark _)
theorem gt_ge (ha : GE X W a da) (hb : GE X W b db) : GT X W (.Compare a [.GtE] [b] pos) (tst (bin geD da db)) := gt_cmp op_ge ii_bl0 ha hb (nomark _)
theorem gt_not (h : GT X W a ta) : GT X W (.UnaryOp .Not a pos) (notB ta) := by
  refine PT.imp (pt_not h) fun σ H Q ⟨m, r, S, R, E, p⟩ => ?_
  exact ⟨m, r, S, R, E, (Post.split p).mono fun x S1 m1 H1 g1 R1 p1 => p1 m1 H1 (Gro.refl _ _) R1⟩
theorem gw_and1 (h : GT X W a ta) : GW X W (.BoolOp .And [a] pos) ta := pw_and1 h
theorem gw_or1 (h : GT X W a ta) : GW X W (.BoolOp .Or [a] pos) ta := pw_or1 h
theorem gw_and (h : GT X W a ta) (h' : GW X W (.BoolOp .And (b :: rest) pos) tb) : GW X W (.BoolOp .And (a :: b :: rest) pos) (andB ta tb) := by
  refine PW.imp (pw_and h h') fun σ H Q ⟨m, r, S, R, E, p⟩ => ?_
  refine ⟨m, r, S, R, E, (Post.split p).mono fun x S1 m1 H1 g1 R1 p1 => ?_⟩
  dsimp only
  split
  · rename_i hx
    rw [if_pos hx] at p1
    exact ⟨m1, r, S1, R1, E.mono g1.sta, p1⟩
  · rename_i hx
    rw [if_neg hx] at p1
    exact p1 m1 H1 (Gro.refl _ _) R1
theorem gw_or (h : GT X W a ta) (h' : GW X W (.BoolOp .Or (b :: rest) pos) tb) : GW X W (.BoolOp .Or (a :: b :: rest) pos) (orB ta tb) := by
  refine PW.imp (pw_or h h') fun σ H Q ⟨m, r, S, R, E, p⟩ => ?_
  refine ⟨m, r, S, R, E, (Post.split p).mono fun x S1 m1 H1 g1 R1 p1 => ?_⟩
  dsimp only
  split
  · rename_i hx
    rw [if_pos hx] at p1
    exact p1 m1 H1 (Gro.refl _ _) R1
  · rename_i hx
    rw [if_neg hx] at p1
    exact ⟨m1, r, S1, R1, E.mono g1.sta, p1⟩
theorem gt_w (h : GW X W a ta) : GT X W a ta := h.pt
theorem ge_not (h : GE X W a da) : GE X W (.UnaryOp .Not a pos) (notD da) := by
  refine PE.imp (pe_not h) fun σ H Q ⟨m, r, S, R, E, p⟩ => ?_
  refine ⟨m, r, S, R, E, (Post.split p).mono fun x S1 m1 H1 g1 R1 p1 v rv => ?_⟩
  cases x <;> first | exact p1.elim | skip
  exact ⟨_, rv, p1 m1 H1 (Gro.refl _ _) R1 _ rfl⟩
theorem ge_one {op} (h : GE X W a da) : GE X W (.BoolOp op [a] pos) da := pe_one h
theorem ge_and (h : GE X W a da) (h' : GE X W (.BoolOp .And (b :: rest) pos) db) : GE X W (.BoolOp .And (a :: b :: rest) pos) (andD da db) := by
  refine PE.imp (pe_and h h') fun σ H Q ⟨m, r, S, R, E, p⟩ => ?_
  refine ⟨m, r, S, R, E, (Post.split p).mono fun x S1 m1 H1 g1 R1 p1 v rv => ?_⟩
  cases x <;> first | exact p1.elim | skip
  refine ⟨_, rv, ?_⟩
  dsimp only at p1
  split
  · rename_i hx
    rw [if_pos hx] at p1
    exact ⟨m1, r, S1, R1, E.mono g1.sta, p1⟩
  · rename_i hx
    rw [if_neg hx] at p1
    exact p1 m1 H1 (Gro.refl _ _) R1 _ rfl
end
def Rs.st (x : Rs D) (r : Ev) (f : D → Sto → Rt) : Rt := match x with
  | .ok d S => f d S
  | .exc e S => .exc e r S
  | .bad => .bad
def Rs.stB (x : Rs Bool) (r : Ev) (f : Bool → Sto → Rt) : Rt := match x with
  | .ok d S => f d S
  | .exc e S => .exc e r S
  | .bad => .bad
def Rs.stA (x : Rs (List D)) (r : Ev) (f : List D → Sto → Rt) : Rt := match x with
  | .ok d S => f d S
  | .exc e S => .exc e r S
  | .bad => .bad
section
variable {K : PySem.W.Frag} {W : WX} {m : List Addr} {S : Sto} {H : Hp} {r : Ev} {σ : L2.St} {Z : Ends}
theorem PostS.later {x : Rt} {m1 : List Addr} {H1 : Hp} (h : PostS K W m H x Z) (g : Gro m m1 H H1) : PostS K W m1 H1 x Z := by
  cases x with
  | nx r S => exact fun m' H' σ g1 => h m' H' σ (g.trans g1)
  | rt a S => exact fun m' H' v g1 => h m' H' v (g.trans g1)
  | bk r S => exact fun m' H' σ g1 => h m' H' σ (g.trans g1)
  | ct r S => exact fun m' H' σ g1 => h m' H' σ (g.trans g1)
  | exc e r S => exact fun m' H' σ c d g1 => h m' H' σ c d (g.trans g1)
  | bad => exact h
theorem st_split {x : Rs D} {f : D → Sto → Rt} (E : ER K m H r σ) (h : PostS K W m H (x.st r f) Z) : Post K (WX.at W σ) m H x fun a S1 m1 H1 => PostS K W m1 H1 (f a S1) Z := by
  cases x with
  | ok a S => exact fun m' H' g _ => PostS.later h g
  | exc e S => exact fun m' H' c d g R q => h m' H' σ c d g R (E.mono g.sta) q
  | bad => exact h
theorem stB_split {x : Rs Bool} {f : Bool → Sto → Rt} (E : ER K m H r σ) (h : PostS K W m H (x.stB r f) Z) : Post K (WX.at W σ) m H x fun a S1 m1 H1 => PostS K W m1 H1 (f a S1) Z := by
  cases x with
  | ok a S => exact fun m' H' g _ => PostS.later h g
  | exc e S => exact fun m' H' c d g R q => h m' H' σ c d g R (E.mono g.sta) q
  | bad => exact h
theorem stA_split {x : Rs (List Hm.D)} {f : List Hm.D → Sto → Rt} (E : ER K m H r σ) (h : PostS K W m H (x.stA r f) Z) : Post K (WX.at W σ) m H x fun a S1 m1 H1 => PostS K W m1 H1 (f a S1) Z := by
  cases x with
  | ok a S => exact fun m' H' g _ => PostS.later h g
  | exc e S => exact fun m' H' c d g R q => h m' H' σ c d g R (E.mono g.sta) q
  | bad => exact h
end
def sNx : DS := fun r S => .nx r S
def sBad : DS := fun _ _ => .bad
def sEx (d : DE) : DS := fun r S => (d r S).st r fun _ S1 => .nx r S1
def sRt (d : DE) : DS := fun r S => (d r S).st r fun x S1 => .rt x S1
def sIf (c : DB) (a b : DS) : DS := fun r S => (c r S).stB r fun x S1 => if x = true then a r S1 else b r S1
def Rt.andThen (x : Rt) (f : Ev → Sto → Rt) : Rt := match x with
  | .nx r S => f r S
  | x => x
def sSq (a b : DS) : DS := fun r S => (a r S).andThen b
section
variable {X : Cx} {W : WX} {e c : Expr} {st : Stmt} {rest sa sb : List Stmt} {d : DE} {tc : DB} {a b : DS} {pos : Pos}
theorem gs_nil : GSs X W [] sNx := PSs.imp pss_nil fun D σ H ⟨m, r, S, R, E, p⟩ => p m H σ (Gro.refl _ _) R E
theorem gs_cons (h : GS X W st a) (h' : GSs X W rest b) : GSs X W (st :: rest) (sSq a b) := by
  refine PSs.imp (pss_cons h h') fun D σ H ⟨m, r, S, R, E, p⟩ => ?_
  refine ⟨m, r, S, R, E, ?_⟩
  have p' : PostS X.K W m H ((a r S).andThen b) D := p
  revert p'
  cases a r S with
  | nx r1 S1 => exact fun p' m' H' σ' g R' E' => ⟨m', r1, S1, R', E', p'.later g⟩
  | _ => exact fun p' => p'
theorem gs_one (h : GS X W st a) : GSs X W [st] a := pss_one h
theorem gs_bad : GS X W st sBad := PS.imp ps_never fun D σ H ⟨m, r, S, R, E, p⟩ => p.elim
theorem gs_expr (h : GE X W e d) (hs : swapsWith e none pos.line X.env = pure false := by rfl) : GS X W (.Expr e pos) (sEx d) := by
  refine PS.imp (ps_expr h hs) fun D σ H ⟨m, r, S, R, E, p⟩ => ?_
  exact ⟨m, r, S, R, E, (st_split E p).mono fun x S1 m1 H1 g1 R1 p1 v rv => p1 m1 H1 σ (Gro.refl _ _) R1 (E.mono g1.sta)⟩
theorem gs_ret (h : GE X W e d) : GS X W (.Return (some e) pos) (sRt d) := by
  refine PS.imp (ps_ret h) fun D σ H ⟨m, r, S, R, E, p⟩ => ?_
  exact ⟨m, r, S, R, E, (st_split E p).mono fun x S1 m1 H1 g1 R1 p1 v rv => p1 m1 H1 v (Gro.refl _ _) R1 rv⟩
theorem gs_if (hc : GT X W c tc) (ha : GSs X W sa a) (hb : GSs X W sb b) : GS X W (.If c sa sb pos) (sIf tc a b) := by
  refine PS.imp (ps_if hc ha hb) fun D σ H ⟨m, r, S, R, E, p⟩ => ?_
  refine ⟨m, r, S, R, E, (stB_split E p).mono fun x S1 m1 H1 g1 R1 p1 => ?_⟩
  dsimp only
  split
  · rename_i hx
    rw [if_pos hx] at p1
    exact ⟨m1, r, S1, R1, E.mono g1.sta, p1⟩
  · rename_i hx
    rw [if_neg hx] at p1
    exact ⟨m1, r, S1, R1, E.mono g1.sta, p1⟩
end
abbrev DG := D → Ev → Sto → Option (Ev × Sto)
def tGt (K : PySem.W.Frag) (g : DG) : TG := fun v σ H Q => ∃ m r S x, Rep K m S H ∧ ER K m H r σ ∧ RD K m H x v ∧ ∃ r' S', g x r S = some (r', S') ∧ ∀ m' H' σ', Gro m m' H H' → Rep K m' S' H' → ER K m' H' r' σ' → Q σ' H'
abbrev GG (X : Cx) (tg : Expr) (g : DG) : Prop := PG X tg (tGt X.K g)
abbrev DGs := List D → Ev → Sto → Option (Ev × Sto)
def tGts (K : PySem.W.Frag) (g : DGs) : TGs := fun v σ H Q => ∃ m r S x, Rep K m S H ∧ ER K m H r σ ∧ RDs K m H x v ∧ ∃ r' S', g x r S = some (r', S') ∧ ∀ m' H' σ', Gro m m' H H' → Rep K m' S' H' → ER K m' H' r' σ' → Q σ' H'
abbrev GGs (X : Cx) (tg : List Expr) (g : DGs) : Prop := PGs X tg (tGts X.K g)
theorem PG.imp {X : Cx} {e : Expr} {t t' : TG} (h : PG X e t) (i : ∀ v σ H Q, t' v σ H Q → t v σ H Q) : PG X e t' := ⟨fun pins s σ H v u Q I rv q => h.run pins s σ H v u Q I rv (i v σ H Q q)⟩
theorem PGs.imp {X : Cx} {e : List Expr} {t t' : TGs} (h : PGs X e t) (i : ∀ v σ H Q, t' v σ H Q → t v σ H Q) : PGs X e t' := ⟨fun pins s σ H v u Q I rv q => h.run pins s σ H v u Q I rv (i v σ H Q q)⟩
def gV (i : Nat) : DG := fun x r S => some (r.set i (some x), S)
def gN : DGs := fun xs r S => match xs with
  | [] => some (r, S)
  | _ => none
def gC (g : DG) (h : DGs) : DGs := fun xs r S => match xs with
  | x :: xs => (g x r S).bind fun p => h xs p.1 p.2
  | [] => none
def gT (n : Nat) (h : DGs) : DG := fun x r S => match x with
  | .tup xs => if xs.length = n then h xs r S else none
  | _ => none
section
variable {X : Cx} {pos : Pos} {W : WX}
theorem gg_name (i : Nat) {x : Str} (hN : X.N.Nodup) (hi : X.N[i]? = some x) (hx : Loc X.env.scope x) (hf : X.fn x = true ∨ X.env.scope.names.lookup x = some .local := by first | exact .inl rfl | exact .inr rfl | assumption) : GG X (.Name x pos) (gV i) := by
  refine PG.imp (pg_name hN hi hx hf) fun v σ H Q ⟨m, r, S, x, R, E, rx, r', S', e, q⟩ => ?_
  cases e
  exact q m H _ (Gro.refl _ _) R (E.set rx i)
theorem ggs_nil : GGs X [] gN := by
  refine PGs.imp pgs_nil fun v σ H Q ⟨m, r, S, x, R, E, rx, r', S', e, q⟩ => ?_
  cases x with
  | nil =>
    cases e
    exact ⟨rx, q m H _ (Gro.refl _ _) R E⟩
  | cons => cases e
theorem ggs_cons {e : Expr} {es : List Expr} {g : DG} {h : DGs} (h1 : GG X e g) (h2 : GGs X es h) (hs : (assignEach (e :: es) X.env).map (·.2) = assign e X.env :: (assignEach es X.env).map (·.2) := by rfl) : GGs X (e :: es) (gC g h) := by
  refine PGs.imp (pgs_cons h1 h2 hs) fun v σ H Q ⟨m, r, S, x, R, E, rx, r', S', e, q⟩ => ?_
  cases x with
  | nil => cases e
  | cons x xs =>
    obtain ⟨v1, vr, rfl, e1, e2⟩ := rx
    have e' : (g x r S).bind (fun p => h xs p.1 p.2) = some (r', S') := e
    obtain ⟨⟨r1, S1⟩, q1, q2⟩ := Option.bind_eq_some_iff.mp e'
    refine ⟨v1, vr, rfl, m, r, S, x, R, E, e1, r1, S1, q1, fun m1 H1 σ1 g1 R1 E1 => ?_⟩
    exact ⟨m1, r1, S1, xs, R1, E1, RDs.mono g1.sta _ _ e2, r', S', q2, fun m' H' σ' g' => q m' H' σ' (g1.trans g')⟩
theorem gg_tup {es : List Expr} {k : Nat} {h : DGs} {n : Nat} (hc : X.calm = true) (h1 : GGs X es h)
    (hn : (assignEach es X.env).length = n := by rfl) (hst : (assignEach es X.env).findIdx? (·.1) = none := by rfl) : GG X (.Tuple es k pos) (gT n h) := by
  refine PG.imp (pg_tup hc h1 hn hst) fun v σ H Q ⟨m, r, S, x, R, E, rx, r', S', e, q⟩ => ?_
  cases x <;> first | cases e | skip
  rename_i xs
  have e' : (if xs.length = n then h xs r S else none) = some (r', S') := e
  split at e'
  · rename_i hl
    obtain ⟨a, vs, rfl, h3, h4⟩ := rx
    exact ⟨a, vs, rfl, h3, by rw [← h4.length]; exact hl, m, r, S, xs, R, E, h4, r', S', e', q⟩
  · cases e'
end
def sAs (d : DE) (g : DG) : DS := fun r S => (d r S).st r fun x S1 => match g x r S1 with
  | some p => .nx p.1 p.2
  | none => .bad
def sPr (i j : Nat) (d : DA) : DS := fun r S => (d r S).stA r fun xs S1 => match xs with
  | [x, y] => .nx ((r.set i (some x)).set j (some y)) S1
  | _ => .bad
section
variable {X : Cx} {W : WX} {tg e : Expr} {d : DE} {g : DG} {pos : Pos}
theorem as_use {K : PySem.W.Frag} {m : List Addr} {S : Sto} {H : Hp} {r : Ev} {σ : L2.St} {D : Ends} (R : Rep K m S H) (E : ER K m H r σ) (p : PostS K W m H (sAs d g r S) D) : PV K (WX.at W σ) m H (d r S) fun v H1 => tGt K g v σ H1 D.nx := by
  refine (st_split E p).mono fun x S1 m1 H1 g1 R1 p1 v rv => ?_
  cases eg : g x r S1 with
  | none => rw [eg] at p1; exact p1.elim
  | some q =>
    rw [eg] at p1
    exact ⟨m1, r, S1, x, R1, E.mono g1.sta, rv, q.1, q.2, eg, fun m' H' σ' g' R' E' => p1 m' H' σ' g' R' E'⟩
theorem gs_asg (he : GE X W e d) (hg : GG X tg g) (hs : swapsWithSole [tg] e pos.line X.env = pure false := by rfl) (hw : swappedStores [tg] e X.env = pure none := by rfl)
    (h1 : (assignEach [tg] X.env).map (·.2) = [assign tg X.env] := by rfl) : GS X W (.Assign [tg] e pos) (sAs d g) := by
  refine PS.imp (ps_asg he hg hs hw h1) fun D σ H ⟨m, r, S, R, E, p⟩ => ?_
  exact ⟨m, r, S, R, E, as_use R E p⟩
theorem tgV {K : PySem.W.Frag} {i : Nat} {v : V} {σ : L2.St} {H : Hp} {Q : L2.St → Hp → Prop} (h : tGt K (gV i) v σ H Q) : gName i v σ H Q := by
  obtain ⟨m, r, S, x, R, E, rx, r', S', e, q⟩ := h
  cases e
  exact q m H _ (Gro.refl _ _) R (E.set rx i)
theorem gs_set (i : Nat) {x : Str} {pos' : Pos} (hN : X.N.Nodup) (hi : X.N[i]? = some x) (hx : Loc X.env.scope x) (he : GE X W e d) (hs : swapsWith e (some (.Name x pos')) pos.line X.env = pure false := by rfl) (hf : X.fn x = true ∨ X.env.scope.names.lookup x = some .local := by first | exact .inl rfl | exact .inr rfl | assumption) :
    GS X W (.Assign [.Name x pos'] e pos) (sAs d (gV i)) := by
  refine PS.imp (ps_set hN hi hx he hs hf) fun D σ H ⟨m, r, S, R, E, p⟩ => ?_
  exact ⟨m, r, S, R, E, (as_use R E p).mono fun x S1 m1 H1 g1 R1 p1 v rv => tgV (p1 v rv)⟩
theorem gs_par (i j : Nat) {x y : Str} {a b : Expr} {da : DA} {px py pt : Pos} {kt k2 pt2} (hc : X.calm = true) (hN : X.N.Nodup) (hi : X.N[i]? = some x) (hj : X.N[j]? = some y) (hij : i ≠ j)
    (hx : X.env.scope.names.lookup x = some .local) (hy : X.env.scope.names.lookup y = some .local) (ha : GA X W [a, b] da)
    (hw : swappedStores [.Tuple [.Name x px, .Name y py] kt pt] (.Tuple [a, b] k2 pt2) X.env = pure (some [x, y]))
    (hs : swapsWithSole [.Tuple [.Name x px, .Name y py] kt pt] (.Tuple [a, b] k2 pt2) pos.line X.env = pure false := by rfl) :
    GS X W (.Assign [.Tuple [.Name x px, .Name y py] kt pt] (.Tuple [a, b] k2 pt2) pos) (sPr i j da) := by
  refine PS.imp (ps_par hc hN hi hj hij hx hy ha hw hs) fun D σ H ⟨m, r, S, R, E, p⟩ => ?_
  refine ⟨m, r, S, R, E, (stA_split E p).mono fun xs S1 m1 H1 g1 R1 p1 vs rv => ?_⟩
  match xs, rv, p1 with
  | [], _, p1 => exact p1.elim
  | [_], _, p1 => exact p1.elim
  | _ :: _ :: _ :: _, _, p1 => exact p1.elim
  | [x1, y1], rv, p1 =>
    obtain ⟨v, w, rfl, h1, h2⟩ := rv.inv2
    exact ⟨v, w, rfl, p1 m1 H1 _ (Gro.refl _ _) R1 (((E.mono g1.sta).set h1 i).set h2 j)⟩
end
def setO (o i v : D) (S : Sto) : Option Sto := match o, i with
  | .loc n, .int k => match S[n]? with
    | some (.lst ds) => (ixN ds.length k).map fun j => S.set n (.lst (ds.set j v))
    | _ => none
  | _, _ => none
def gS (o i : DE) : DG := fun x r S => match o r S with
  | .ok od S1 => match i r S1 with
    | .ok id S2 => (setO od id x S2).map fun S3 => (r, S3)
    | _ => none
  | _ => none
theorem set_lst {K : PySem.W.Frag} {m : List Addr} {S S' : Sto} {H : Hp} {o i x : D} {vo vi v : V} {Q : Hp → Prop} (R : Rep K m S H) (ho : RD K m H o vo) (hi : RD K m H i vi) (hx : RD K m H x v) (e : setO o i x S = some S')
    (q : ∀ H', Gro m m H H' → Rep K m S' H' → Q H') : rSetL vo vi v H Q := by
  cases o <;> first | exact nomatch (show none = some S' from e) | skip
  cases i <;> first | exact nomatch (show none = some S' from e) | skip
  rename_i n k
  have e' : (match S[n]? with
    | some (.lst ds) => (ixN ds.length k).map fun j => S.set n (.lst (ds.set j x))
    | _ => none) = some S' := e
  cases en : S[n]? with
  | none => rw [en] at e'; cases e'
  | some ob =>
    rw [en] at e'
    cases ob <;> first | exact nomatch (show none = some S' from e') | skip
    rename_i ds
    obtain ⟨j, ej, rfl⟩ := Option.map_eq_some_iff.mp e'
    obtain ⟨a, vs, rfl, ha, h1, h2⟩ := at_lst R ho en
    have g := gro_write (u := .lst (vs.set j v)) h1 (List.mem_of_getElem? ha) (fun _ z => by cases z) (fun _ _ z => by cases z)
    refine ⟨a, vs, k, j, rfl, hi, h1, by rw [← h2.length]; exact ej, q _ g (R.write ha ⟨_, upd_same, RDs.mono g.sta _ _ (h2.set hx j)⟩)⟩
theorem gg_sub {X : Cx} {W : WX} {o i : Expr} {d_o di : DE} {pos : Pos} (ho : GE X W o d_o) (hi : GE X W i di)
    (ha : ∀ v, assign (.Subscript o i pos) X.env v = (do
      let ov ← holding [v] (eval o X.env)
      let iv ← holding [v, ov] (eval i X.env)
      standAt pos
      holding [v, ov, iv] (setItem ov iv v)
      release [v, ov, iv] []) := by intro _; rfl) : GG X (.Subscript o i pos) (gS d_o di) := by
  refine PG.imp (pg_sub ho hi set_list ha) fun v σ H Q ⟨m, r, S, x, R, E, rx, r', S', e, q⟩ => ?_
  unfold gS at e
  cases e1 : d_o r S with
  | exc _ _ => rw [e1] at e; cases e
  | bad => rw [e1] at e; cases e
  | ok od S1 =>
    rw [e1] at e
    dsimp only at e
    cases e2 : di r S1 with
    | exc _ _ => rw [e2] at e; cases e
    | bad => rw [e2] at e; cases e
    | ok id S2 =>
      rw [e2] at e
      obtain ⟨S3, e3, e4⟩ := Option.map_eq_some_iff.mp e
      cases e4
      refine ⟨m, r, S, R, E, ?_⟩
      rw [e1]
      refine fun m1 H1 g1 R1 vo ro => ⟨m1, r, S1, R1, E.mono g1.sta, ?_⟩
      rw [e2]
      refine fun m2 H2 g2 R2 vi ri => set_lst R2 (RD.mono g2.sta _ _ ro) ri (RD.mono g2.sta _ _ (RD.mono g1.sta _ _ rx)) e3 fun H3 g3 R3 => ?_
      exact q m2 H3 _ (g1.trans (g2.trans g3)) R3 (((E.mono g1.sta).mono g2.sta).mono g3.sta)
def lstD : D → Sto → Option (List D)
  | .loc n, S => match S[n]? with
    | some (.lst ds) => some ds
    | _ => none
  | _, _ => none
theorem lst_ok {K : PySem.W.Frag} {m : List Addr} {S : Sto} {H : Hp} (R : Rep K m S H) {x : D} {v : V} {ds : List D} (h : RD K m H x v) (e : lstD x S = some ds) : ∃ n a vs, x = .loc n ∧ S[n]? = some (.lst ds) ∧ v = .ref a ∧ m[n]? = some a ∧ H a = some (.lst vs) ∧ RDs K m H ds vs := by
  cases x <;> first | exact nomatch (show none = some ds from e) | skip
  rename_i n
  have q := seq_loc (n := n) (S := S) (ds := ds) e
  obtain ⟨a, vs, h1, h2, h3, h4⟩ := at_lst R h q
  exact ⟨n, a, vs, rfl, q, h1, h2, h3, h4⟩
def sAugI (o i e : DE) : DS := fun r S => (o r S).st r fun od S1 => (i r S1).st r fun id S2 => match lstD od S2, id with
  | some ds, .int k => (match atD ds k with
    | some x => (e r S2).st r fun y S3 => (match x, y with
      | .int a, .int b => (match setO od id (.int (a + b)) S3 with
        | some S4 => .nx r S4
        | none => .bad)
      | _, _ => .bad)
    | none => .bad)
  | _, _ => .bad
theorem get_list {X : Cx} : PGet X (rIxL X.K) := by
  intro pins s σ H x y v u Q I rx ry h
  obtain ⟨p, xs, i, z, rfl, rfl, hq, he, q⟩ := h
  cases rx
  obtain ⟨t, rfl⟩ := ry
  obtain ⟨its, r, pl, hz⟩ := I.list hq
  obtain ⟨j, h1, h2, h3, h4, h5⟩ := atI_get he
  obtain ⟨w, ew, rw'⟩ := r.get h2
  have hl := r.length
  have hn := line63
  by_cases h0 : 0 ≤ i
  · have hj : i.toNat = j := by
      rw [seqIndex_of h0 h5] at h1
      exact Option.some.inj h1
    exact wpAny_getItem_list pl.isList h0 (by omega) (by rw [hj]; simpa using ew) ⟨z, H, I, rw', q⟩
  · have hj : (i + (its.toArray.size : Int)).toNat = j := by
      rw [seqIndex_neg (by omega) h4] at h1
      rw [List.size_toArray, ← hl]
      exact Option.some.inj h1
    exact wpAny_getItem_list_neg pl.isList (by omega) (by rw [List.size_toArray]; omega) (by omega) (by rw [hj]; simpa using ew) ⟨z, H, I, rw', q⟩
theorem gs_augI {X : Cx} {W : WX} {o i e : Expr} {d_o di de : DE} {tpos pos : Pos} (ho : GE X W o d_o) (hi : GE X W i di) (he : GE X W e de)
    (ha : ∀ ov iv new, augStore i ov iv new = (do holding [new, ov, iv] (setItem ov iv new); release [new, ov, iv] []; pure .next) := by intros; rfl) : GS X W (.AugAssign (.Subscript o i tpos) .Add e pos) (sAugI d_o di de) := by
  refine PS.imp (ps_augS ho hi get_list he ip_add set_list ha) fun D σ H ⟨m, r, S, R, E, p⟩ => ?_
  refine ⟨m, r, S, R, E, (st_split E p).mono fun od S1 m1 H1 g1 R1 p1 vo ro => ?_⟩
  have E1 := E.mono g1.sta
  refine ⟨m1, r, S1, R1, E1, (st_split E1 p1).mono fun id S2 m2 H2 g2 R2 p2 vi ri => ?_⟩
  have E2 := E1.mono g2.sta
  have ro2 := RD.mono g2.sta _ _ ro
  cases e1 : lstD od S2 with
  | none => rw [e1] at p2; exact p2.elim
  | some ds =>
    rw [e1] at p2
    cases id <;> first | exact p2.elim | skip
    rename_i k
    dsimp only at p2
    cases e2 : atD ds k with
    | none => rw [e2] at p2; exact p2.elim
    | some x =>
      rw [e2] at p2
      dsimp only at p2
      obtain ⟨_, a, ws, _, _, rfl, _, hl0, h1⟩ := lst_ok R2 ro2 e1
      obtain ⟨u, g3, hu⟩ := at_d h1 e2
      · have hl : SqL X.K H2 a ws := SqL.of hl0
        refine ⟨a, ws, k, u, rfl, ri, hl, g3, ?_⟩
        refine ⟨m2, r, S2, R2, E2, (st_split E2 p2).mono fun y S3 m3 H3 g4 R3 p3 vy ry => ?_⟩
        cases x <;> first | exact p3.elim | skip
        cases y <;> first | exact p3.elim | skip
        rename_i ia ib
        dsimp only at p3
        cases e4 : setO od (.int k) (.int (ia + ib)) S3 with
        | none => rw [e4] at p3; exact p3.elim
        | some S4 =>
          rw [e4] at p3
          refine ⟨ia, ib, hu, ry, ?_⟩
          exact set_lst R3 (RD.mono g4.sta _ _ ro2) (RD.mono g4.sta _ _ ri) (show RD X.K m3 H3 (.int (ia + ib)) (.int (ia + ib)) from rfl) e4 fun H4 g5 R4 => p3 m3 H4 σ g5 R4 ((E2.mono g4.sta).mono g5.sta)
def met1 (g : D → D → Sto → Rs D) (a b : DE) : DE := fun r S => (a r S).bind fun x S1 => match lstD x S1 with
  | some _ => (b r S1).bind fun y S2 => (g x y S2).nox
  | none => .bad
def apD (x y : D) (S : Sto) : Rs D := match x, lstD x S with
  | .loc n, some ds => if ds.length < sizeLine then .ok .non (S.set n (.lst (ds ++ [y]))) else .bad
  | _, _ => .bad
theorem ap_d {K : PySem.W.Frag} {m : List Addr} {S : Sto} {H : Hp} {x y : D} {v w : V} {Q : VK} (R : Rep K m S H) (hx : RD K m H x v) (hy : RD K m H y w) (p : PV K W0 m H (apD x y S) Q) : rAppend v [w] H Q := by
  unfold apD at p
  split at p
  · rename_i n ds e
    obtain ⟨_, a, vs, e1, en, rfl, ha, h1, h2⟩ := lst_ok R hx e
    cases e1
    split at p
    · rename_i hz
      have g := gro_write (u := .lst (vs ++ [w])) h1 (List.mem_of_getElem? ha) (fun _ z => by cases z) (fun _ _ z => by cases z)
      exact ⟨a, vs, w, rfl, rfl, h1, by rw [← h2.length]; exact hz, p m _ g (R.write ha ⟨_, upd_same, RDs.mono g.sta _ _ (h2.append (RDs.one hy))⟩) _ rfl⟩
    · exact p.elim
  · exact p.elim
section
variable {X : Cx} {W : WX} {o e : Expr} {da db : DE} {apos cpos : Pos}
theorem ge_met1 {id : String} {name : Str} {r : V → List V → Hp → VK → Prop} {g : D → D → Sto → Rs D} (slot : Slot "list" name id) (hty : typeOf (.builtin id) = pure (.type "method_descriptor")) (hm : MtR X id r)
    (hg : ∀ {m : List Addr} {S : Sto} {H : Hp} {x y : D} {v w : V} {Q : VK}, Rep X.K m S H → RD X.K m H x v → RD X.K m H y w → PV X.K W0 m H (g x y S) Q → r v [w] H Q) (ho : GE X W o da) (he : GE X W e db)
    (hbase : attributeBase o name X.env (eval o X.env) = eval o X.env := by rfl)
    (hfew : ((backTo cpos (starEach [e] X.env)).all (fun x => !x.1) && (backToKw cpos (keywordEach [] X.env)).all (fun x => x.1.isSome)
      && decide ([e].length + ([] : List Keyword).length + (if ([] : List Keyword).isEmpty then 0 else 1) < 30)) = true := by rfl)
    (hline : (apos.endLine == cpos.line) = true := by rfl) (hs : starEach [e] X.env = (false, eval e X.env) :: starEach [] X.env := by rfl) (hplain : (backTo cpos (starEach [] X.env)).any (·.1) = false := by rfl) :
    GE X W (.Call (.Attribute o name apos) [e] [] cpos) (met1 g da db) := by
  refine PE.imp (pe_bm PySem.F.plainAttrs_list slot hty hm ho (pa_cons he pa_nil hs) hbase hfew hline hs hplain) fun σ H Q ⟨m, r, S, R, E, p⟩ => ?_
  refine ⟨m, r, S, R, E, (Post.split p).mono fun x S1 m1 H1 g1 R1 p1 v rv => ?_⟩
  cases e1 : lstD x S1 with
  | none => rw [e1] at p1; exact p1.elim
  | some ds =>
    rw [e1] at p1
    obtain ⟨_, a, vs, _, _, rfl, _, h1, _⟩ := lst_ok R1 rv e1
    refine ⟨.inl ⟨rfl, _, SqL.of h1⟩, m1, r, S1, R1, E.mono g1.sta, (Post.split p1).mono fun y S2 m2 H2 g2 R2 p2 w rw => ?_⟩
    exact hg R2 (RD.mono g2.sta _ _ rv) rw (Post.nox0 p2)
end
def whN : Nat → DB → DS → Ev → Sto → Option Rt
  | 0, _, _, _, _ => none
  | n + 1, c, b, r, S => match c r S with
    | .ok true S1 => (match b r S1 with
      | .nx r2 S2 => whN n c b r2 S2
      | .ct r2 S2 => whN n c b r2 S2
      | .bk r2 S2 => some (.nx r2 S2)
      | x => some x)
    | .ok false S1 => some (.nx r S1)
    | .exc e S1 => some (.exc e r S1)
    | .bad => some .bad
theorem whN_mono {c : DB} {b : DS} : ∀ {n : Nat} {r : Ev} {S : Sto} {x : Rt} (k : Nat), whN n c b r S = some x → whN (n + k) c b r S = some x
  | 0, _, _, _, _, h => nomatch h
  | n + 1, r, S, x, k, h => by
    rw [Nat.add_right_comm]
    unfold whN at h ⊢
    cases hc : c r S with
    | ok k' S1 =>
      rw [hc] at h
      cases k' with
      | true =>
        dsimp only at h ⊢
        cases hb : b r S1 with
        | nx r2 S2 =>
          rw [hb] at h
          exact whN_mono k h
        | ct r2 S2 =>
          rw [hb] at h
          exact whN_mono k h
        | _ =>
          rw [hb] at h
          exact h
      | false => exact h
    | _ =>
      rw [hc] at h
      exact h
open Classical in
noncomputable def sWh (c : DB) (b : DS) : DS := fun r S => if h : ∃ n x, whN n c b r S = some x then h.choose_spec.choose else .bad
theorem sWh_of {c : DB} {b : DS} {n : Nat} {r : Ev} {S : Sto} {x : Rt} (h : whN n c b r S = some x) : sWh c b r S = x := by
  have q : ∃ n x, whN n c b r S = some x := ⟨n, x, h⟩
  unfold sWh
  rw [dif_pos q]
  have z := q.choose_spec.choose_spec
  have z1 := whN_mono n z
  have z2 := whN_mono q.choose h
  rw [Nat.add_comm, z1] at z2
  exact Option.some.inj z2
theorem gs_while {X : Cx} {W : WX} {c : Expr} {body : List Stmt} {tc : DB} {tb : DS} {pos : Pos} (hp : PassesOwn (model X.prog X.w) X.A X.env X.xe) (hc : GT X W c tc) (hb : GSs X W body tb) : GS X W (.While c body [] pos) (sWh tc tb) := by
  refine PS.imp (ps_while hp hc hb) fun D σ H ⟨m, r, S, R, E, p⟩ => ?_
  by_cases q : ∃ n x, whN n tc tb r S = some x
  · obtain ⟨n, x, e⟩ := q
    rw [sWh_of e] at p
    refine ⟨fun k σ H => ∃ m r S x, Rep X.K m S H ∧ ER X.K m H r σ ∧ whN k tc tb r S = some x ∧ PostS X.K W m H x D, ⟨n, m, r, S, x, R, E, e, p⟩, ?_⟩
    rintro k σ H ⟨m, r, S, x, R, E, e, p⟩
    cases k with
    | zero => cases e
    | succ k =>
      refine ⟨m, r, S, R, E, ?_⟩
      unfold whN at e
      cases ec : tc r S with
      | exc e1 S1 =>
        rw [ec] at e
        cases e
        exact fun m' H' c d g R' q => p m' H' σ c d g R' (E.mono g.sta) q
      | bad =>
        rw [ec] at e
        cases e
        exact p.elim
      | ok b S1 =>
        rw [ec] at e
        intro m1 H1 g1 R1
        have E1 := E.mono g1.sta
        cases b with
        | false =>
          cases e
          exact (if_neg Bool.false_ne_true).mpr (p m1 H1 σ g1 R1 E1)
        | true =>
          dsimp only at e
          refine (if_pos rfl).mpr ⟨fun σ' H' => ∃ m r S x, Rep X.K m S H' ∧ ER X.K m H' r σ' ∧ whN k tc tb r S = some x ∧ PostS X.K W m H' x D, fun σ' H' h => ⟨k, Nat.lt_succ_self k, h⟩, m1, r, S1, R1, E1, ?_⟩
          cases eb : tb r S1 with
          | nx r2 S2 =>
            rw [eb] at e
            exact fun m2 H2 σ2 g2 R2 E2 => ⟨m2, r2, S2, x, R2, E2, e, p.later (g1.trans g2)⟩
          | ct r2 S2 =>
            rw [eb] at e
            exact fun m2 H2 σ2 g2 R2 E2 => ⟨m2, r2, S2, x, R2, E2, e, p.later (g1.trans g2)⟩
          | bk r2 S2 =>
            rw [eb] at e
            cases e
            exact fun m2 H2 σ2 g2 R2 E2 => p m2 H2 σ2 (g1.trans g2) R2 E2
          | rt d S2 =>
            rw [eb] at e
            cases e
            exact fun m2 H2 v g2 R2 rv => p m2 H2 v (g1.trans g2) R2 rv
          | exc e1 r2 S2 =>
            rw [eb] at e
            cases e
            exact fun m2 H2 σ2 c d g2 R2 E2 q => p m2 H2 σ2 c d (g1.trans g2) R2 E2 q
          | bad =>
            rw [eb] at e
            cases e
            exact p.elim
  · have z : sWh tc tb r S = .bad := by
      unfold sWh
      rw [dif_neg q]
    rw [z] at p
    exact p.elim
abbrev Src := List D × (Sto → Prop)
abbrev DI := Ev → Sto → Rs Src
def ItG (K : PySem.W.Frag) (m0 : List Addr) (H0 : Hp) (s : Src) (J : It) : Prop := ∀ i m S H, Sta m0 m H0 H → Rep K m S H → s.2 S →
  (∀ x, s.1[i]? = some x → J.go i H ∧ ∀ v H', J.yld i H v H' → Gro m m H H' ∧ Rep K m S H' ∧ RD K m H' x v) ∧ (s.1.length ≤ i → J.stop i H)
def tI (K : PySem.W.Frag) (W : WX) (d : DI) : TI := fun σ H R => ∃ m r S, Rep K m S H ∧ ER K m H r σ ∧ Post K (WX.at W σ) m H (d r S) fun s _ m' H' => ∀ J, ItG K m' H' s J → R J H'
abbrev GI (X : Cx) (W : WX) (tg iter : Expr) (d : DI) : Prop := PI X tg iter (tI X.K W d)
theorem PI.imp {X : Cx} {tg e : Expr} {t t' : TI} (h : PI X tg e t) (i : ∀ σ H Q, t' σ H Q → t σ H Q) : PI X tg e t' := ⟨fun pins s σ H Q I q => h.run pins s σ H Q I (i σ H Q q)⟩
theorem PI.or {X : Cx} {tg e : Expr} {t t' : TI} (h : PI X tg e t) (h' : PI X tg e t') : PI X tg e (fun σ H Q => t σ H Q ∨ t' σ H Q) := ⟨fun pins s σ H Q I q => q.elim (h.run pins s σ H Q I) (h'.run pins s σ H Q I)⟩
theorem Sta.refl (m : List Addr) (H : Hp) : Sta m m H H := (Gro.refl m H).sta
theorem Sta.trans {m m1 m2 : List Addr} {H H1 H2 : Hp} (a : Sta m m1 H H1) (b : Sta m1 m2 H1 H2) : Sta m m2 H H2 := by
  obtain ⟨g, e⟩ := a.pre
  obtain ⟨g', e'⟩ := b.pre
  exact ⟨⟨g ++ g', by rw [e', e, List.append_assoc]⟩, fun c xs h => b.tup c xs (a.tup c xs h), fun c o u h => b.frz c o u (a.frz c o u h)⟩
def gdOf (x : D) (ds : List D) : Sto → Prop := fun S => seqD x S = some ds
def walkD (d : DE) : DI := fun r S => (d r S).bind fun x S1 => match seqD x S1 with
  | some ds => .ok (ds, gdOf x ds) S1
  | none => .bad
theorem gi_walk {X : Cx} {W : WX} {tg e : Expr} {d : DE} (h : GE X W e d) : GI X W tg e (walkD d) := by
  refine PI.imp (PI.or (pi_list h) (pi_tup h)) fun σ H R0 ⟨m, r, S, R, E, p⟩ => ?_
  have p0 := Post.split p
  cases ed : d r S with
  | exc e0 S0 =>
    refine .inl ⟨m, r, S, R, E, ?_⟩
    rw [ed] at p0 ⊢
    exact p0
  | bad =>
    rw [ed] at p0
    exact p0.elim
  | ok x S0 =>
    rw [ed] at p0
    by_cases ht : ∃ es, x = .tup es
    · obtain ⟨es, rfl⟩ := ht
      refine .inr ⟨m, r, S, R, E, ?_⟩
      rw [ed]
      intro m1 H1 g1 R1 v rv
      obtain ⟨a, vs, rfl, h1, h2⟩ := id rv
      refine ⟨a, rfl, ⟨vs, h1⟩, p0 m1 H1 g1 R1 m1 H1 (Gro.refl _ _) R1 _ fun i m' S' H' st R' gd => ?_⟩
      obtain ⟨_, ws, ea, h3, h4⟩ := RD.mono st (.tup es) _ rv
      cases ea
      refine ⟨fun x hx => ?_, fun hl => ⟨ws, h3, by rw [← h4.length]; exact hl⟩⟩
      obtain ⟨u, hu, ru⟩ := h4.get hx
      refine ⟨⟨ws, u, h3, hu⟩, fun v' H'' y => ?_⟩
      obtain ⟨rfl, y⟩ := y
      have z := y ws h3
      rw [hu] at z
      cases z
      exact ⟨Gro.refl _ _, R', ru⟩
    · refine .inl ⟨m, r, S, R, E, ?_⟩
      rw [ed]
      intro m1 H1 g1 R1 v rv
      have p1 := p0 m1 H1 g1 R1
      dsimp only at p1
      cases e1 : seqD x S0 with
      | none => rw [e1] at p1; exact p1.elim
      | some ds =>
        rw [e1] at p1
        obtain ⟨a, vs, rfl, h1, h2⟩ := seq_ok R1 rv e1
        have hl : SqL X.K H1 a vs := by
          rcases h2 with ⟨h2, _⟩ | ⟨_, h2⟩
          · exact h2
          · exact absurd h2 ht
        refine ⟨a, rfl, ⟨vs, hl⟩, p1 m1 H1 (Gro.refl _ _) R1 _ fun i m' S' H' st R' gd => ?_⟩
        obtain ⟨_, ws, ea, h3, h4⟩ := seq_ok R' (RD.mono st x _ rv) gd
        cases ea
        have hl' : SqL X.K H' a ws := by
          rcases h4 with ⟨h4, _⟩ | ⟨_, h4⟩
          · exact h4
          · exact absurd h4 ht
        refine ⟨fun x hx => ?_, fun hl => ⟨ws, hl', by rw [← h3.length]; exact hl⟩⟩
        obtain ⟨u, hu, ru⟩ := h3.get hx
        refine ⟨⟨ws, u, hl', hu⟩, fun v' H'' y => ?_⟩
        obtain ⟨rfl, y⟩ := y
        have z := y ws hl'
        rw [hu] at z
        cases z
        exact ⟨Gro.refl _ _, R', ru⟩
def rngS (lo hi : Int) : Src := ((List.range (hi - lo).toNat).map fun (i : Nat) => D.int (lo + (i : Int)), fun _ => True)
def rng1D : List D → Sto → Rs Src
  | [.int j], S => if -(2 ^ 62) ≤ j ∧ j < 2 ^ 62 then .ok (rngS 0 j) S else .bad
  | _, _ => .bad
def rng1 (d : DA) : DI := fun r S => (d r S).bind fun xs S1 => rng1D xs S1
theorem rng_get {lo hi : Int} {i : Nat} (h : i < (hi - lo).toNat) : (rngS lo hi).1[i]? = some (.int (lo + (i : Int))) := by
  show ((List.range (hi - lo).toNat).map fun (i : Nat) => D.int (lo + (i : Int)))[i]? = _
  rw [List.getElem?_map, List.getElem?_range h]
  rfl
theorem rng_len {lo hi : Int} : (rngS lo hi).1.length = (hi - lo).toNat := by
  show ((List.range (hi - lo).toNat).map fun (i : Nat) => D.int (lo + (i : Int))).length = _
  rw [List.length_map, List.length_range]
theorem itg_rng {K : PySem.W.Frag} {m : List Addr} {H : Hp} {lo hi : Int} : ItG K m H (rngS lo hi) (Itr lo (hi - lo).toNat) := by
  intro i m' S' H' st R' gd
  refine ⟨fun x hx => ?_, fun hl => ?_⟩
  · have hlt : i < (hi - lo).toNat := by
      rcases Nat.lt_or_ge i (hi - lo).toNat with q | q
      · exact q
      · rw [List.getElem?_eq_none (by rw [rng_len]; exact q)] at hx
        cases hx
    rw [rng_get hlt] at hx
    cases hx
    refine ⟨hlt, fun v H'' y => ?_⟩
    obtain ⟨rfl, rfl⟩ := y
    exact ⟨Gro.refl _ _, R', rfl⟩
  · rw [rng_len] at hl
    exact hl
theorem gi_rng1 {X : Cx} {W : WX} {tg a : Expr} {d : DA} {p pos : Pos} (hg : Gl X "range") (hm : X.mg "range" = none) (ha : GA X W [a] d) (hs : starEach [a] X.env = [(false, eval a X.env)] := by rfl) : GI X W tg (.Call (.Name "range" p) [a] [] pos) (rng1 d) := by
  refine PI.imp (pi_range1 hg hm ha hs) fun σ H R0 ⟨m, r, S, R, E, p⟩ => ?_
  refine ⟨m, r, S, R, E, (Post.split p).mono fun xs S1 m1 H1 g1 R1 p1 vs rv => ?_⟩
  unfold rng1D at p1
  split at p1
  · rename_i j
    obtain ⟨v, rfl, hv⟩ := rv.inv1
    split at p1
    · rename_i h
      have q := p1 m1 H1 (Gro.refl _ _) R1 _ (itg_rng (K := X.K) (m := m1) (H := H1))
      rw [Int.sub_zero] at q
      exact ⟨_, by rw [show v = _ from hv], h.1, h.2, q⟩
    · exact p1.elim
  · exact p1.elim
open Classical in
noncomputable def frGo (gd : Sto → Prop) (g : DG) (b : DS) : List D → Ev → Sto → Rt
  | [], r, S => if gd S then .nx r S else .bad
  | x :: xs, r, S => if gd S then (match g x r S with
    | some (r1, S1) => (match b r1 S1 with
      | .nx r2 S2 => frGo gd g b xs r2 S2
      | .ct r2 S2 => frGo gd g b xs r2 S2
      | .bk r2 S2 => .nx r2 S2
      | y => y)
    | none => .bad) else .bad
noncomputable def sFr (it : DI) (g : DG) (b : DS) : DS := fun r S => match it r S with
  | .ok s S1 => frGo s.2 g b s.1 r S1
  | .exc e S1 => .exc e r S1
  | .bad => .bad
theorem gs_for {X : Cx} {W : WX} {tg iter : Expr} {body : List Stmt} {it : DI} {g : DG} {b : DS} {pos : Pos} (hp : PassesOwn (model X.prog X.w) X.A X.env X.xe) (hc : X.calm = true) (hi : GI X W tg iter it) (hg : GG X tg g) (hb : GSs X W body b)
    (hs : ∀ x, foldedSetIterable iter X.env x = pure x := by intro _; rfl) : GS X W (.For tg iter body [] pos) (sFr it g b) := by
  refine PS.imp (ps_for hp hc hi hg hb hs) fun D σ H ⟨m, r, S, R, E, p⟩ => ?_
  refine ⟨m, r, S, R, E, ?_⟩
  unfold sFr at p
  cases e0 : it r S with
  | exc e S1 =>
    rw [e0] at p
    exact fun m' H' c d g R q => p m' H' σ c d g R (E.mono g.sta) q
  | bad =>
    rw [e0] at p
    exact p
  | ok s S1 =>
    obtain ⟨xs, gd⟩ := s
    rw [e0] at p
    intro m1 H1 g1 R1 J HJ
    have p1 : PostS X.K W m1 H1 (frGo gd g b xs r S1) D := p.later g1
    refine ⟨fun i n σ H => ∃ m r S, Sta m1 m H1 H ∧ Rep X.K m S H ∧ ER X.K m H r σ ∧ n = xs.length - i ∧ i ≤ xs.length ∧ PostS X.K W m H (frGo gd g b (xs.drop i) r S) D,
      ⟨xs.length, m1, r, S1, Sta.refl _ _, R1, E.mono g1.sta, rfl, Nat.zero_le _, p1⟩, ?_⟩
    rintro i n σ2 H2 ⟨m2, r2, S2, st2, R2, E2, rfl, hi, p2⟩
    rcases Nat.lt_or_ge i xs.length with hlt | hge
    · rw [List.drop_eq_getElem_cons hlt] at p2
      unfold frGo at p2
      split at p2
      · rename_i hgd
        obtain ⟨h1, h2⟩ := (HJ i m2 S2 H2 st2 R2 hgd).1 xs[i] (List.getElem?_eq_getElem hlt)
        refine .inr ⟨h1, fun σ' H' => ∃ m r S, Sta m1 m H1 H' ∧ Rep X.K m S H' ∧ ER X.K m H' r σ' ∧ PostS X.K W m H' (frGo gd g b (xs.drop (i + 1)) r S) D,
          fun σ' H' ⟨m, r, S, a1, a2, a3, a4⟩ => ⟨xs.length - (i + 1), by omega, m, r, S, a1, a2, a3, rfl, hlt, a4⟩, fun v H' y => ?_⟩
        obtain ⟨g3, R3, rx⟩ := h2 v H' y
        cases eg : g xs[i] r2 S2 with
        | none => rw [eg] at p2; exact p2.elim
        | some q =>
          obtain ⟨r3, S3⟩ := q
          rw [eg] at p2
          dsimp only at p2
          refine ⟨m2, r2, S2, xs[i], R3, E2.mono g3.sta, rx, r3, S3, eg, fun m4 H4 σ4 g4 R4 E4 => ⟨m4, r3, S3, R4, E4, ?_⟩⟩
          have st4 : Sta m1 m4 H1 H4 := st2.trans (g3.trans g4).sta
          have p4 := p2.later (g3.trans g4)
          cases eb : b r3 S3 with
          | nx r5 S5 =>
            rw [eb] at p4
            exact fun m5 H5 σ5 g5 R5 E5 => ⟨m5, r5, S5, st4.trans g5.sta, R5, E5, p4.later g5⟩
          | ct r5 S5 =>
            rw [eb] at p4
            exact fun m5 H5 σ5 g5 R5 E5 => ⟨m5, r5, S5, st4.trans g5.sta, R5, E5, p4.later g5⟩
          | bk r5 S5 =>
            rw [eb] at p4
            exact fun m5 H5 σ5 g5 R5 E5 => p4 m5 H5 σ5 g5 R5 E5
          | rt d5 S5 =>
            rw [eb] at p4
            exact p4
          | exc e5 r5 S5 =>
            rw [eb] at p4
            exact p4
          | bad =>
            rw [eb] at p4
            exact p4
      · exact p2.elim
    · have e : i = xs.length := by omega
      subst e
      rw [List.drop_length] at p2
      unfold frGo at p2
      split at p2
      · rename_i hgd
        exact .inl ⟨(HJ _ m2 S2 H2 st2 R2 hgd).2 (Nat.le_refl _), p2 m2 H2 σ2 (Gro.refl _ _) R2 E2⟩
      · exact p2.elim
theorem wipe_set_comm {σ : L2.St} {v : Nat} {x : Option V} : ∀ {vs : List Nat}, v ∉ vs → L2.wipe (σ.set v x) vs = (L2.wipe σ vs).set v x
  | [], _ => rfl
  | u :: vs, h => by
    have h1 : v ≠ u := fun e => h (by rw [e]; exact List.mem_cons_self)
    have h2 : v ∉ vs := fun z => h (List.mem_cons_of_mem _ z)
    unfold L2.wipe
    rw [wipe_set_comm h2, List.set_comm _ _ h1]
theorem wipe_set {σ : L2.St} {i : Nat} {x : Option V} : ∀ {vs : List Nat}, i ∈ vs → L2.wipe (σ.set i x) vs = L2.wipe σ vs
  | [], h => nomatch h
  | u :: vs, h => by
    by_cases hv : i ∈ vs
    · unfold L2.wipe
      rw [wipe_set hv]
    · have e : i = u := by
        rcases List.mem_cons.mp h with z | z
        · exact z
        · exact absurd z hv
      subst e
      unfold L2.wipe
      rw [wipe_set_comm hv, List.set_set]
theorem wipe_wipe {σ : L2.St} {vs : List Nat} : ∀ {us : List Nat}, (∀ u ∈ us, u ∈ vs) → L2.wipe (L2.wipe σ us) vs = L2.wipe σ vs
  | [], _ => rfl
  | u :: us, h => by
    show L2.wipe ((L2.wipe σ us).set u none) vs = _
    rw [wipe_set (h u List.mem_cons_self), wipe_wipe fun z hz => h z (List.mem_cons_of_mem _ hz)]
inductive Pt where
  | nm (i : Nat) | tp (is : List Nat)
def gNs : List Nat → TGs
  | [] => gNil
  | i :: is => gCons (gName i) (gNs is)
def Pt.tg (K : PySem.W.Frag) : Pt → TG
  | .nm i => gName i
  | .tp is => gTup K is.length (gNs is)
def setAll : List Nat → List D → Ev → Ev
  | i :: is, x :: xs, r => setAll is xs (r.set i (some x))
  | _, _, r => r
def Pt.bind : Pt → D → Ev → Option Ev
  | .nm i, x, r => some (r.set i (some x))
  | .tp is, .tup xs, r => if xs.length = is.length then some (setAll is xs r) else none
  | _, _, _ => none
def Pt.slots : Pt → List Nat
  | .nm i => [i]
  | .tp is => is
abbrev GP (X : Cx) (tg : Expr) (p : Pt) : Prop := PG X tg (p.tg X.K)
theorem gns_run {K : PySem.W.Frag} {m : List Addr} {H : Hp} {vs : List Nat} {Q : L2.St → Hp → Prop} : ∀ {is : List Nat} {xs : List D} {ws : List V} {r : Ev} {σ σ0 : L2.St}, (∀ i ∈ is, i ∈ vs) → xs.length = is.length → RDs K m H xs ws → ER K m H r σ → L2.wipe σ vs = L2.wipe σ0 vs →
    (∀ σ1, ER K m H (setAll is xs r) σ1 → L2.wipe σ1 vs = L2.wipe σ0 vs → Q σ1 H) → gNs is ws σ H Q
  | [], [], ws, r, σ, σ0, _, _, h, E, e, q => ⟨h, q σ E e⟩
  | [], _ :: _, _, _, _, _, _, hl, _, _, _, _ => nomatch hl
  | _ :: _, [], _, _, _, _, _, hl, _, _, _, _ => nomatch hl
  | i :: is, x :: xs, ws, r, σ, σ0, hi, hl, h, E, e, q => by
    obtain ⟨w, wr, rfl, h1, h2⟩ := h
    refine ⟨w, wr, rfl, ?_⟩
    exact gns_run (fun j hj => hi j (List.mem_cons_of_mem _ hj)) (by simpa using hl) h2 (E.set h1 i) (by rw [wipe_set (hi i List.mem_cons_self)]; exact e) q
theorem pt_run {K : PySem.W.Frag} {m : List Addr} {H : Hp} {vs : List Nat} {Q : L2.St → Hp → Prop} {p : Pt} {x : D} {v : V} {r r1 : Ev} {σ : L2.St} (hp : ∀ i ∈ p.slots, i ∈ vs) (h : RD K m H x v) (E : ER K m H r σ) (e : p.bind x r = some r1)
    (q : ∀ σ1, ER K m H r1 σ1 → L2.wipe σ1 vs = L2.wipe σ vs → Q σ1 H) : p.tg K v σ H Q := by
  cases p with
  | nm i =>
    cases e
    exact q _ (E.set h i) (wipe_set (hp i List.mem_cons_self))
  | tp is =>
    cases x <;> first | exact nomatch (show none = some r1 from e) | skip
    rename_i xs
    have e' : (if xs.length = is.length then some (setAll is xs r) else none) = some r1 := e
    split at e'
    · rename_i hl
      cases e'
      obtain ⟨a, ws, rfl, h1, h2⟩ := h
      exact ⟨a, ws, rfl, h1, by rw [← h2.length]; exact hl, gns_run hp hl h2 E rfl q⟩
    · cases e'
section
variable {X : Cx} {pos : Pos}
theorem gp_name (i : Nat) {x : Str} (hN : X.N.Nodup) (hi : X.N[i]? = some x) (hx : Loc X.env.scope x) (hf : X.fn x = true ∨ X.env.scope.names.lookup x = some .local := by first | exact .inl rfl | exact .inr rfl | assumption) : GP X (.Name x pos) (.nm i) := pg_name hN hi hx hf
end
open Classical in
noncomputable def lcGo (gd : Sto → Prop) (p : Pt) (t : DB) (e : DE) (r : Ev) : List D → Sto → Rs (List D)
  | [], S => if gd S then .ok [] S else .bad
  | x :: xs, S => if gd S then (match p.bind x r with
    | some r1 => (match t r1 S with
      | .ok true S1 => (match e r1 S1 with
        | .ok y S2 => (match lcGo gd p t e r xs S2 with
          | .ok ys S3 => .ok (y :: ys) S3
          | _ => .bad)
        | _ => .bad)
      | .ok false S1 => lcGo gd p t e r xs S1
      | _ => .bad)
    | none => .bad) else .bad
noncomputable def dLc (it : DI) (p : Pt) (t : DB) (e : DE) (own : List Nat) : DE := fun r S => (it r S).bind fun s S1 =>
  if s.1.length ≤ sizeLine then (match lcGo s.2 p t e (wipeD r own) s.1 S1 with
    | .ok ys S2 => .ok (.loc S2.length) (S2 ++ [.lst ys])
    | _ => .bad) else .bad
def tYes0 : DB := fun _ S => .ok true S
abbrev GTs (X : Cx) (W : WX) (es : List Expr) (d : DB) : Prop := PTs X es (tT X.K W d)
theorem gts_nil {X : Cx} {W : WX} : GTs X W [] tYes0 := ⟨fun pins s σ H Q I h => pts_nil.run pins s σ H Q I (by
  obtain ⟨m, r, S, R, E, p⟩ := h
  exact p m H (Gro.refl _ _) R)⟩
section
variable {K : PySem.W.Frag} {m m1 : List Addr} {S : Sto} {H H1 : Hp} {p : Addr}
theorem gro_at {u : HO} {acc : List V} (g : Gro m1 m H1 H) (h1 : H1 p = none) : Gro m1 m H1 (upd H p u) :=
  ⟨g.pre, fun b xs e => by rw [upd_ne (ne_of_none e h1)]; exact g.tup b xs e, fun b x u' e => by rw [upd_ne (ne_of_none e h1)]; exact g.frz b x u' e,
   fun b x hb e => by rw [upd_ne (ne_of_none e h1)]; exact g.fr b x hb e, g.new⟩
theorem sta_at {u : HO} {acc : List V} (h : H p = some (.lst acc)) : Sta m m H (upd H p u) :=
  ⟨⟨[], by simp⟩, fun b xs e => by rw [upd_ne (fun z => by rw [z, h] at e; cases e)]; exact e, fun b x u' e => by rw [upd_ne (fun z => by rw [z, h] at e; cases e)]; exact e⟩
theorem Rep.outside {u : HO} {acc : List V} (R : Rep K m S H) (hp : p ∉ m) (h : H p = some (.lst acc)) : Rep K m S (upd H p u) :=
  ⟨R.len, R.nd, fun n a ob h1 h2 => (R.at_ n a ob h1 h2).mono (sta_at h) fun o e => by
    rw [upd_ne (fun z => hp (by rw [← z]; exact List.mem_of_getElem? h1))]
    exact e⟩
theorem gro_adopt (g : Gro m1 m H1 H) (h1 : H1 p = none) : Gro m1 (m ++ [p]) H1 H := by
  obtain ⟨z, e⟩ := g.pre
  refine ⟨⟨z ++ [p], by rw [e, List.append_assoc]⟩, g.tup, g.frz, g.fr, fun b hb hn => ?_⟩
  rcases List.mem_append.mp hb with q | q
  · exact g.new b q hn
  · rw [show b = p by simpa using q]
    exact h1
end
theorem Gro.out {m m' : List Addr} {H H' : Hp} {p : Addr} {o : HO} (g : Gro m m' H H') (h : H p = some o) (hp : p ∉ m) : p ∉ m' ∧ H' p = some o :=
  And.intro (fun z => nomatch (g.new p z hp).symm.trans h) (g.fr p o hp h)
theorem lc_read {K : PySem.W.Frag} {W : WX} {it : DI} {p : Pt} {t : DB} {e : DE} {own : List Nat} {Wb : WX} (hp : ∀ i ∈ p.slots, i ∈ own) (hWb : ∀ c d σ H, Wb c d σ H → False) {σ : L2.St} {H : Hp} {Q : VK} (h : tE K W (dLc it p t e own) σ H Q) :
    tLc (tI K W it) (p.tg K) (tT K Wb t) (tE K Wb e) own σ H Q := by
  obtain ⟨m, r, S, R, E, p0⟩ := h
  refine ⟨m, r, S, R, E, (Post.split p0).mono fun s S1 m1 H1 g1 R1 p1 J HJ D nD => ?_⟩
  obtain ⟨xs, gd⟩ := s
  dsimp only at p1
  split at p1
  · rename_i hsz
    have E1 := (E.mono g1.sta).wipe own
    -- what is left of the run, from here
    have p2 : ∃ ys S2, lcGo gd p t e (wipeD r own) xs S1 = .ok ys S2 ∧ PV K (WX.at W σ) m1 H1 (.ok (.loc S2.length) (S2 ++ [.lst ys])) Q := by
      cases eg : lcGo gd p t e (wipeD r own) xs S1 with
      | ok ys S2 =>
        rw [eg] at p1
        exact ⟨ys, S2, rfl, p1⟩
      | exc _ _ =>
        rw [eg] at p1
        exact p1.elim
      | bad =>
        rw [eg] at p1
        exact p1.elim
    obtain ⟨ys, S2, eg, p3⟩ := p2
    refine ⟨fun i n H => ∃ m S acc accD zs, Gro m1 m H1 H ∧ Rep K m S H ∧ D ∉ m ∧ H D = some (.lst acc) ∧ RDs K m H accD acc ∧ n = xs.length - i ∧ i ≤ xs.length ∧ acc.length ≤ i ∧
        lcGo gd p t e (wipeD r own) (xs.drop i) S = .ok zs S2 ∧ ys = accD ++ zs,
      ⟨xs.length, m1, S1, [], [], ys, gro_new nD, R1.tupd nD, R1.fresh nD, upd_same, rfl, rfl, Nat.zero_le _, Nat.le_refl _, eg, rfl⟩, ?_⟩
    rintro i n H2 ⟨m2, S3, acc, accD, zs, g2, R2, nm, hD, ra, rfl, hi, hl, e2, ey⟩
    have E2 := E1.mono g2.sta
    rcases Nat.lt_or_ge i xs.length with hlt | hge
    · rw [List.drop_eq_getElem_cons hlt] at e2
      unfold lcGo at e2
      split at e2
      · rename_i hgd
        obtain ⟨h1, h2⟩ := (HJ i m2 S3 H2 g2.sta R2 hgd).1 xs[i] (List.getElem?_eq_getElem hlt)
        refine .inr ⟨h1, fun H' => ∃ m S acc accD zs, Gro m1 m H1 H' ∧ Rep K m S H' ∧ D ∉ m ∧ H' D = some (.lst acc) ∧ RDs K m H' accD acc ∧ acc.length ≤ i + 1 ∧
          lcGo gd p t e (wipeD r own) (xs.drop (i + 1)) S = .ok zs S2 ∧ ys = accD ++ zs, fun H' ⟨m, S, acc, accD, zs, a1, a2, a3, a4, a5, a6, a7, a8⟩ => ⟨xs.length - (i + 1), by omega, m, S, acc, accD, zs, a1, a2, a3, a4, a5, rfl, hlt, a6, a7, a8⟩, fun v H' y => ?_⟩
        obtain ⟨g3, R3, rx⟩ := h2 v H' y
        obtain ⟨nm3, hD3⟩ := g3.out hD nm
        cases eb : p.bind xs[i] (wipeD r own) with
        | none => rw [eb] at e2; cases e2
        | some r1 =>
          rw [eb] at e2
          dsimp only at e2
          refine pt_run hp rx (E2.mono g3.sta) eb fun σ1 Er1 hw => ⟨by rw [hw, wipe_wipe fun _ h => h], m2, r1, S3, R3, Er1, ?_⟩
          cases et : t r1 S3 with
          | exc _ _ => rw [et] at e2; cases e2
          | bad => rw [et] at e2; cases e2
          | ok k S4 =>
            rw [et] at e2
            intro m4 H4 g4 R4
            obtain ⟨nm4, hD4⟩ := g4.out hD3 nm3
            have ra4 := RDs.mono g4.sta _ _ (RDs.mono g3.sta _ _ ra)
            cases k with
            | false =>
              dsimp only at e2
              exact (if_neg Bool.false_ne_true).mpr ⟨m4, S4, acc, accD, zs, g2.trans (g3.trans g4), R4, nm4, hD4, ra4, by omega, e2, ey⟩
            | true =>
              dsimp only at e2
              refine (if_pos rfl).mpr ⟨m4, r1, S4, R4, Er1.mono g4.sta, ?_⟩
              cases ee : e r1 S4 with
              | exc _ _ => rw [ee] at e2; cases e2
              | bad => rw [ee] at e2; cases e2
              | ok y1 S5 =>
                rw [ee] at e2
                dsimp only at e2
                intro m5 H5 g5 R5 v5 rv5
                obtain ⟨nm5, hD5⟩ := g5.out hD4 nm4
                have ra5 := RDs.mono g5.sta _ _ ra4
                cases er : lcGo gd p t e (wipeD r own) (xs.drop (i + 1)) S5 with
                | exc _ _ => rw [er] at e2; cases e2
                | bad => rw [er] at e2; cases e2
                | ok ws S6 =>
                  rw [er] at e2
                  cases e2
                  refine ⟨acc, hD5, Nat.lt_of_le_of_lt hl (Nat.lt_of_lt_of_le hlt hsz), m5, S5, acc ++ [v5], accD ++ [y1], ws, gro_at (acc := acc) (g2.trans (g3.trans (g4.trans g5))) nD, R5.outside nm5 hD5, nm5, upd_same,
                    RDs.mono (sta_at hD5) _ _ (ra5.append (RDs.one rv5)), ?_, er, by rw [ey, List.append_assoc]; rfl⟩
                  rw [List.length_append]
                  exact Nat.succ_le_succ hl
      · cases e2
    · have ei : i = xs.length := by omega
      subst ei
      rw [List.drop_length] at e2
      unfold lcGo at e2
      split at e2
      · rename_i hgd
        cases e2
        refine .inl ⟨(HJ _ m2 S2 H2 g2.sta R2 hgd).2 (Nat.le_refl _), ?_⟩
        rw [List.append_nil] at ey
        subst ey
        refine p3 (m2 ++ [D]) H2 (gro_adopt g2 nD) (R2.adopt nm ⟨acc, hD, ra⟩) _ ⟨D, rfl, ?_⟩
        rw [← R2.len, List.getElem?_append_right (Nat.le_refl _)]
        simp
      · cases e2
  · exact p1.elim
section
variable {X : Cx} {W : WX}
abbrev WN : WX := fun _ _ _ _ => False
theorem ge_lc {elt tg iter : Expr} {ifs : List Expr} {scope : Scope} {own : List (Str × Nat)} {pos : Pos} {it : DI} {p : Pt} {t : DB} {e : DE} (hc : X.calm = true) (hN : X.N.Nodup) (hi : GI X W tg iter it) (ok : BlkOk X.N X.env.scope scope own)
    (hg : ∀ (s : Shared) (H : Hp) (C : Addr) (cl : List (Str × Addr)) (fp : List Addr), GP (X.blk s H scope (compEnvC scope cl C X.env) fp) tg p) (ht : ∀ (s : Shared) (H : Hp) (C : Addr) (cl : List (Str × Addr)) (fp : List Addr), GTs (X.blk s H scope (compEnvC scope cl C X.env) fp) WN ifs t)
    (he : ∀ (s : Shared) (H : Hp) (C : Addr) (cl : List (Str × Addr)) (fp : List Addr), GE (X.blk s H scope (compEnvC scope cl C X.env) fp) WN elt e) (hp : ∀ i ∈ p.slots, i ∈ own.map (·.2) := by decide) (hs : ∀ x, foldedSetIterable iter X.env x = pure x := by intro _; rfl) :
    GE X W (.ListComp elt [⟨tg, iter, ifs, 0⟩] scope pos) (dLc it p t e (own.map (·.2))) :=
  PE.imp (pe_lc (wi := tI X.K W it) (g := p.tg X.K) (tt := tT X.K WN t) (te := tE X.K WN e) hc hN hi ok hg ht he hs) fun σ H Q h => lc_read hp (fun _ _ _ _ z => z) h
end
def SeerK (K : PySem.W.Frag) : Prop := ∀ (mg : Str → Option Value) (base : Heap), Mod K mg base → base.NoSeer ∧ base.NoDigits
structure HY (prog : Program) (K : PySem.W.Frag) (A : Around) (stack : List Env) : Prop where
  room : Room 32 A
  seer : SeerK K
  tree : prog.given.tree = none
  top : ∃ env l, stack = env :: l ∧ env.scope.isGenerator = false ∧ env.scope.isCoroutine = false ∧ env.builtins = builtinsNs ∧ env.globals = mainGlobals
abbrev HX (X : Cx) : Prop := HY X.prog X.K X.A X.stack
theorem op_divG {X : Cx} (hx : HX X) : OpR X (binaryOp .FloorDiv) (rI (fun i j => posC i j = true) fun i j => .int (i / j)) := by
  intro pins s σ H x y v u Q I rx ry h
  obtain ⟨i, j, rfl, rfl, hc, q⟩ := h
  obtain ⟨t, rfl⟩ := rx
  obtain ⟨t', rfl⟩ := ry
  have h1 : (0 : Int) < j := of_decide_eq_true hc
  obtain ⟨env, l, e1, e2, e3, e4, e5⟩ := hx.top
  have lim : s.heap.NoLimit := I.nolimit
  have dp : X.A.depth + Builtin.pylongFrames < recursionLimit := by
    have := hx.room.dp
    show X.A.depth + 100 < _
    omega
  have sr : s.heap.NoSeer := (hx.seer X.mg X.base I.ok.mod).1.keeps I.bk
  have fr : X.A.frames = some (env :: l) := by rw [I.ok.frames, e1]
  have pr : PylongRoom (model X.prog X.w) X.A s := PylongRoom.of lim dp (SeerAt.of sr hx.tree fr e2 e3 e4 e5)
  refine floordiv_int (by omega) ?_ (.inr pr)
  rw [Int.fdiv_eq_ediv_of_nonneg i (by omega)]
  exact ⟨.int (i / j), H, I.tok _, ⟨_, rfl⟩, q⟩
theorem ge_div {X : Cx} {W : WX} {a b : Expr} {da db : DE} {pos : Pos} (hx : HX X) (ha : GE X W a da) (hb : GE X W b db) : GE X W (.BinOp a .FloorDiv b pos) (bin divD da db) := ge_op (op_divG hx) (ii_int fun _ _ h => h) ha hb
def spF (K : PySem.W.Frag) (n : Nat) (F : List D → Sto → Rs D) : Sp := fun vs H Q E => vs.length = n ∧ ∃ m ds S, Rep K m S H ∧ RDs K m H ds vs ∧ PV K E m H (F ds S) Q
def fnD (n N : Nat) (body : DS) : List D → Sto → Rs D := fun ds S => if ds.length = n then (match body (ds.map some ++ List.replicate (N - ds.length) none) S with
  | .nx _ S' => .ok .non S'
  | .rt d S' => .ok d S'
  | .exc e _ S' => .exc e S'
  | _ => .bad) else .bad
structure FnG (P : Program) (w : World) (K : PySem.W.Frag) (mg : Str → Option Value) (base : Heap) (k : Nat) (x : Str) (n : Nat) (F : List D → Sto → Rs D) : Prop where
  ex : ∃ (f : Addr) (fd : FuncData) (ps : List Str), mg x = some (.ref f) ∧ PySem.W.keepIn K (.ref f) = true ∧ Binds K fd ps [] ∧ ps.length = n ∧ FnOk P w K mg base (L2.CX P w) k f fd ps (spF K n F)
theorem FnG.mono {P : Program} {w : World} {K : PySem.W.Frag} {mg : Str → Option Value} {base : Heap} {j k : Nat} {x : Str} {n : Nat} {F : List D → Sto → Rs D} (G : FnG P w K mg base j x n F) (h : j ≤ k) : FnG P w K mg base k x n F :=
  let ⟨f, fd, ps, a, b, c, d, e⟩ := G.ex
  ⟨f, fd, ps, a, b, c, d, e.mono h⟩
def cll (F : List D → Sto → Rs D) (d : DA) : DE := fun r S => (d r S).bind fun xs S1 => F xs S1
section
variable {X : Cx} {W : WX} {k n : Nat} {x : Str} {F : List D → Sto → Rs D} {p pos : Pos} {e : Expr} {es : List Expr} {d : DA}
theorem ge_call (G : FnG X.prog X.w X.K X.mg X.base k x n F) (hl : (e :: es).length = n) (hn : ∀ r S xs S', d r S = .ok xs S' → xs.length = (e :: es).length) (hr : Room k X.A) (hg : Gl X x) (tk : Takes X W) (ha : GA X W (e :: es) d) (hdb : (x == ("__debug__" : Str)) = false := by decide)
    (he : starEach (e :: es) X.env = (false, eval e X.env) :: starEach es X.env := by rfl) (hpl : (backTo pos (starEach es X.env)).any (·.1) = false := by rfl) : GE X W (.Call (.Name x p) (e :: es) [] pos) (cll F d) := by
  obtain ⟨f, fd, ps, hm, hk, hb, hps, G⟩ := G.ex
  refine PE.imp (pe_callS (E := fun σ => WX.at W σ) G hr hg hm hk hb (fun σ => passAt tk σ) ha hdb he hpl) fun σ H Q ⟨m, r, S, R, E, q⟩ => ?_
  refine ⟨m, r, S, R, E, ?_⟩
  have q0 : Post X.K (WX.at W σ) m H ((d r S).bind fun xs S1 => F xs S1) (fun a _ m' H' => ∀ v, RD X.K m' H' a v → Q v H') := q
  have q1 := Post.split q0
  cases ed : d r S with
  | exc e1 S1 =>
    rw [ed] at q1
    exact q1
  | bad =>
    rw [ed] at q1
    exact q1
  | ok xs S1 =>
    rw [ed] at q1
    intro m1 H1 g1 R1 vs rv
    exact ⟨by rw [← rv.length, hn r S xs S1 ed, hl], m1, xs, S1, R1, rv, q1 m1 H1 g1 R1⟩
end
theorem dK_len {a : DE} {b : DA} {n : Nat} (h : ∀ r S xs S', b r S = .ok xs S' → xs.length = n) : ∀ r S xs S', dK a b r S = .ok xs S' → xs.length = n + 1 := by
  intro r S xs S' e
  have e' : ((a r S).bind fun x S1 => (b r S1).bind fun xs S2 => .ok (x :: xs) S2) = .ok xs S' := e
  cases ea : a r S with
  | exc _ _ => rw [ea] at e'; cases e'
  | bad => rw [ea] at e'; cases e'
  | ok x S1 =>
    rw [ea] at e'
    have e2 : ((b r S1).bind fun xs S2 => Rs.ok (x :: xs) S2) = .ok xs S' := e'
    cases eb : b r S1 with
    | exc _ _ => rw [eb] at e2; cases e2
    | bad => rw [eb] at e2; cases e2
    | ok ys S2 =>
      rw [eb] at e2
      cases e2
      simp [h _ _ _ _ eb]
theorem dN_len : ∀ r S xs S', dN r S = .ok xs S' → xs.length = 0 := by
  intro r S xs S' e
  cases e
  rfl
theorem er_start {K : PySem.W.Frag} {m : List Addr} {H : Hp} {N : List Str} {ds : List D} {vs : List V} (h : RDs K m H ds vs) : ER K m H (ds.map some ++ List.replicate (N.length - ds.length) none) (L2.start N vs) := by
  refine ⟨?_, fun i d e => ?_⟩
  · unfold L2.start
    simp [h.length]
  · unfold L2.start
    rcases Nat.lt_or_ge i ds.length with hl | hl
    · rw [List.getElem?_append_left (by simpa using hl), List.getElem?_map] at e
      cases ei : ds[i]? with
      | none => rw [ei] at e; cases e
      | some x =>
        rw [ei] at e
        cases e
        obtain ⟨v, h1, h2⟩ := h.get ei
        refine ⟨v, ?_, h2⟩
        rw [List.getElem?_append_left (by rw [List.length_map, ← h.length]; exact hl), List.getElem?_map, h1]
        rfl
    · rw [List.getElem?_append_right (by simpa using hl), List.getElem?_replicate] at e
      split at e <;> cases e
section
variable {P : Program} {w : World} {K : PySem.W.Frag} {mg : Str → Option Value} {base : Heap} {x qual : Str} {params : Arguments} {body : List Stmt} {scope : Scope} {f : Addr} {fd : FuncData} {N ps : List Str} {k : Nat} {d : DS}
theorem fn_body (F : FunD K x qual params body scope [] [] f fd) (S : FnScope N ps scope) (hk : 32 ≤ k) (sr : SeerK K) (ht : P.given.tree = none)
    (hb : ∀ (cdv : Value) (A : Around) (outer : List Env) (s : Shared) (H : Hp) (E : XK), Room k (A.deeper (envOfC qual scope s.heap.objs.size f cdv)) →
      HX (cxOf (L2.CX P w) P w K mg base N qual scope f cdv A outer s H E) →
      GSs (cxOf (L2.CX P w) P w K mg base N qual scope f cdv A outer s H E) (fun c d _ H => E c d H) body d) :
    FnOk P w K mg base (L2.CX P w) (k + 1) f fd ps (spF K ps.length (fnD ps.length N.length d)) := by
  refine F.ok S (fun vs H Q E h => h.1) fun cdv A outer s H vs Q E hr h => ?_
  obtain ⟨hl, m, ds, S0, R, rv, q⟩ := h
  have hx : HX (cxOf (L2.CX P w) P w K mg base N qual scope f cdv A outer s H E) := ⟨hr.mono hk, sr, ht, _, _, rfl, S.gen, S.co, rfl, rfl⟩
  refine ⟨_, hb cdv A outer s H E hr hx, m, _, S0, R, er_start rv, ?_⟩
  unfold fnD at q
  rw [if_pos (by rw [rv.length]; exact hl)] at q
  cases eb : d (ds.map some ++ List.replicate (N.length - ds.length) none) S0 with
  | nx r S1 =>
    rw [eb] at q
    exact fun m' H' σ g R' E' => q m' H' g R' .non rfl
  | rt a S1 =>
    rw [eb] at q
    exact fun m' H' v g R' rv => q m' H' g R' v rv
  | bk r S1 =>
    rw [eb] at q
    exact q.elim
  | ct r S1 =>
    rw [eb] at q
    exact q.elim
  | exc e r S1 =>
    rw [eb] at q
    exact fun m' H' σ c d g R' E' xr => q m' H' c d g R' xr
  | bad =>
    rw [eb] at q
    exact q.elim
end
theorem tk_of {P : Program} {w : World} {K : PySem.W.Frag} {mg : Str → Option Value} {base : Heap} {N : List Str} {qual : Str} {scope : Scope} {f : Addr} {cdv : Value} {A : Around} {outer : List Env} {s : Shared} {H : Hp} {E : XK} :
    Takes (cxOf (L2.CX P w) P w K mg base N qual scope f cdv A outer s H E) (fun c d _ H => E c d H) := takes_of rfl rfl rfl rfl
theorem po_of {P : Program} {w : World} {K : PySem.W.Frag} {mg : Str → Option Value} {base : Heap} {N : List Str} {qual : Str} {scope : Scope} {f : Addr} {cdv : Value} {A : Around} {outer : List Env} {s : Shared} {H : Hp} {E : XK} :
    PassesOwn (model P w) (cxOf (L2.CX P w) P w K mg base N qual scope f cdv A outer s H E).A (cxOf (L2.CX P w) P w K mg base N qual scope f cdv A outer s H E).env (cxOf (L2.CX P w) P w K mg base N qual scope f cdv A outer s H E).xe := passes_of rfl
theorem spF_law {K : PySem.W.Frag} {F : List D → Sto → Rs D} {H : Hp} {a : Addr} {ns : List Int} (hO : Only H) (hS : SqL K H a (ns.map V.int)) (h : ∃ S', F [.scr ns] [] = .ok (.bl true) S') : spF K 1 F [.ref a] H (fun v _ => v = .bl true) fun _ _ _ => False := by
  obtain ⟨S', h⟩ := h
  refine ⟨rfl, [], [.scr ns], [], ⟨rfl, List.nodup_nil, fun n b ob e => nomatch e⟩, ⟨.ref a, [], rfl, ⟨a, rfl, ?_⟩, rfl⟩, ?_⟩
  · rcases hS with (hS | ⟨o, hS⟩) | hS
    · rcases hO a with z | ⟨o, xs, z⟩
      · rw [hS] at z; cases z
      · rw [hS] at z; cases z
    · exact .inl ⟨o, hS⟩
    · exact .inr (.inr hS)
  · rw [h]
    exact fun m' H' g R v rv => rv
theorem cx_false {P : Program} {w : World} {H : Hp} {s : Shared} {e : Value} {s' : Shared} (h : L2.CX P w [] H s (fun _ _ _ => False) e s') : False := by
  obtain ⟨_, _, _, _, _, _, _, _, _, _, _, _, z⟩ := h
  exact z
def isStrV : Value → Bool
  | .str _ _ => true
  | _ => false
def lacksB (K : PySem.W.Frag) (a : Addr) (xs : List Str) : Bool := match K.lookup a with
  | some o => (match o.data with
    | .dict es _ => (es.toList.all fun e => isStrV e.key) && xs.all fun x => (nsFind es x).isNone
    | _ => false)
  | none => false
theorem lacks_ok {K : PySem.W.Frag} {a : Addr} {xs : List Str} (h : lacksB K a xs = true) {hp : Heap} (X : K.In hp) : ∃ m, hp.Ns a m ∧ ∀ x ∈ xs, m x = none := by
  unfold lacksB at h
  cases e : K.lookup a with
  | none => rw [e] at h; cases h
  | some o =>
    rw [e] at h
    dsimp only at h
    cases d : o.data with
    | dict es ep =>
      rw [d] at h
      obtain ⟨h1, h2⟩ := Bool.and_eq_true_iff.mp h
      refine ⟨fun x => nsFind es x, ⟨o, es, ep, X a o e, d, fun z hz => ?_, fun _ => rfl⟩, fun x hx => ?_⟩
      · have q := List.all_eq_true.mp h1 z (Array.mem_toList_iff.mpr hz)
        cases ek : z.key with
        | str n t => exact ⟨n, t, rfl⟩
        | _ => rw [ek] at q; cases q
      · have q := List.all_eq_true.mp h2 x hx
        exact Option.isNone_iff_eq_none.mp q
    | _ => rw [d] at h; cases h
def modB (K : PySem.W.Frag) : Bool := match PySem.W.nsIn K mainGlobals "__builtins__" with
  | some (some (.ref bm)) => (match K.lookup bm with
    | some o => decide (o.cls = .type "module") && decide (o.dict = some builtinsNs)
    | none => false)
  | _ => false
def seerB (K : PySem.W.Frag) : Bool := lacksB K cStatics ["sys.audit-hooks", "sys.dict", "sys.int_max_str_digits"] && (lacksB K sysModules ["_pylong"] && modB K)
theorem seer_ok {K : PySem.W.Frag} (h : seerB K = true) : SeerK K := by
  obtain ⟨h1, h⟩ := Bool.and_eq_true_iff.mp h
  obtain ⟨h2, h3⟩ := Bool.and_eq_true_iff.mp h
  intro mg base M
  refine ⟨⟨?_, ?_, M.blt, ?_⟩, ?_⟩
  · obtain ⟨m, n, q⟩ := lacks_ok h1 M.kin
    exact ⟨m, n, q _ (by simp), q _ (by simp)⟩
  · obtain ⟨m, n, q⟩ := lacks_ok h2 M.kin
    exact ⟨m, n, q _ (by simp)⟩
  · unfold modB at h3
    split at h3
    · rename_i bm e
      cases el : K.lookup bm with
      | none => rw [el] at h3; cases h3
      | some o =>
        rw [el] at h3
        obtain ⟨q1, q2⟩ := Bool.and_eq_true_iff.mp h3
        exact ⟨mg, bm, o, M.glob, PySem.W.mg_of M.kin M.glob e, M.kin bm o el, of_decide_eq_true q1, of_decide_eq_true q2⟩
    · cases h3
  · obtain ⟨m, n, q⟩ := lacks_ok h1 M.kin
    exact ⟨m, n, q _ (by simp)⟩
abbrev AlX : Type := Bool × He.AlD
def asX (g : Addr → Option Obj) (n : Nat) : List Addr := He.asD g n ++ [cStatics, sysModules]
def obsX (fa : List He.Fa) (fn : List He.DefD) (K : PySem.W.Frag) : AlX := (seerB K, He.obsD fa fn K)
def obsXG (n : Nat) (fa : List He.Fa) (fn : List He.DefD) (g : Addr → Option Obj) : AlX := obsX fa fn (He.frG g (asX g n))
structure SaysX (fa : List He.Fa) (fn : List He.DefD) (K : PySem.W.Frag) : Prop where
  d : He.SaysD fa fn K
  s : SeerK K
abbrev top (P : Program) (i : Nat) : Stmt := P.main.body.getD i (.Pass ⟨0, 0, 0, 0⟩)
def dat (x : Str) (st : Stmt) : He.DefD := ⟨(x, none), x, x, defArgs st, defBody st, defScope st, [], []⟩
theorem fng_of {P : Program} {w : World} {K : PySem.W.Frag} {mg : Str → Option Value} {base : Heap} {x : Str} {st : Stmt} {N ps : List Str} {k : Nat} {d : DS} {fa : List He.Fa} {fn : List He.DefD} (c : SaysX fa fn K) (i : Nat) (hi : fn[i]? = some (dat x st)) (hm : mg x = some (.ref (He.ga K x)))
    (S : FnScope N ps (defScope st)) (hk : 32 ≤ k) (ht : P.given.tree = none)
    (hbd : ∀ (kV doc pm : Value) (an : Option Addr) (cdv ct : Value) (us : List Value), us.length = ps.length → bindArgs (PySem.W.fnOf x x (defArgs st) (defBody st) (defScope st) .none kV doc pm an cdv ct) ⟨us, []⟩ = pure (ps.zip us))
    (hb : ∀ (f : Addr) (cdv : Value) (A : Around) (outer : List Env) (s : Shared) (H : Hp) (E : XK), Room k (A.deeper (envOfC x (defScope st) s.heap.objs.size f cdv)) →
      HX (cxOf (L2.CX P w) P w K mg base N x (defScope st) f cdv A outer s H E) →
      GSs (cxOf (L2.CX P w) P w K mg base N x (defScope st) f cdv A outer s H E) (fun c d _ H => E c d H) (defBody st) d) :
    FnG P w K mg base (k + 1) x ps.length (fnD ps.length N.length d) := by
  obtain ⟨fd, F⟩ := c.d.def_ i hi
  have F' : FunD K x x (defArgs st) (defBody st) (defScope st) [] [] (He.ga K x) fd := F
  exact ⟨_, fd, ps, hm, F'.kp, F'.bindsN hbd, rfl, fn_body F' S hk c.s ht fun cdv A outer s H E => hb _ cdv A outer s H E⟩
def isiB (K : PySem.W.Frag) (x : Str) : Bool := He.eqO (PySem.W.findIn K (.ref (He.ga K x)) "__class__") (some (some (.builtin "object.__class__"))) && (He.eqO (PySem.W.specialIn K (.builtin "object.__class__") "__get__") (some (some (.builtin "getset_descriptor.__get__"))) && (decide (PySem.W.takesIn K (.builtin "object.__class__") = some true) && decide (PySem.W.mroIn K (He.ga K x) (.type "object") = some true)))
def tabB1 (K : PySem.W.Frag) (q : Str × List He.Dv) : Bool := match q.2 with
  | [] => isiB K q.1
  | _ :: _ => He.tupB K q.1 q.2
def tabsB (K : PySem.W.Frag) (tb : List (Str × List He.Dv)) : Bool := tb.all fun q => tabB1 K q
structure Wd (fa : List He.Fa) (fn : List He.DefD) (tb : List (Str × List He.Dv)) (K : PySem.W.Frag) (mg : Str → Option Value) : Prop where
  c : SaysX fa fn K
  t : tabsB K tb = true
  g : ∃ h, K.In h ∧ h.Ns mainGlobals mg
section
variable {fa : List He.Fa} {fn : List He.DefD} {tb : List (Str × List He.Dv)} {K : PySem.W.Frag} {mg : Str → Option Value}
theorem Wd.gl (Z : Wd fa fn tb K mg) (i : Nat) {x : Str} (h : fa[i]? = some (.glo x)) : mg x = some (.ref (He.ga K x)) := by
  obtain ⟨hp, X, G⟩ := Z.g
  exact He.glo_ok X G (Z.c.d.fact i h)
theorem Wd.fr (Z : Wd fa fn tb K mg) (i : Nat) {x : Str} (h : fa[i]? = some (.free x)) : mg x = none := by
  obtain ⟨hp, X, G⟩ := Z.g
  exact He.free_ok X G (Z.c.d.fact i h)
theorem Wd.it (Z : Wd fa fn tb K mg) (i : Nat) {x : Str} {k : Int} (h : fa[i]? = some (.int x k)) : ∃ t, mg x = some (.int k t) := by
  obtain ⟨hp, X, G⟩ := Z.g
  exact He.int_ok X G (Z.c.d.fact i h)
theorem Wd.tp (Z : Wd fa fn tb K mg) (i : Nat) {x : Str} {v : He.Dv} {vs : List He.Dv} (h : tb[i]? = some (x, v :: vs)) : He.tupB K x (v :: vs) = true := List.all_eq_true.mp Z.t (x, v :: vs) (List.mem_of_getElem? h)
end
section
variable {X : Cx} {W : WX}
theorem ge_gint {x : Str} {k : Int} {pos : Pos} (h : ∃ t, X.mg x = some (.int k t)) (hg : Gl X x) (hd : (x == ("__debug__" : Str)) = false := by decide) : GE X W (.Name x pos) (dC (.int k)) := by
  obtain ⟨t, h⟩ := h
  exact ge_con (pe_glob (v := .int k) hg h ⟨t, rfl⟩ hd) fun _ _ => rfl
end
abbrev AlY : Type := Bool × AlX
def obsYG (n : Nat) (fa : List He.Fa) (fn : List He.DefD) (tb : List (Str × List He.Dv)) (g : Addr → Option Obj) : AlY := (tabsB (He.frG g (asX g n)) tb, obsXG n fa fn g)
structure SaysY (fa : List He.Fa) (fn : List He.DefD) (tb : List (Str × List He.Dv)) (K : PySem.W.Frag) : Prop where
  x : SaysX fa fn K
  t : tabsB K tb = true
def hookY (n : Nat) (fa : List He.Fa) (fn : List He.DefD) (tb : List (Str × List He.Dv)) : PySem.W.Hook where
  α := AlY
  obs := fun s => obsYG n fa fn tb s.heap.get?
  val := fun _ => (true, true, He.valD fn)
  says := fun _ h => ∃ K : PySem.W.Frag, K.In h ∧ SaysY fa fn tb K
  of := fun _ _ e => ⟨_, He.frG_in, ⟨⟨congrArg (fun z : AlY => z.2.2) e, seer_ok (congrArg (fun z : AlY => z.2.1) e)⟩, congrArg (fun z : AlY => z.1) e⟩⟩
  keeps := fun _ _ _ ⟨K, hK, c⟩ k => ⟨K, PySem.W.Frag.In.keeps hK k, c⟩
theorem obsYG_eq {n : Nat} {fa : List He.Fa} {fn : List He.DefD} {tb : List (Str × List He.Dv)} {g : Addr → Option Obj} {s : Shared} (h : ∀ a, g a = s.heap.get? a) : obsYG n fa fn tb g = (hookY n fa fn tb).obs s := by
  have e : g = s.heap.get? := funext h
  rw [e] <;> rfl
def obY (n : Nat) (fa : List He.Fa) (fn : List He.DefD) (tb : List (Str × List He.Dv)) (s : PySem.W.SharedT) : AlY := obsYG n fa fn tb (HandSHeadRun.getT s)
theorem obY_eq {n : Nat} {fa : List He.Fa} {fn : List He.DefD} {tb : List (Str × List He.Dv)} (s : PySem.W.SharedT) : obY n fa fn tb s = (hookY n fa fn tb).obs s.abs := obsYG_eq (HandSHeadRun.getT_eq s)
theorem law_end {l : PySem.W.OpenLaw} {n k i : Nat} {q : Program} {loose : List Str} {XP : (Str → Option Value) → Heap → Prop} {d : DefRec} {x y : Str} {F : List D → Sto → Rs D} {fa : List He.Fa} {fn : List He.DefD} {tb : List (Str × List He.Dv)} {N : Nat} {st : Stmt}
    (hn : l.most = some n) (hn2 : n ≤ sizeLine) (hdf : d.params.defaults = []) (hr : Room k callerA) (hy : d.name = y) (hi : fn[i]? = some (dat y st))
    (hbd : ∀ (kV doc pm : Value) (an : Option Addr) (cdv ct : Value) (us : List Value), us.length = 1 → bindArgs (PySem.W.fnOf y y (defArgs st) (defBody st) (defScope st) .none kV doc pm an cdv ct) ⟨us, []⟩ = pure (List.zip [x] us))
    (hF : ∀ (w : World) (K : PySem.W.Frag) (mg : Str → Option Value) (base : Heap), Wd fa fn tb K mg → ∀ fd, FunD K y y (defArgs st) (defBody st) (defScope st) [] [] (He.ga K y) fd → FnOk l.prog w K mg base (L2.CX l.prog w) k (He.ga K y) fd [x] (spF K 1 F))
    (hga : ∃ j : Nat, fa[j]? = some (He.Fa.glo y)) (hlaw : ∀ ns : List Int, ns.length ≤ n → ∃ S', F [.scr ns] [] = .ok (.bl true) S') :
    PySem.W.WalkO q loose XP (hookY N fa fn tb).says l.row.toRowW d [] (fun f vs => PySem.call f vs) := by
  refine Att.attach_call hn hdf fun w s0 s1 mg mb fad o pm cd doc a vs ns Gd Yd ho hd hcd hmg hob his hle hge => ?_
  obtain ⟨K, KX, cY⟩ := Yd
  obtain ⟨j, hj⟩ := hga
  have Z : Wd fa fn tb K mg := ⟨cY.x, cY.t, s1.heap, KX, Gd.T.g⟩
  have e1 : mg y = some (.ref fad) := by rw [← hy]; exact hmg
  have e2 := (Z.gl j hj).symm.trans e1
  cases e2
  obtain ⟨fd, FD⟩ := cY.x.d.def_ i hi
  have FD' : FunD K y y (defArgs st) (defBody st) (defScope st) [] [] (He.ga K y) fd := FD
  have bd : ∀ (s : Shared) (u : Value), BindsTo s fd ⟨[u], []⟩ [(x, u)] := fun s u => FunD.bindsA (ps := [x]) FD' hbd s [u] rfl
  exact law_call (CX := L2.CX l.prog w) (sp := spF K 1 F) KX Gd.T.g Gd.T.b Gd.T.builtins Gd.T.nolimit hge hob his (Nat.le_trans hle hn2) hr (fun base _ _ => hF w K mg base Z fd FD') bd
    (fun H hO hS => spF_law hO hS (hlaw ns hle)) (fun H e s' => cx_false)
theorem RDs.rep {K : PySem.W.Frag} {m : List Addr} {H : Hp} {ds : List D} {vs : List V} (h : RDs K m H ds vs) : ∀ n : Nat, RDs K m H (List.replicate n ds).flatten (List.replicate n vs).flatten
  | 0 => rfl
  | n + 1 => by
    rw [List.replicate_succ, List.replicate_succ, List.flatten_cons, List.flatten_cons]
    exact h.append (RDs.rep h n)
section
variable {X : Cx} {W : WX} {a b : Expr} {da db : DE} {pos : Pos}
end
theorem RDs.erase {K : PySem.W.Frag} {m : List Addr} {H : Hp} : ∀ {ds : List D} {vs : List V} (k : Nat), RDs K m H ds vs → RDs K m H (ds.eraseIdx k) (vs.eraseIdx k)
  | [], _, k, h => by rw [show _ = [] from h]; simp; rfl
  | d :: ds, _, 0, h => by
    obtain ⟨v, r, rfl, h1, h2⟩ := h
    exact h2
  | d :: ds, _, k + 1, h => by
    obtain ⟨v, r, rfl, h1, h2⟩ := h
    exact ⟨v, r.eraseIdx k, rfl, h1, RDs.erase k h2⟩
theorem RFs.lookup {K : PySem.W.Frag} {m : List Addr} {H : Hp} {f : Str} {d : D} : ∀ {fs : List (Str × D)} {vs : List (Str × V)}, RFs K m H fs vs → fs.lookup f = some d → ∃ v, vs.lookup f = some v ∧ RD K m H d v
  | [], _, h, e => by cases e
  | (g, x) :: fs, _, h, e => by
    obtain ⟨v, r, rfl, h1, h2⟩ := h
    by_cases hg : f = g
    · subst hg
      rw [List.lookup_cons_self] at e
      cases e
      exact ⟨v, List.lookup_cons_self, h1⟩
    · have hb : (f == g) = false := beq_eq_false_iff_ne.mpr hg
      rw [List.lookup_cons, hb] at e
      obtain ⟨w, q1, q2⟩ := RFs.lookup h2 e
      refine ⟨w, ?_, q2⟩
      show List.lookup f ((g, v) :: r) = _
      rw [List.lookup_cons, hb]
      exact q1
def putD (f : Str) (d : D) : List (Str × D) → List (Str × D)
  | [] => [(f, d)]
  | (g, x) :: r => if g = f then (g, d) :: r else (g, x) :: putD f d r
theorem RFs.put {K : PySem.W.Frag} {m : List Addr} {H : Hp} {f : Str} {d : D} {v : V} (q : RD K m H d v) : ∀ {fs : List (Str × D)} {vs : List (Str × V)}, RFs K m H fs vs → RFs K m H (putD f d fs) (putF f v vs)
  | [], _, h => by
    rw [show _ = [] from h]
    exact ⟨v, [], rfl, q, rfl⟩
  | (g, x) :: fs, _, h => by
    obtain ⟨w, r, rfl, h1, h2⟩ := h
    unfold putD putF
    by_cases hg : g = f
    · rw [if_pos hg, if_pos hg]
      exact ⟨v, r, rfl, q, h2⟩
    · rw [if_neg hg, if_neg hg]
      exact ⟨w, _, rfl, h1, RFs.put q h2⟩
theorem RFs.length {K : PySem.W.Frag} {m : List Addr} {H : Hp} : ∀ {fs : List (Str × D)} {vs : List (Str × V)}, RFs K m H fs vs → fs.length = vs.length
  | [], _, h => by rw [show _ = [] from h]; rfl
  | _ :: fs, _, h => by
    obtain ⟨v, r, rfl, _, h2⟩ := h
    rw [List.length_cons, List.length_cons, RFs.length h2]
theorem Rep.ins {K : PySem.W.Frag} {m : List Addr} {S : Sto} {H : Hp} (R : Rep K m S H) {n : Nat} {v : V} {c : Str} {fs : List (Str × D)} (h : RD K m H (.loc n) v) (e : S[n]? = some (.ins c fs)) : ∃ a dx vs, v = .ref a ∧ m[n]? = some a ∧ H a = some (.ins (He.ga K c) dx vs) ∧ RFs K m H fs vs := by
  obtain ⟨a, rfl, ha⟩ := h
  obtain ⟨dx, vs, h1, h2⟩ := R.at_ n a _ ha e
  exact ⟨a, dx, vs, rfl, ha, h1, h2⟩
section
variable {X : Cx} {W : WX} {o e : Expr} {d da : DE} {C f : Str} {pos pos' : Pos}
end
section
variable {X : Cx} {W : WX} {o e : Expr} {es : List Expr} {da : DE} {d : DA} {C m : Str} {pos apos : Pos} {k n : Nat} {F : List D → Sto → Rs D} {CX' : CXT} {E : L2.St → XK} {ta : TE} {t : TA} {f : Addr} {fd : FuncData} {ps : List Str} {sp : Sp}
end
section
variable {X : Cx} {W : WX} {e : Expr} {es : List Expr} {d : DA} {C x : Str} {p pos : Pos} {k n : Nat} {F : List D → Sto → Rs D} {CX' : CXT} {E : L2.St → XK} {t : TA} {f : Addr} {fd : FuncData} {ps : List Str} {sp : Sp}
end
section
variable {fa : List He.Fa} {fn : List He.DefD} {tb : List (Str × List He.Dv)} {K : PySem.W.Frag} {mg : Str → Option Value}
theorem Wd.cl (Z : Wd fa fn tb K mg) (i : Nat) {x : Str} (h : fa[i]? = some (.cls x)) : Cls K (He.ga K x) := He.cls_ok (Z.c.d.fact i h)
end
section
variable {X : Cx} {W : WX} {a b : Expr} {da db : DE} {pos p p2 : Pos}
end
section
variable {X : Cx} {W : WX} {a b : Expr} {da db : DE} {pos : Pos}
end
section
variable {X : Cx} {W : WX} {a b c : Expr} {da db dc : DE} {pos p p1 p2 p3 : Pos}
def chnD (f g : Int → Int → Bool) (da db dc : DE) : DB := fun r S => (da r S).bind fun x S1 => (db r S1).bind fun y S2 => match x, y with
  | .int i, .int j => if f i j then (dc r S2).bind fun z S3 => (match z with
    | .int k => .ok (g j k) S3
    | _ => .bad) else .ok false S2
  | _, _ => .bad
theorem gt_chain {op op' : CmpOp} {f g : Int → Int → Bool} (ho : OpR X (compareOp op) (rI0 fun i j => .bl (f i j))) (ho' : OpR X (compareOp op') (rI0 fun i j => .bl (g i j))) (ha : GE X W a da) (hb : GE X W b db) (hc : GE X W c dc)
    (hm : lastMarks [op, op'] [b, c] = false := by with_unfolding_all rfl) : GT X W (.Compare a [op, op'] [b, c] pos) (chnD f g da db dc) := by
  refine PT.imp (pt_chain ho ho' ha hb hc hm) fun σ H Q ⟨m, r, S, R, E, p⟩ => ?_
  refine ⟨m, r, S, R, E, (Post.split p).mono fun x S1 m1 H1 g1 R1 p1 v rv => ?_⟩
  refine ⟨m1, r, S1, R1, E.mono g1.sta, (Post.split p1).mono fun y S2 m2 H2 g2 R2 p2 u ru => ?_⟩
  cases x <;> first | exact p2.elim | skip
  cases y <;> first | exact p2.elim | skip
  rename_i i j
  have ev : v = .int i := RD.mono g2.sta _ _ rv
  have eu : u = .int j := ru
  refine ⟨i, j, ev, eu, f i j, rfl, ?_⟩
  have p3 : Post X.K (WX.at W σ) m2 H2 (if f i j then (dc r S2).bind fun z S3 => (match z with
    | .int k => Rs.ok (g j k) S3
    | _ => .bad) else .ok false S2) (fun a _ _ H' => Q a H') := p2
  cases ef : f i j with
  | false =>
    rw [ef, if_neg (by decide)] at p3
    rw [if_neg (by decide)]
    exact ⟨false, rfl, p3 m2 H2 (Gro.refl _ _) R2⟩
  | true =>
    rw [ef, if_pos rfl] at p3
    rw [if_pos rfl]
    refine ⟨m2, r, S2, R2, (E.mono g1.sta).mono g2.sta, (Post.split p3).mono fun z S3 m3 H3 g3 R3 p4 w rw' => ?_⟩
    cases z <;> first | exact p4.elim | skip
    rename_i k
    exact ⟨j, k, eu, rw', g j k, rfl, p4 m3 H3 (Gro.refl _ _) R3⟩
end
def oexIn (K : PySem.W.Frag) (C : Addr) : Bool := match K.lookup C with
  | some ⟨.type "type", _, .cls cd, sl⟩ => (match cd.mro, sl.toList with
    | .ref C' :: bm, [_, _, _, _, some (.builtin n), _] => C' == C && n == "ValueError.__new__" && !cd.hasDel && cd.hasDict && PySem.HandSPX.refsVE bm
    | _, _ => false)
  | _ => false
def oexB (K : PySem.W.Frag) (x : Str) : Bool := oexIn K (He.ga K x) && (He.eqO (PySem.W.findIn K (.ref (He.ga K x)) "__setattr__") (some (some (.builtin "object.__setattr__"))) && (decide (PySem.W.subIn K (.ref (He.ga K x)) (.type "BaseException") = some true) && (decide (PySem.W.typeIn K (.ref (He.ga K x)) = some (.type "type")) && (PySem.W.keepIn K (.ref (He.ga K x)) &&
  (He.eqO (PySem.W.findIn K (.ref (He.ga K x)) "__init__") (some (some (.ref (He.ma K (He.ga K x) "__init__")))) && decide (PySem.W.typeIn K (.ref (He.ma K (He.ga K x) "__init__")) = some (.type "function")))))))
def sumB (K : PySem.W.Frag) (x : Str) : Bool := PySem.W.readsIn K (He.ga K x) (.type "type") && (He.eqO (PySem.W.specialIn K (.ref (He.ga K x)) "__getattribute__") (some (some (.builtin "type.__getattribute__"))) &&
  (match PySem.W.findCls K (.ref (He.ga K x)) (.type "type") "__init__" with
    | some (.val (.builtin n)) => n == "ValueError.__init__"
    | _ => false))
structure SumX (K : PySem.W.Frag) (x : Str) : Prop where
  r : PySem.W.readsIn K (He.ga K x) (.type "type") = true
  s : PySem.W.specialIn K (.ref (He.ga K x)) "__getattribute__" = some (some (.builtin "type.__getattribute__"))
  f : PySem.W.findCls K (.ref (He.ga K x)) (.type "type") "__init__" = some (.val (.builtin "ValueError.__init__"))
theorem sumB_ok {K : PySem.W.Frag} {x : Str} (h : sumB K x = true) : SumX K x := by
  unfold sumB at h
  obtain ⟨h1, h⟩ := Bool.and_eq_true_iff.mp h
  obtain ⟨h2, h3⟩ := Bool.and_eq_true_iff.mp h
  refine ⟨h1, He.eqO_ok h2, ?_⟩
  split at h3
  · rename_i n e
    rw [e, beq_iff_eq.mp h3]
  · cases h3
section
variable {X : Cx} {e : Expr} {es : List Expr} {ta : TA} {B : Str} {p1 p2 pos : Pos}
end
section
variable {X : Cx} {pos p : Pos}
end
section
variable {P : Program} {w : World} {K : PySem.W.Frag} {mg : Str → Option Value} {base : Heap} {x qual : Str} {params : Arguments} {body : List Stmt} {scope : Scope} {f : Addr} {fd : FuncData} {k : Nat} {msg fld n1 n2 : Str} {C : Addr}
end
section
variable {X : Cx} {W : WX} {k : Nat} {C fld : Str} {e : Expr} {d : DE} {p pos pos' : Pos}
end
def clV (K : PySem.W.Frag) (y : Str) : Value := if y = "ValueError" then .type "ValueError" else .ref (He.ga K y)
structure XcC (K : PySem.W.Frag) (D : Addr) : Prop where
  x : XfC K D
  ha : PySem.W.findIn K (.ref D) "__class__" = some (some (.builtin "object.__class__"))
  hn : PySem.W.specialIn K (.builtin "object.__class__") "__get__" = some (some (.builtin "getset_descriptor.__get__"))
  ht : PySem.W.takesIn K (.builtin "object.__class__") = some true
  hm : PySem.W.mroIn K D (.type "object") = some true
def xcB (K : PySem.W.Frag) (x : Str) : Bool := isiB K x && (He.eqO (PySem.W.findIn K (.ref (He.ga K x)) "__getattribute__") (some (some (.builtin "BaseException.__getattribute__"))) && (He.eqO (PySem.W.findIn K (.ref (He.ga K x)) "__getattr__") (some none) &&
  (decide (PySem.W.subIn K (.ref (He.ga K x)) (.type "BaseException") = some true) && PySem.W.hasDictIn K (He.ga K x))))
def isB1 (K : PySem.W.Frag) (q : Str × List (Str × Bool)) : Bool := q.2.all fun p => xcB K p.1 && (decide (PySem.W.exmOne K (.ref (He.ga K p.1)) (clV K q.1) = some p.2) && decide (PySem.W.kitOne K (.ref (He.ga K p.1)) (clV K q.1) = some p.2))
structure IsT (K : PySem.W.Frag) (y : Str) (l : List (Str × Bool)) : Prop where
  of : ∀ c b, l.lookup c = some b → XcC K (He.ga K c) ∧ PySem.W.exmOne K (.ref (He.ga K c)) (clV K y) = some b ∧ PySem.W.kitOne K (.ref (He.ga K c)) (clV K y) = some b
def exB1 (K : PySem.W.Frag) (q : Str × Option Str) : Bool := oexB K q.1 && (xcB K q.1 && match q.2 with
  | none => true
  | some f => (match PySem.W.findIn K (.ref (He.ga K q.1)) f with
    | some none => true
    | _ => false))
def exB (K : PySem.W.Frag) (ex : List (Str × Option Str)) (sb : List (Str × List (Str × Bool))) : Bool := sumB K "SumError" && (ex.all (exB1 K) && sb.all (isB1 K))
structure WdE (fa : List He.Fa) (fn : List He.DefD) (tb : List (Str × List He.Dv)) (ex : List (Str × Option Str)) (sb : List (Str × List (Str × Bool))) (K : PySem.W.Frag) (mg : Str → Option Value) : Prop extends Wd fa fn tb K mg where
  e : exB K ex sb = true
section
variable {fa : List He.Fa} {fn : List He.DefD} {tb : List (Str × List He.Dv)} {ex : List (Str × Option Str)} {sb : List (Str × List (Str × Bool))} {K : PySem.W.Frag} {mg : Str → Option Value}
theorem WdE.sum (Z : WdE fa fn tb ex sb K mg) : SumX K "SumError" := sumB_ok (Bool.and_eq_true_iff.mp Z.e).1
theorem WdE.ex1 (Z : WdE fa fn tb ex sb K mg) (i : Nat) {q : Str × Option Str} (h : ex[i]? = some q) : exB1 K q = true := List.all_eq_true.mp (Bool.and_eq_true_iff.mp (Bool.and_eq_true_iff.mp Z.e).2).1 q (List.mem_of_getElem? h)
theorem WdE.fld (Z : WdE fa fn tb ex sb K mg) (i : Nat) {x f : Str} (h : ex[i]? = some (x, some f)) : PySem.W.findIn K (.ref (He.ga K x)) f = some none := by
  have := (Bool.and_eq_true_iff.mp (Bool.and_eq_true_iff.mp (Z.ex1 i h)).2).2
  dsimp only at this
  split at this
  · rename_i e
    exact e
  · cases this
end
section
variable {P : Program} {w : World} {K : PySem.W.Frag} {mg : Str → Option Value} {base : Heap} {fa : List He.Fa} {fn : List He.DefD} {tb : List (Str × List He.Dv)} {ex : List (Str × Option Str)} {sb : List (Str × List (Str × Bool))} {x q msg fld n1 n2 : Str} {st : Stmt} {k : Nat}
end
def HR (K : PySem.W.Frag) (i : Nat) (a : Addr) (cls : Value) (dd : Option Addr) (c : Str) (g : Option Str) (m : List Addr) (H : Hp) (r : Ev) (σ : L2.St) : Prop :=
  cls = .ref (He.ga K c) ∧ σ[i]? = some (some (.ref a)) ∧ ∃ v : V, ER K m H r (σ.set i (some v)) ∧ match g with
    | none => dd = none ∧ r[i]? = some none
    | some n => ∃ x d, dd = some x ∧ H x = some (.xd [(n, v)]) ∧ r[i]? = some (some d)
section
variable {K : PySem.W.Frag} {m m' : List Addr} {S : Sto} {H H' : Hp}
theorem xd_out (R : Rep K m S H) {x : Addr} {l : List (Str × V)} (h : H x = some (.xd l)) : x ∉ m := by
  intro hm
  obtain ⟨n, hn, e⟩ := List.getElem_of_mem hm
  have e' : m[n]? = some x := by rw [List.getElem?_eq_getElem hn, e]
  obtain ⟨ob, _, q⟩ := R.there e'
  cases ob with
  | lst ds => obtain ⟨vs, h1, h2⟩ := q; rw [h] at h1; cases h1
  | ins c fs => obtain ⟨dx, vs, h1, h2⟩ := q; rw [h] at h1; cases h1
  | dic ks => obtain ⟨vs, h1, h2⟩ := q; rw [h] at h1; cases h1
theorem HR.mono {i : Nat} {a : Addr} {cls : Value} {dd : Option Addr} {c : Str} {g : Option Str} {r : Ev} {σ : L2.St} (h : HR K i a cls dd c g m H r σ) (R : Rep K m S H) (gr : Gro m m' H H') : HR K i a cls dd c g m' H' r σ := by
  obtain ⟨h1, h2, v, h3, h4⟩ := h
  refine ⟨h1, h2, v, h3.mono gr.sta, ?_⟩
  cases g with
  | none => exact h4
  | some n =>
    obtain ⟨x, d, e1, e2, e3⟩ := h4
    exact ⟨x, d, e1, gr.fr x _ (xd_out R e2) e2, e3⟩
theorem HR.set {i j : Nat} {a : Addr} {cls : Value} {dd : Option Addr} {c : Str} {g : Option Str} {r : Ev} {σ : L2.St} {d : D} {v : V} (h : HR K i a cls dd c g m H r σ) (hd : RD K m H d v) (hij : i ≠ j) : HR K i a cls dd c g m H (r.set j (some d)) (σ.set j (some v)) := by
  obtain ⟨h1, h2, w, h3, h4⟩ := h
  refine ⟨h1, by rw [List.getElem?_set_ne (Ne.symm hij)]; exact h2, w, ?_, ?_⟩
  · rw [List.set_comm _ _ (Ne.symm hij)]
    exact h3.set hd j
  · cases g with
    | none => exact ⟨h4.1, by rw [List.getElem?_set_ne (Ne.symm hij)]; exact h4.2⟩
    | some n =>
      obtain ⟨x, d', e1, e2, e3⟩ := h4
      exact ⟨x, d', e1, e2, by rw [List.getElem?_set_ne (Ne.symm hij)]; exact e3⟩
theorem HR.here {i j : Nat} {a : Addr} {cls : Value} {dd : Option Addr} {c : Str} {g : Option Str} {r : Ev} {σ : L2.St} {d : D} (h : HR K i a cls dd c g m H r σ) (hij : i ≠ j) (e : r[j]? = some (some d)) : ∃ v, σ[j]? = some (some v) ∧ RD K m H d v := by
  obtain ⟨h1, h2, w, h3, h4⟩ := h
  obtain ⟨v, q1, q2⟩ := h3.2 j d e
  rw [List.getElem?_set_ne hij] at q1
  exact ⟨v, q1, q2⟩
end
def tHT (K : PySem.W.Frag) (i : Nat) (a : Addr) (cls : Value) (dd : Option Addr) (c : Str) (g : Option Str) (d : DB) : TT := fun σ H Q => ∃ m r S, Rep K m S H ∧ HR K i a cls dd c g m H r σ ∧ PB K W0 m H (d r S) Q
def PostH (K : PySem.W.Frag) (i : Nat) (a : Addr) (cls : Value) (dd : Option Addr) (c : Str) (g : Option Str) (m : List Addr) (H : Hp) (x : Rt) (D : Ends) : Prop := match x with
  | .nx r S => ∀ m' H' σ, Gro m m' H H' → Rep K m' S H' → HR K i a cls dd c g m' H' r σ → D.nx σ H'
  | .rt d S => ∀ m' H' v, Gro m m' H H' → Rep K m' S H' → RD K m' H' d v → D.rt v H'
  | .bk r S => ∀ m' H' σ, Gro m m' H H' → Rep K m' S H' → HR K i a cls dd c g m' H' r σ → D.bk σ H'
  | .ct r S => ∀ m' H' σ, Gro m m' H H' → Rep K m' S H' → HR K i a cls dd c g m' H' r σ → D.ct σ H'
  | .exc e r S => False
  | .bad => False
abbrev HT (X : Cx) (i : Nat) (c : Str) (g : Option Str) (e : Expr) (d : DB) : Prop := ∀ (a : Addr) (oe : Obj) (cls : Value) (dd : Option Addr) (pn : List (Addr × Obj)), Zc cls dd oe → (∃ vs, oe.data = .fields vs) → PT (X.suite a ((a, oe) :: pn)) e (tHT X.K i a cls dd c g d)
def anyT : List (List (Str × Bool)) → Str → Option Bool
  | [], _ => some false
  | l :: ls, c => match l.lookup c with
    | some true => some true
    | some false => anyT ls c
    | none => none
section
variable {X : Cx} {i : Nat} {c : Str} {g : Option Str} {e e1 e2 : Expr} {d da db : DE} {es : List Expr} {ds : DA} {pos : Pos}
theorem HR.dd {K : PySem.W.Frag} {m : List Addr} {H : Hp} {a : Addr} {cls : Value} {dd : Option Addr} {r : Ev} {σ : L2.St} (h : HR K i a cls dd c g m H r σ) : dd = none ∨ ∃ x l, dd = some x ∧ H x = some (.xd l) := by
  obtain ⟨_, _, v, _, h4⟩ := h
  cases g with
  | none => exact .inl h4.1
  | some n =>
    obtain ⟨x, d, e1, e2, _⟩ := h4
    exact .inr ⟨x, _, e1, e2⟩
inductive IsTs (K : PySem.W.Frag) : List Str → List (List (Str × Bool)) → Prop
  | nil : IsTs K [] []
  | cons {y : Str} {l : List (Str × Bool)} {ys : List Str} {ls : List (List (Str × Bool))} (h : IsT K y l) (r : IsTs K ys ls) : IsTs K (y :: ys) (l :: ls)
theorem IsTs.any {K : PySem.W.Frag} {c : Str} : ∀ {ys : List Str} {ls : List (List (Str × Bool))} {b : Bool}, IsTs K ys ls → (∀ y ∈ ys, y ≠ "ValueError") → anyT ls c = some b → PySem.W.kitAny K (.ref (He.ga K c)) (ys.map fun y => Value.ref (He.ga K y)) = some b
  | _, _, b, .nil, _, h => by
    cases h
    rfl
  | _, _, b, .cons (y := y) (l := l) (ys := ys) (ls := ls) T r, hn, h => by
    have hy : clV K y = .ref (He.ga K y) := by unfold clV; rw [if_neg (hn y List.mem_cons_self)]
    unfold anyT at h
    rw [List.map_cons]
    unfold PySem.W.kitAny
    split at h
    · rename_i e
      cases h
      have := (T.of c true e).2.2
      rw [hy] at this
      rw [this]
    · rename_i e
      have := (T.of c false e).2.2
      rw [hy] at this
      rw [this]
      exact IsTs.any r (fun z hz => hn z (List.mem_cons_of_mem _ hz)) h
    · cases h
variable {ta tb : DB} {rest : List Expr} {b : Expr}
end
section
variable {K : PySem.W.Frag} {i : Nat} {a : Addr} {cls : Value} {dd : Option Addr} {c : Str} {g : Option Str} {m : List Addr} {S : Sto} {H : Hp} {Z : Ends}
theorem PostH.later {x : Rt} {m1 : List Addr} {H1 : Hp} (h : PostH K i a cls dd c g m H x Z) (gr : Gro m m1 H H1) : PostH K i a cls dd c g m1 H1 x Z := by
  cases x with
  | nx r S => exact fun m' H' σ g1 => h m' H' σ (gr.trans g1)
  | rt a S => exact fun m' H' v g1 => h m' H' v (gr.trans g1)
  | bk r S => exact fun m' H' σ g1 => h m' H' σ (gr.trans g1)
  | ct r S => exact fun m' H' σ g1 => h m' H' σ (gr.trans g1)
  | exc e r S => exact h
  | bad => exact h
end
section
variable {X : Cx} {i : Nat} {c : Str} {g : Option Str} {e : Expr} {st : Stmt} {rest sa sb : List Stmt} {d : DE} {tc : DB} {da db : DS} {pos : Pos}
end
def Rt.unset (i : Nat) (x : Rt) : Rt := match x with
  | .nx r S => .nx (r.set i none) S
  | .bk r S => .bk (r.set i none) S
  | .ct r S => .ct (r.set i none) S
  | .rt d S => .rt d S
  | _ => .bad
section
variable {X : Cx} {W : WX}
end
abbrev Cl := Str × List (Str × Bool) × DS
def Rt.noexc (x : Rt) : Rt := match x with
  | .exc _ _ _ => .bad
  | x => x
def clGo (e : Ex) (r : Ev) (S : Sto) : List Cl → Rt
  | [] => .exc e r S
  | q :: l => match q.2.1.lookup e.cls with
    | some true => (q.2.2 r S).noexc
    | some false => clGo e r S l
    | none => .bad
inductive GH (X : Cx) : List ExceptHandler → List Cl → Prop
  | nil : GH X [] []
  | cons {y : Str} {t : List (Str × Bool)} {d : DS} {b₀ : Stmt} {suite : List Stmt} {np pos' : Pos} {hds : List ExceptHandler} {l : List Cl} (hc : Names X y (clV X.K y)) (T : IsT X.K y t)
      (hh : ∀ (a : Addr) (oe : Obj) (pn : List (Addr × Obj)), GSs (X.suite a ((a, oe) :: pn)) WN (b₀ :: suite) d) (r : GH X hds l) : GH X (.ExceptHandler (some (.Name y np)) none (b₀ :: suite) pos' :: hds) ((y, t, d) :: l)
abbrev clTs (K : PySem.W.Frag) (q : Cl) : Value × (Addr → Value → Option Addr → TS) := (clV K q.1, fun _ _ _ => tS K WN q.2.2)
theorem GH.hds {X : Cx} {hds : List ExceptHandler} {l : List Cl} (h : GH X hds l) : HdsOk X hds (l.map (clTs X.K)) := by
  induction h with
  | nil => exact .nil
  | cons hc T hh r ih => exact .cons hc (fun a oe cls d pn _ _ => hh a oe pn) ih
theorem GH.many {X : Cx} {W : WX} {D : Ends} {e : Ex} {r1 : Ev} {S1 : Sto} {m1 : List Addr} {H1 : Hp} {σ1 : L2.St} {d : Option Addr} (R1 : Rep X.K m1 S1 H1) (E1 : ER X.K m1 H1 r1 σ1) (x1 : XR X.K m1 H1 e (.ref (He.ga X.K e.cls)) d)
    {hds : List ExceptHandler} {l : List Cl} (h : GH X hds l) : PostS X.K W m1 H1 (clGo e r1 S1 l) D → wMany X.K W D (l.map (clTs X.K)) (.ref (He.ga X.K e.cls)) d σ1 H1 := by
  induction h with
  | nil => exact fun p => p m1 H1 σ1 _ d (Gro.refl _ _) R1 E1 x1
  | @cons y t dd b₀ suite np pos' hds l hc T hh r ih =>
    intro p
    unfold clGo at p
    dsimp only at p
    cases el : t.lookup e.cls with
    | none => rw [el] at p; exact p.elim
    | some b =>
      rw [el] at p
      refine ⟨b, (T.of _ _ el).2.1, fun hb a ha => ?_, fun hb => ?_⟩
      · subst hb
        refine ⟨m1, r1, S1, R1, E1, ?_⟩
        revert p
        dsimp only
        cases dd r1 S1 with
        | nx r2 S2 => exact fun p => p
        | rt d S2 => exact fun p => p
        | bk r2 S2 => exact fun p => p
        | ct r2 S2 => exact fun p => p
        | exc e2 r2 S2 => exact fun p => p.elim
        | bad => exact fun p => p.elim
      · subst hb
        exact ih p
section
variable {X : Cx} {CX : CXT} {k : Nat} {f : Addr} {fd : FuncData} {ps : List Str} {sp : Sp} {E : L2.St → XK} {x : Str} {p pos : Pos}
end
section
variable {X : Cx} {W : WX} {k n : Nat} {x : Str} {F : List D → Sto → Rs D} {p pos : Pos}
end
theorem hx_digits {X : Cx} (hx : HX X) {pins : List (Addr × Obj)} {σ : L2.St} {H : Hp} {s : Shared} (I : Inv X pins σ H s) : s.heap.NoDigits := (hx.seer X.mg X.base I.ok.mod).2.keeps I.bk
def wrC (i : Int) : Bool := decide (i.natAbs.log2 < 12900)
theorem wrC_lt {i : Int} (h : wrC i = true) : i.natAbs < 10 ^ 4300 := Nat.lt_of_lt_of_le (lt_of_log2 (of_decide_eq_true h)) pow_lo
def strD : List D → Sto → Rs D
  | [.int i], S => if wrC i = true then .ok (.str (Str.ofString (toString i))) S else .bad
  | _, _ => .bad
theorem call_strG {X : Cx} (hx : HX X) (hc : X.calm = true) : CallR X (.type "str") (fun xs H Q => ∃ i, xs = [.int i] ∧ wrC i = true ∧ Q (.str (Str.ofString (toString i))) H) := by
  intro pins s σ H xs us Q I r h
  obtain ⟨i, rfl, hz, q⟩ := h
  obtain ⟨u, rfl, t, rfl⟩ := vals1 r
  refine str_of_int_or (I.ok.hd hc) (hx_digits hx I) (fun _ => ⟨.str _, H, I.tok _, ⟨_, rfl⟩, q⟩) fun hg => ?_
  have := wrC_lt hz
  omega
theorem str_d {K : PySem.W.Frag} : CallD K (fun xs H Q => ∃ i, xs = [.int i] ∧ wrC i = true ∧ Q (.str (Str.ofString (toString i))) H) strD := by
  intro m H S xs vs Q R h p
  unfold strD at p
  split at p
  · rename_i i
    split at p
    · rename_i hz
      obtain ⟨v, rfl, hv⟩ := h.inv1
      exact ⟨_, by rw [show v = _ from hv], hz, p m H (Gro.refl _ _) R _ rfl⟩
    · exact p.elim
  · exact p.elim
theorem wp_textG {M : Model} {A : Around} {E : Value → Shared → Prop} {s : Shared} {Q : Value → Shared → Prop} {v : Value} {text : List Nat} {n : Int} (hn : s.heap.NoDigits) 
    (hr : (int_private% "readNumeral") (if (text.takeWhile (· != 0)).length ≤ 640 then 0 else 4300) 10 (text.takeWhile (· != 0)) = (int_private% "Numeral.value") n)
    (ha : ((text.takeWhile (· != 0)).length == text.length) = true) (h : Q (.int n s.toks) { s with toks := s.toks + 1 }) :
    wpAny M A ((int_private% "intFromText") v text 10) Q E s := by
  by_cases hs : (text.takeWhile (· != 0)).length ≤ 640
  · rw [if_pos hs] at hr
    exact PySem.W.KIN.wp_text hs hr ha h
  · rw [if_neg hs] at hr
    obtain ⟨mc, hns, hnone⟩ := hn
    obtain ⟨hp, g, d, tk, os⟩ := s
    repeat (any_goals (first
      | assumption
      | (with_reducible refine wpAny_ite_false (decide_eq_false hs) ?_)
      | (with_reducible refine wpAny_ite_true (decide_eq_true ha) ?_)
      | (unfold Builtin.intMaxStrDigits)
      | (with_reducible refine wpAny_nsGet hns ?_)
      | wp_step))
    rw [hnone]
    dsimp only
    with_reducible refine wpAny_pure ?_
    rw [hr]
    dsimp only
    with_reducible refine wpAny_ite_true (decide_eq_true ha) ?_
    exact wpAny_mkInt h
theorem seen_of_text {x : PySem.Str} {n : Int} (hl : x.length ≤ sizeLine) (hn : PySem.intText? x = some n) : ((int_private% "readNumeral") (if (numSeenOf x).length ≤ 640 then 0 else 4300) 10 (numSeenOf x) = (int_private% "Numeral.value") n) ∧ ((numSeenOf x).length == (numTextOf x).length) = true := by
  rcases readAny x hl with ⟨m, h1, h2, h3⟩ | ⟨h1, _⟩
  · rw [hn] at h1
    cases h1
    exact ⟨h3, h2⟩
  · rw [hn] at h1
    cases h1
structure Hid1 (p : Prop) : Prop where
  out : p
theorem meets_textG {x : PySem.Str} {u : Tok} {n : Int} (hl : x.length ≤ sizeLine) (hn : PySem.intText? x = some n) : Meets (Builtin.«int.__new__» ⟨[.type "int", .str x u], []⟩) (fun _ R s => s.heap.NoDigits ∧ R (.ok (.ret (.int n s.toks))) { s with toks := s.toks + 1 }) :=
  .of_wp fun prog w A R s ⟨hd, h⟩ => by
    have hk := Hid1.mk (seen_of_text hl hn)
    have hd' := Hid1.mk hd
    clear hl hn hd
    obtain ⟨hp, g, d, tk, os⟩ := s
    have e1 := F.conv_sub_int
    have e2 := F.madeHere_int
    have e3 := PySem.W.KIN.str_int
    have e4 := PySem.W.KIN.str_idx
    have e5 := PySem.W.KIN.str_trunc
    have e6 : typeOf (.str x u) = pure (.type "str") := rfl
    repeat (any_goals (first
      | assumption
      | ((with_reducible show wpAny _ _ ((int_private% "intFromText") _ _ _) _ _ _); refine wp_textG hd'.out hk.out.1 hk.out.2 ?_)
      | wp_step))
    all_goals first | exact ⟨_, rfl, h⟩ | skip
def intTD : List D → Sto → Rs D
  | [.str a], S => if a.length ≤ sizeLine then (match PySem.intText? a with
    | some n => .ok (.int n) S
    | none => .bad) else .bad
  | _, _ => .bad
theorem call_intG {X : Cx} (hx : HX X) : CallR X (.type "int") (fun xs H Q => ∃ a n, xs = [.str a] ∧ PySem.intText? a = some n ∧ a.length ≤ sizeLine ∧ Q (.int n) H) := by
  intro pins s σ H xs us Q I r h
  obtain ⟨a, n, rfl, hn, hl, q⟩ := h
  obtain ⟨u, rfl, t, rfl⟩ := vals1 r
  exact call_int_1 (meets_textG hl hn) ⟨hx_digits hx I, typeIs_int _ _ _, .int n, H, I.tok _, ⟨_, rfl⟩, q⟩
theorem intT_d {K : PySem.W.Frag} : CallD K (fun xs H Q => ∃ a n, xs = [.str a] ∧ PySem.intText? a = some n ∧ a.length ≤ sizeLine ∧ Q (.int n) H) intTD := by
  intro m H S xs vs Q R h p
  unfold intTD at p
  split at p
  · rename_i a
    split at p
    · rename_i hl
      cases e : PySem.intText? a with
      | none => rw [e] at p; exact p.elim
      | some n =>
        rw [e] at p
        obtain ⟨v, rfl, hv⟩ := h.inv1
        exact ⟨a, n, by rw [show v = _ from hv], e, hl, p m H (Gro.refl _ _) R _ rfl⟩
    · exact p.elim
  · exact p.elim
section
variable {X : Cx} {W : WX} {a b : Expr} {da db : DE} {pos p : Pos}
theorem ge_str1 (hx : HX X) (hg : Gl X "str") (hm : X.mg "str" = none) (ha : GE X W a da) (hc : X.calm = true := by rfl) (he : starEach [a] X.env = (false, eval a X.env) :: starEach [] X.env := by rfl) (hpl : (backTo pos (starEach [] X.env)).any (·.1) = false := by rfl) :
    GE X W (.Call (.Name "str" p) [a] [] pos) (cal strD (dK da dN)) :=
  ge_callTy (call_strG hx hc) str_d (by decide +kernel) hg hm (ga_cons ha ga_nil he) (by decide) (by decide) he hpl
theorem ge_intT (hx : HX X) (hg : Gl X "int") (hm : X.mg "int" = none) (ha : GE X W a da) (he : starEach [a] X.env = (false, eval a X.env) :: starEach [] X.env := by rfl) (hpl : (backTo pos (starEach [] X.env)).any (·.1) = false := by rfl) :
    GE X W (.Call (.Name "int" p) [a] [] pos) (cal intTD (dK da dN)) :=
  ge_callTy (call_intG hx) intT_d (by decide +kernel) hg hm (ga_cons ha ga_nil he) (by decide) (by decide) he hpl
theorem ge_gstr {x z : Str} (h : ∃ t, X.mg x = some (.str z t)) (hg : Gl X x) (hd : (x == ("__debug__" : Str)) = false := by decide) : GE X W (.Name x pos) (dC (.str z)) := by
  obtain ⟨t, h⟩ := h
  exact ge_con (pe_glob (v := .str z) hg h ⟨t, rfl⟩ hd) fun _ _ => rfl
end
section
variable {fa : List He.Fa} {fn : List He.DefD} {tb : List (Str × List He.Dv)} {K : PySem.W.Frag} {mg : Str → Option Value}
theorem Wd.sr (Z : Wd fa fn tb K mg) (i : Nat) {x z : Str} (h : fa[i]? = some (.str x z)) : ∃ t, mg x = some (.str z t) := by
  obtain ⟨hp, X, G⟩ := Z.g
  exact He.str_ok X G (Z.c.d.fact i h)
end
def repS (z : Str) (n : Nat) : Str := ⟨(List.replicate n z.cps.toList).flatten.toArray⟩
theorem rep_fold (c : Array Nat) : ∀ (n : Nat) (a : Array Nat), (List.replicate n c).foldl (· ++ ·) a = (a.toList ++ (List.replicate n c.toList).flatten).toArray
  | 0, a => by simp
  | n + 1, a => by
    rw [List.replicate_succ, List.foldl_cons, rep_fold c n, List.replicate_succ, List.flatten_cons]
    simp
theorem rep_eq (z : Str) (n : Nat) : (⟨(List.replicate n z.cps).foldl (· ++ ·) #[]⟩ : Str) = repS z n := by
  rw [rep_fold]
  simp [repS]
theorem rep_len (z : Str) (n : Nat) : (repS z n).length = n * z.length := by
  unfold repS Str.length
  rw [List.size_toArray, List.length_flatten, List.map_replicate, List.sum_replicate_nat]
  simp
def rRepS : R2 := fun x y H Q => ∃ z n, x = .str z ∧ y = .int n ∧ 0 ≤ n ∧ z.length * n.toNat ≤ 1000000 ∧ n < 1000000 ∧ Q (.str (repS z n.toNat)) H
theorem op_repS {X : Cx} : OpR X (binaryOp .Mult) rRepS := by
  intro pins s σ H x y v u Q I rx ry h
  obtain ⟨z, n, rfl, rfl, h0, h1, h2, q⟩ := h
  obtain ⟨t, rfl⟩ := rx
  obtain ⟨t', rfl⟩ := ry
  refine PySem.P.mul_str (by rw [Bool.or_eq_false_iff]; exact ⟨decide_eq_false (by omega), decide_eq_false (by omega)⟩) (fun hn hz => ?_) (fun hn hz => ?_) ?_
  · have hn1 : 1 ≤ n := by omega
    have : (z.length : Int) * n ≤ 1000000 := by
      have e : ((z.length * n.toNat : Nat) : Int) = (z.length : Int) * n := by
        rw [Int.natCast_mul, Int.toNat_of_nonneg h0]
      omega
    have h3 : (z.length : Int) ≤ 1000000 := Int.le_trans (by
      have := Int.mul_le_mul_of_nonneg_left hn1 (Int.natCast_nonneg z.length)
      rw [Int.mul_one] at this
      exact this) this
    have h4 : (1000000 : Int) ≤ (2 ^ 63 - 1) / n := by
      rw [Int.le_ediv_iff_mul_le (by omega)]
      have := Int.mul_le_mul_of_nonneg_left (show n ≤ 1000000 by omega) (show (0 : Int) ≤ 1000000 by decide)
      omega
    omega
  · unfold Builtin.Str.tooLong
    have := sizeLine_eq
    first
      | (simp only [decide_eq_false_iff_not]; omega)
      | (rw [decide_eq_false]; omega)
  · split
    · rename_i hn
      have e : n = 0 := by omega
      subst e
      exact ⟨by decide, .str _, H, I.tok _, ⟨_, rfl⟩, q⟩
    · split
      · rename_i hn hz
        have e : repS z n.toNat = z := by
          refine TL.ext_tl ?_
          unfold repS TL.tl
          dsimp only
          rcases Bool.or_eq_true_iff.mp hz with hz | hz
          · have : n = 1 := eq_of_beq hz
            subst this
            simp
          · have hz' : z.length = 0 := eq_of_beq hz
            have : z.cps.toList = [] := List.length_eq_zero_iff.mp (by rw [Array.length_toList]; exact hz')
            rw [this]
            simp
        rw [e] at q
        exact ⟨.str _, H, I, ⟨_, rfl⟩, q⟩
      · refine ⟨?_, ?_⟩
        · rw [rep_eq, rep_len]
          have := sizeLine_eq
          rw [Nat.mul_comm]
          omega
        · rw [rep_eq]
          exact ⟨.str _, H, I.tok _, ⟨_, rfl⟩, q⟩
def repSD : D → D → Sto → Rs D
  | .str z, .int n, S => if decide (0 ≤ n ∧ z.length * n.toNat ≤ 1000000 ∧ n < 1000000) = true then .ok (.str (repS z n.toNat)) S else .bad
  | _, _, _ => .bad
theorem repS_d {K : PySem.W.Frag} : OpD K rRepS repSD := by
  intro m H S x y v w Q R hx hy p
  cases x <;> first | exact p.elim | skip
  cases y <;> first | exact p.elim | skip
  rename_i z n
  have p' : PV K W0 m H (if decide (0 ≤ n ∧ z.length * n.toNat ≤ 1000000 ∧ n < 1000000) = true then .ok (.str (repS z n.toNat)) S else .bad) Q := p
  split at p'
  · rename_i h
    obtain ⟨h1, h2, h3⟩ := of_decide_eq_true h
    exact ⟨z, n, hx, hy, h1, h2, h3, p' m H (Gro.refl _ _) R _ rfl⟩
  · exact p'.elim
theorem ge_repS {X : Cx} {W : WX} {a b : Expr} {da db : DE} {pos : Pos} (ha : GE X W a da) (hb : GE X W b db) : GE X W (.BinOp a .Mult b pos) (bin repSD da db) := ge_op op_repS repS_d ha hb
def smet1 (g : D → D → Sto → Rs D) (a b : DE) : DE := fun r S => (a r S).bind fun x S1 => match x with
  | .str _ => (b r S1).bind fun y S2 => (g x y S2).nox
  | _ => .bad
theorem ge_tm1 {X : Cx} {W : WX} {e : Expr} {da db : DE} {r : V → List V → Hp → VK → Prop} {g : D → D → Sto → Rs D} (h : PE X e (tM1 r (tE X.K W da) (tE X.K W db)))
    (hg : ∀ {m : List Addr} {S : Sto} {H : Hp} {x y : D} {v w : V} {Q : VK}, Rep X.K m S H → RD X.K m H x v → RD X.K m H y w → PV X.K W0 m H (g x y S) Q → r v [w] H Q) : GE X W e (smet1 g da db) := by
  refine PE.imp h fun σ H Q ⟨m, r, S, R, E, p⟩ => ?_
  refine ⟨m, r, S, R, E, (Post.split p).mono fun x S1 m1 H1 g1 R1 p1 v rv => ?_⟩
  cases x <;> first | exact p1.elim | skip
  rename_i z
  refine ⟨⟨z, rv⟩, m1, r, S1, R1, E.mono g1.sta, (Post.split p1).mono fun y S2 m2 H2 g2 R2 p2 w rw => ?_⟩
  exact hg R2 (show RD X.K m2 H2 (.str z) v from rv) rw (Post.nox0 p2)
def partD : D → D → Sto → Rs D
  | .str a, .str b, S => if decide ((b.length == 0) = false ∧ a.length ≤ sizeLine) = true then .ok (.tup [.str (Txt.partition a b).1, .str (Txt.partition a b).2.1, .str (Txt.partition a b).2.2]) S else .bad
  | _, _, _ => .bad
def splD : D → D → Sto → Rs D
  | .str a, .str b, S => if decide ((b.length == 0) = false ∧ a.length + 2 ≤ sizeLine) = true then .ok (.loc S.length) (S ++ [.lst ((Txt.split a b).map D.str)]) else .bad
  | _, _, _ => .bad
def strsD : List D → Option (List Str)
  | [] => some []
  | .str z :: r => (strsD r).map (z :: ·)
  | _ :: _ => none
def joinD (x y : D) (S : Sto) : Rs D := match x, (seqD y S).bind strsD with
  | .str a, some ys => if decide ((ys.map (·.length)).sum + ys.length * a.length ≤ 16777216) = true then .ok (.str (Txt.join a ys)) S else .bad
  | _, _ => .bad
theorem strs_ok {K : PySem.W.Frag} {m : List Addr} {H : Hp} : ∀ {ds : List D} {vs : List V} {bs : List Str}, RDs K m H ds vs → strsD ds = some bs → vs = bs.map V.str
  | [], vs, bs, h, e => by
    have e' : some [] = some bs := e
    cases e'
    exact h
  | d :: ds, vs, bs, h, e => by
    obtain ⟨v, r, rfl, h1, h2⟩ := h
    cases d <;> first | exact nomatch (show none = some bs from e) | skip
    rename_i b
    have e' : (strsD ds).map (b :: ·) = some bs := e
    cases q : strsD ds with
    | none => rw [q] at e'; cases e'
    | some cs =>
      rw [q] at e'
      cases e'
      rw [show v = _ from h1, strs_ok h2 q]
      rfl
theorem rds_strs {K : PySem.W.Frag} {m : List Addr} {H : Hp} : ∀ zs : List Str, RDs K m H (zs.map D.str) (zs.map V.str)
  | [] => rfl
  | z :: zs => ⟨.str z, zs.map V.str, rfl, rfl, rds_strs zs⟩
section
variable {X : Cx} {W : WX} {o e : Expr} {d_o de : DE} {apos pos : Pos}
theorem ge_partition (ho : GE X W o d_o) (he : GE X W e de) (hs : starEach [e] X.env = [(false, eval e X.env)] := by rfl) (hbase : attributeBase o "partition" X.env (eval o X.env) = eval o X.env := by rfl) (hline : (apos.endLine == pos.line) = true := by rfl) :
    GE X W (.Call (.Attribute o "partition" apos) [e] [] pos) (smet1 partD d_o de) := by
  refine ge_tm1 (pe_partition ho he hs hbase hline) fun {m S H x y v w Q} R hx hy p => ?_
  cases x <;> first | exact p.elim | skip
  cases y <;> first | exact p.elim | skip
  rename_i a b
  have p' : PV X.K W0 m H (if decide ((b.length == 0) = false ∧ a.length ≤ sizeLine) = true then .ok (.tup [.str (Txt.partition a b).1, .str (Txt.partition a b).2.1, .str (Txt.partition a b).2.2]) S else .bad) Q := p
  split at p'
  · rename_i h
    obtain ⟨h1, h2⟩ := of_decide_eq_true h
    exact ⟨a, b, hx, by rw [show w = .str b from hy], h1, h2, fun l hl => p' m _ (gro_new hl) (R.tupd hl) _ ⟨l, _, rfl, .inl (.inl upd_same), ⟨_, _, rfl, rfl, _, _, rfl, rfl, _, _, rfl, rfl, rfl⟩⟩⟩
  · exact p'.elim
theorem ge_split (ho : GE X W o d_o) (he : GE X W e de) (hs : starEach [e] X.env = [(false, eval e X.env)] := by rfl) (hbase : attributeBase o "split" X.env (eval o X.env) = eval o X.env := by rfl) (hline : (apos.endLine == pos.line) = true := by rfl) :
    GE X W (.Call (.Attribute o "split" apos) [e] [] pos) (smet1 splD d_o de) := by
  refine ge_tm1 (pe_split ho he hs hbase hline) fun {m S H x y v w Q} R hx hy p => ?_
  cases x <;> first | exact p.elim | skip
  cases y <;> first | exact p.elim | skip
  rename_i a b
  have p' : PV X.K W0 m H (if decide ((b.length == 0) = false ∧ a.length + 2 ≤ sizeLine) = true then .ok (.loc S.length) (S ++ [.lst ((Txt.split a b).map D.str)]) else .bad) Q := p
  split at p'
  · rename_i h
    obtain ⟨h1, h2⟩ := of_decide_eq_true h
    exact ⟨a, b, hx, by rw [show w = .str b from hy], h1, h2, newL_of R (rds_strs _) p'⟩
  · exact p'.elim
theorem ge_join (ho : GE X W o d_o) (he : GE X W e de) (hs : starEach [e] X.env = [(false, eval e X.env)] := by rfl) (hbase : attributeBase o "join" X.env (eval o X.env) = eval o X.env := by rfl) (hline : (apos.endLine == pos.line) = true := by rfl) :
    GE X W (.Call (.Attribute o "join" apos) [e] [] pos) (smet1 joinD d_o de) := by
  refine ge_tm1 (pe_join ho he hs hbase hline) fun {m S H x y v w Q} R hx hy p => ?_
  unfold joinD at p
  split at p
  · rename_i a ys e
    split at p
    · rename_i h
      cases q : seqD y S with
      | none => rw [q] at e; cases e
      | some ds =>
        rw [q] at e
        obtain ⟨l, ws, rfl, h1, h2⟩ := seq_ok R hy q
        rw [strs_ok h1 e] at h2
        exact ⟨a, l, ys, hx, rfl, h2.imp And.left And.left, of_decide_eq_true h, p m H (Gro.refl _ _) R _ rfl⟩
    · exact p.elim
  · exact p.elim
end
def slSD (x : D) (lo hi : Option Int) (S : Sto) : Rs D := match x with
  | .str z => if z.length ≤ sizeLine then .ok (.str (cutS z lo hi)) S else .bad
  | _ => .bad
def sliS (d : DE) (lo hi : Ev → Sto → Rs (Option Int)) : DE := fun r S => (d r S).bind fun x S1 => (lo r S1).bind fun l S2 => (hi r S2).bind fun h S3 => (slSD x l h S3).nox
theorem ge_sliceS {X : Cx} {W : WX} {a : Expr} {da : DE} {pos : Pos} {lo hi : Option Expr} {dlo dhi : Ev → Sto → Rs (Option Int)} {p2 : Pos} (he : GE X W a da) (hl : GO X W lo dlo) (hu : GO X W hi dhi) : GE X W (.Subscript a (.Slice lo hi none p2) pos) (sliS da dlo dhi) := by
  refine PE.imp (pe_slice sl_str he hl hu) fun σ H Q ⟨m, r, S, R, E, p⟩ => ?_
  refine ⟨m, r, S, R, E, (Post.split p).mono fun x S1 m1 H1 g1 R1 p1 v rv => ?_⟩
  refine ⟨m1, r, S1, R1, E.mono g1.sta, (Post.split p1).mono fun l S2 m2 H2 g2 R2 p2 => ?_⟩
  refine ⟨m2, r, S2, R2, (E.mono g1.sta).mono g2.sta, (Post.split p2).mono fun h S3 m3 H3 g3 R3 p3 => ?_⟩
  have p4 := Post.nox0 p3
  cases x <;> first | exact p4.elim | skip
  rename_i z
  have p5 : PV X.K W0 m3 H3 (if z.length ≤ sizeLine then .ok (.str (cutS z l h)) S3 else .bad) Q := p4
  split at p5
  · rename_i hz
    exact ⟨z, rv, hz, p5 m3 H3 (Gro.refl _ _) R3 _ rfl⟩
  · exact p5.elim
def sgS (z : Str) : List D := z.cps.toList.map fun c => D.str ⟨#[c]⟩
def walkS (d : DE) : DI := fun r S => (d r S).bind fun x S1 => match x with
  | .str z => .ok (sgS z, fun _ => True) S1
  | _ => .bad
theorem gi_walkS {X : Cx} {W : WX} {tg e : Expr} {d : DE} (h : GE X W e d) : GI X W tg e (walkS d) := by
  refine PI.imp (pi_str h) fun σ H R0 ⟨m, r, S, R, E, p⟩ => ?_
  refine ⟨m, r, S, R, E, (Post.split p).mono fun x S1 m1 H1 g1 R1 p1 v rv => ?_⟩
  cases x <;> first | exact p1.elim | skip
  rename_i z
  refine ⟨z, rv, p1 m1 H1 (Gro.refl _ _) R1 _ fun i m' S' H' st R' gd => ?_⟩
  have el : (sgS z).length = z.cps.size := by simp [sgS]
  refine ⟨fun x hx => ?_, fun hl => by rw [el] at hl; exact hl⟩
  have hi : i < z.cps.size := by
    rcases Nat.lt_or_ge i z.cps.size with q | q
    · exact q
    · rw [List.getElem?_eq_none (by rw [el]; exact q)] at hx
      cases hx
  refine ⟨hi, fun v' H'' y => ?_⟩
  obtain ⟨rfl, c, hc, rfl⟩ := y
  refine ⟨Gro.refl _ _, R', ?_⟩
  unfold sgS at hx
  rw [List.getElem?_map, Array.getElem?_toList, hc] at hx
  cases hx
  rfl
def inSD (neg : Bool) : D → D → Sto → Rs D
  | .str y, .str z, S => (match y.cps.toList with
    | [c] => .ok (.bl (if neg then !decide (c ∈ z.cps.toList) else decide (c ∈ z.cps.toList))) S
    | _ => .bad)
  | _, _, _ => .bad
theorem one_sign {y : Str} {c : Nat} (h : y.cps.toList = [c]) : y = ⟨#[c]⟩ := TL.ext_tl h
def rInS (neg : Bool) : R2 := fun x y H Q => ∃ (c : Nat) (z : Str), x = .str ⟨#[c]⟩ ∧ y = .str z ∧ Q (.bl (if neg then !decide (c ∈ z.cps.toList) else decide (c ∈ z.cps.toList))) H
theorem inS_d {K : PySem.W.Frag} {neg : Bool} : OpD K (rInS neg) (inSD neg) := by
  intro m H S x y v w Q R hx hy p
  cases x <;> first | exact p.elim | skip
  cases y <;> first | exact p.elim | skip
  rename_i y z
  have p' : PV K W0 m H (match y.cps.toList with
    | [c] => .ok (.bl (if neg then !decide (c ∈ z.cps.toList) else decide (c ∈ z.cps.toList))) S
    | _ => .bad) Q := p
  split at p'
  · rename_i c e
    exact ⟨c, z, by rw [show v = .str y from hx, one_sign e], hy, p' m H (Gro.refl _ _) R _ rfl⟩
  · exact p'.elim
section
variable {X : Cx} {W : WX} {a b : Expr} {da db : DE} {pos : Pos}
theorem gt_ninS (ha : GE X W a da) (hb : GE X W b db) (hm : behindInMarks .NotIn b = false := by rfl) : GT X W (.Compare a [.NotIn] [b] pos) (tst (bin (inSD true) da db)) := gt_cmp op_notIn_sign (inS_d (neg := true)) ha hb hm
end
def fmtD : D → Sto → Rs D
  | .int i, S => if wrC i = true then .ok (.str (Str.ofString (toString i))) S else .bad
  | .str z, S => if z.length ≤ sizeLine then .ok (.str z) S else .bad
  | _, _ => .bad
def tFmG (te : TE) : TE := fun σ H Q => te σ H fun x H1 => (∃ y : Str, x = .str y ∧ y.length ≤ sizeLine ∧ Q (.str y) H1) ∨ ∃ i : Int, x = .int i ∧ wrC i = true ∧ Q (.str (Str.ofString (toString i))) H1
theorem pe_fmG {X : Cx} (hx : HX X) (hc : X.calm = true) {e : Expr} {te : TE} {pos : Pos} (he : PE X e te) : PE X (.FormattedValue e (-1) none pos) (tFmG te) := by
  refine ⟨fun pins s σ H Q I h => wpAny_FormattedValue_plain (thn (he.run pins s σ H _ I h) fun v s1 hv => ?_)⟩
  obtain ⟨x, H1, J, rx, q⟩ := hv
  rcases q with ⟨y, rfl, hz, q⟩ | ⟨i, rfl, hz, q⟩
  · obtain ⟨t, rfl⟩ := rx
    exact wpAny_formatField_str ⟨.str y, H1, J, ⟨t, rfl⟩, q⟩ ⟨.str y, H1, J.tok _, ⟨_, rfl⟩, q⟩ hz
  · obtain ⟨t, rfl⟩ := rx
    refine formatField_int (J.ok.hd hc) (hx_digits hx J) (fun _ => ⟨.str _, H1, J.tok _, ⟨_, rfl⟩, q⟩) fun hg => ?_
    have := wrC_lt hz
    omega
theorem ge_fmt {X : Cx} {W : WX} (hx : HX X) {e : Expr} {d : DE} {pos : Pos} (he : GE X W e d) (hc : X.calm = true := by rfl) : GE X W (.FormattedValue e (-1) none pos) (una fmtD d) := by
  refine PE.imp (pe_fmG hx hc he) fun σ H Q ⟨m, r, S, R, E, p⟩ => ?_
  refine ⟨m, r, S, R, E, (Post.split p).mono fun x S1 m1 H1 g1 R1 p1 v rv => ?_⟩
  have p2 := Post.nox0 p1
  unfold fmtD at p2
  split at p2
  · split at p2
    · rename_i hz
      exact .inr ⟨_, rv, hz, p2 m1 H1 (Gro.refl _ _) R1 _ rfl⟩
    · exact p2.elim
  · split at p2
    · rename_i hz
      exact .inl ⟨_, rv, hz, p2 m1 H1 (Gro.refl _ _) R1 _ rfl⟩
    · exact p2.elim
  · exact p2.elim
abbrev DJ := Str → Ev → Sto → Rs Str
def jN : DJ := fun acc _ S => .ok acc S
def jK (a : DE) (b : DJ) : DJ := fun acc r S => (a r S).bind fun x S1 => match x with
  | .str y => if (acc ++ y).length ≤ sizeLine then b (acc ++ y) r S1 else .bad
  | _ => .bad
def joE (j : DJ) : DE := fun r S => (j Str.empty r S).bind fun z S1 => .ok (.str z) S1
def GJ (X : Cx) (W : WX) (es : List Expr) (d : DJ) : Prop := ∃ ts, PJ X es ts ∧ ∀ acc σ H Q m r S, Rep X.K m S H → ER X.K m H r σ → Post X.K (WX.at W σ) m H (d acc r S) (fun z _ _ H' => Q z H') → tJs ts acc σ H Q
theorem gj_nil {X : Cx} {W : WX} : GJ X W [] jN := ⟨[], .nil, fun acc σ H Q m r S R E p => p m H (Gro.refl _ _) R⟩
theorem gj_cons {X : Cx} {W : WX} {e : Expr} {es : List Expr} {a : DE} {d : DJ} (he : GE X W e a) (h : GJ X W es d) : GJ X W (e :: es) (jK a d) := by
  obtain ⟨ts, hp, hs⟩ := h
  refine ⟨tE X.K W a :: ts, .cons he hp, fun acc σ H Q m r S R E p => ?_⟩
  show tE X.K W a σ H _
  refine ⟨m, r, S, R, E, (Post.split p).mono fun x S1 m1 H1 g1 R1 p1 v rv => ?_⟩
  cases x <;> first | exact p1.elim | skip
  rename_i y
  have p2 : Post X.K (WX.at W σ) m1 H1 (if (acc ++ y).length ≤ sizeLine then d (acc ++ y) r S1 else .bad) (fun z _ _ H' => Q z H') := p1
  split at p2
  · rename_i hz
    exact ⟨y, rv, hz, hs _ σ H1 Q m1 r S1 R1 (E.mono g1.sta) p2⟩
  · exact p2.elim
theorem ge_joined {X : Cx} {W : WX} {v1 v2 : Expr} {rest : List Expr} {d : DJ} {pos : Pos} (h : GJ X W (v1 :: v2 :: rest) d) : GE X W (.JoinedStr (v1 :: v2 :: rest) pos) (joE d) := by
  obtain ⟨ts, hp, hs⟩ := h
  refine PE.imp (pe_joined hp) fun σ H Q ⟨m, r, S, R, E, p⟩ => ?_
  refine hs _ σ H _ m r S R E ((Post.split p).mono fun z S1 m1 H1 g1 R1 p1 => ?_)
  exact p1 m1 H1 (Gro.refl _ _) R1 _ rfl
open HandSHeadRun in
abbrev PR : Program := PySem.Challenge.pw_helmsum_k91_numbers_and_rows_read
abbrev s_is_whole : Stmt := top PR 4
abbrev s_common : Stmt := top PR 5
abbrev s_show_number : Stmt := top PR 10
abbrev s_figures_of : Stmt := top PR 12
abbrev s_law_bag : Stmt := top PR 16
abbrev s_law_take : Stmt := top PR 17
abbrev s_law_low : Stmt := top PR 18
abbrev s_law_number_text : Stmt := top PR 22
abbrev s_is_number : Stmt := top PR 6
abbrev s_show_row : Stmt := top PR 11
abbrev s_law_number : Stmt := top PR 19
abbrev s_law_is_number : Stmt := top PR 20
abbrev s_law_row_text : Stmt := top PR 23
abbrev s_read_number : Stmt := top PR 13
abbrev s_law_is_row : Stmt := top PR 21
abbrev s_law_any_2 : Stmt := top PR 24
abbrev s_read_row : Stmt := top PR 14
abbrev s_law_number_right : Stmt := top PR 25
abbrev s_law_row_right : Stmt := top PR 26
abbrev s_law : Stmt := top PR 27
def FN : List He.DefD := [dat "is_whole" s_is_whole, dat "common" s_common, dat "is_number" s_is_number, dat "show_number" s_show_number, dat "show_row" s_show_row, dat "figures_of" s_figures_of, dat "read_number" s_read_number, dat "read_row" s_read_row, dat "_law_bag" s_law_bag, dat "_law_take" s_law_take, dat "_law_low" s_law_low, dat "_law_number" s_law_number, dat "_law_is_number" s_law_is_number, dat "_law_is_row" s_law_is_row, dat "_law_number_text" s_law_number_text, dat "_law_row_text" s_law_row_text, dat "_law_any" s_law_any_2, dat "_law_number_right" s_law_number_right, dat "_law_row_right" s_law_row_right, dat "law" s_law]
def FA : List He.Fa := (.free "isinstance" :: .free "int" :: .free "bool" :: .free "abs" :: .free "tuple" :: .free "len" :: .free "str" :: .str "FIGURES" "0123456789" :: .int "LONGEST" 1000 :: .free "all" :: .free "list" :: .free "range" :: .glo "is_whole" :: .glo "common" :: .glo "is_number" :: .glo "show_number" :: .glo "show_row" :: .glo "figures_of" :: .glo "read_number" :: .glo "read_row" :: .glo "_law_bag" :: .glo "_law_take" :: .glo "_law_low" :: .glo "_law_number" :: .glo "_law_is_number" :: .glo "_law_is_row" :: .glo "_law_number_text" :: .glo "_law_row_text" :: .glo "_law_any" :: .glo "_law_number_right" :: .glo "_law_row_right" :: .glo "law" :: [])
def TB : List (Str × List He.Dv) := []
abbrev RO : PySem.W.OpenRow := PySem.W.OpenLaw.row PySem.Challenge.rw_helmsum_k91_numbers_and_rows_read
abbrev HK : PySem.W.Hook := hookY 4 FA FN TB
def OB (s : PySem.W.SharedT) : AlY := obY 4 FA FN TB s
def LO : List Str := ["SumError", "NoText", "is_whole", "common", "is_number", "FIGURES", "LONGEST", "show_number", "show_row", "figures_of", "read_number", "read_row", "_law_bag", "_law_take", "_law_low", "_law_number", "_law_is_number", "_law_is_row", "_law_number_text", "_law_row_text", "_law_any", "_law_number_right", "_law_row_right"]
theorem head_run (w : World) : HandSHeadRun.RunEq RO (PySem.W.view RO.prog [27]) HK OB 4000 LO w := by
  intro os
  kernel_rfl
inductive Sh where
  | lst | ins (c : Str) (nm : List Str) | dic (ks : List Key)
inductive P where
  | non | bl (b : Bool) | int (i : Int) | str (x : Str) | scr (is : List Int) | hol | tup (xs : List P) | nd (k : Bool) (sh : Sh) (xs : List P) | ow (k : Bool) (sh : Sh) (xs : List P)
abbrev P.lst (k : Bool) (xs : List P) : P := .nd k .lst xs
abbrev P.own (xs : List P) : P := .ow true .lst xs
def Sh.ob : Sh → List D → Ob
  | .lst, ds => .lst ds
  | .ins c nm, ds => .ins c (nm.zip ds)
  | .dic ks, ds => .dic (ks.zip ds)
def Sh.fit : Sh → Nat → Prop
  | .lst, _ => True
  | .ins _ nm, n => nm.length = n
  | .dic ks, n => ks.length = n
mutual
def noo : P → Bool
  | .tup xs => noos xs
  | .nd _ _ xs => noos xs
  | .ow _ _ _ => false
  | _ => true
def noos : List P → Bool
  | [] => true
  | x :: xs => noo x && noos xs
end
mutual
def nob : P → Bool
  | .tup xs => nobs xs
  | .nd k _ xs => k && nobs xs
  | .ow k _ xs => k && nobs xs
  | _ => true
def nobs : List P → Bool
  | [] => true
  | x :: xs => nob x && nobs xs
end
mutual
def fr : P → P
  | .tup xs => .tup (frs xs)
  | .nd k sh xs => .nd k sh (frs xs)
  | .ow k sh xs => .nd k sh (frs xs)
  | .non => .non
  | .bl b => .bl b
  | .int i => .int i
  | .str x => .str x
  | .scr x => .scr x
  | .hol => .hol
def frs : List P → List P
  | [] => []
  | x :: xs => fr x :: frs xs
end
mutual
def vw : P → P
  | .tup xs => .tup (vws xs)
  | .nd k sh xs => .nd false sh (vws xs)
  | .ow k sh xs => .nd false sh (vws xs)
  | .non => .non
  | .bl b => .bl b
  | .int i => .int i
  | .str x => .str x
  | .scr x => .scr x
  | .hol => .hol
def vws : List P → List P
  | [] => []
  | x :: xs => vw x :: vws xs
end
mutual
def vi : P → P
  | .tup xs => .tup (vis xs)
  | .nd k sh xs => .nd false sh (vis xs)
  | .ow k sh xs => .ow false sh (vis xs)
  | .non => .non
  | .bl b => .bl b
  | .int i => .int i
  | .str x => .str x
  | .scr x => .scr x
  | .hol => .hol
def vis : List P → List P
  | [] => []
  | x :: xs => vi x :: vis xs
end
section
variable (A : Nat → Prop) (lo : Nat) (S : Sto)
mutual
def VR : P → D → List Nat → Prop
  | .non, d, ns => d = .non ∧ ns = []
  | .bl b, d, ns => d = .bl b ∧ ns = []
  | .int i, d, ns => d = .int i ∧ ns = []
  | .str x, d, ns => d = .str x ∧ ns = []
  | .scr x, d, ns => d = .scr x ∧ ns = []
  | .hol, d, ns => ns = []
  | .tup xs, d, ns => ∃ ds, d = .tup ds ∧ VRs xs ds ns
  | .nd k sh xs, d, ns => ∃ n ds, d = .loc n ∧ S[n]? = some (sh.ob ds) ∧ sh.fit ds.length ∧ ¬ A n ∧ (k = true → lo ≤ n) ∧ VRs xs ds ns
  | .ow k sh xs, d, ns => ∃ n ds ms, d = .loc n ∧ S[n]? = some (sh.ob ds) ∧ sh.fit ds.length ∧ A n ∧ (k = true → lo ≤ n) ∧ ns = n :: ms ∧ VRs xs ds ms
def VRs : List P → List D → List Nat → Prop
  | [], ds, ns => ds = [] ∧ ns = []
  | x :: xs, ds, ns => ∃ d r n1 n2, ds = d :: r ∧ ns = n1 ++ n2 ∧ VR x d n1 ∧ VRs xs r n2
end
end
structure Step (T : List Nat) (A : Nat → Prop) (S : Sto) (A' : Nat → Prop) (S' : Sto) : Prop where
  len : S.length ≤ S'.length
  same : ∀ n, n < S.length → n ∉ T → S'[n]? = S[n]?
  av : ∀ n, n < S.length → n ∉ T → (A' n ↔ A n)
theorem Step.refl (T : List Nat) (A : Nat → Prop) (S : Sto) : Step T A S A S := ⟨Nat.le_refl _, fun _ _ _ => rfl, fun _ _ _ => Iff.rfl⟩
theorem Step.trans {T T1 : List Nat} {A A1 A2 : Nat → Prop} {S S1 S2 : Sto} (a : Step T A S A1 S1) (b : Step T1 A1 S1 A2 S2) (h : ∀ n ∈ T1, n ∈ T ∨ S.length ≤ n) : Step T A S A2 S2 := by
  have q : ∀ n, n < S.length → n ∉ T → n ∉ T1 := fun n h1 h2 h3 => by
    rcases h n h3 with z | z
    · exact h2 z
    · omega
  refine ⟨Nat.le_trans a.len b.len, fun n h1 h2 => ?_, fun n h1 h2 => ?_⟩
  · rw [b.same n (Nat.lt_of_lt_of_le h1 a.len) (q n h1 h2), a.same n h1 h2]
  · exact (b.av n (Nat.lt_of_lt_of_le h1 a.len) (q n h1 h2)).trans (a.av n h1 h2)
theorem Step.more {T T1 : List Nat} {A A' : Nat → Prop} {S S' : Sto} (a : Step T A S A' S') (h : ∀ n ∈ T, n ∈ T1) : Step T1 A S A' S' :=
  ⟨a.len, fun n h1 h2 => a.same n h1 fun z => h2 (h n z), fun n h1 h2 => a.av n h1 fun z => h2 (h n z)⟩
section
variable {A A' : Nat → Prop} {lo lo' : Nat} {S S' : Sto}
theorem lt_of_nth {α : Type} {S : List α} {n : Nat} {o : α} (h : S[n]? = some o) : n < S.length := (List.getElem?_eq_some_iff.mp h).1
mutual
theorem VR.gen (hF : ∀ n, n < S.length → ¬ A n → S'[n]? = S[n]? ∧ ¬ A' n) : ∀ (p : P) (d : D) (ns : List Nat), VR A lo S p d ns → lo' ≤ lo → (∀ n ∈ ns, S'[n]? = S[n]? ∧ A' n) → VR A' lo' S' p d ns
  | .non, _, _, h, _, _ => by rw [VR] at h ⊢; exact h
  | .bl _, _, _, h, _, _ => by rw [VR] at h ⊢; exact h
  | .int _, _, _, h, _, _ => by rw [VR] at h ⊢; exact h
  | .str _, _, _, h, _, _ => by rw [VR] at h ⊢; exact h
  | .scr _, _, _, h, _, _ => by rw [VR] at h ⊢; exact h
  | .hol, _, _, h, _, _ => by rw [VR] at h ⊢; exact h
  | .tup xs, d, ns, h, hl, hT => by
    rw [VR] at h ⊢
    obtain ⟨ds, e, h⟩ := h
    exact ⟨ds, e, VRs.gen hF xs ds ns h hl hT⟩
  | .nd k sh xs, d, ns, h, hl, hT => by
    rw [VR] at h ⊢
    obtain ⟨n, ds, e, h1, h2, h3, h4, h5⟩ := h
    obtain ⟨q1, q2⟩ := hF n (lt_of_nth h1) h3
    exact ⟨n, ds, e, by rw [q1]; exact h1, h2, q2, fun z => Nat.le_trans hl (h4 z), VRs.gen hF xs ds ns h5 hl hT⟩
  | .ow k sh xs, d, ns, h, hl, hT => by
    rw [VR] at h ⊢
    obtain ⟨n, ds, ms, e, h1, h2, h3, h4, h5, h6⟩ := h
    obtain ⟨q1, q2⟩ := hT n (by rw [h5]; exact List.mem_cons_self)
    exact ⟨n, ds, ms, e, by rw [q1]; exact h1, h2, q2, fun z => Nat.le_trans hl (h4 z), h5, VRs.gen hF xs ds ms h6 hl fun m hm => hT m (by rw [h5]; exact List.mem_cons_of_mem _ hm)⟩
theorem VRs.gen (hF : ∀ n, n < S.length → ¬ A n → S'[n]? = S[n]? ∧ ¬ A' n) : ∀ (p : List P) (d : List D) (ns : List Nat), VRs A lo S p d ns → lo' ≤ lo → (∀ n ∈ ns, S'[n]? = S[n]? ∧ A' n) → VRs A' lo' S' p d ns
  | [], _, _, h, _, _ => by rw [VRs] at h ⊢; exact h
  | x :: xs, ds, ns, h, hl, hT => by
    rw [VRs] at h ⊢
    obtain ⟨d, r, n1, n2, e1, e2, h1, h2⟩ := h
    exact ⟨d, r, n1, n2, e1, e2, VR.gen hF x d n1 h1 hl (fun n hn => hT n (by rw [e2]; exact List.mem_append_left _ hn)), VRs.gen hF xs r n2 h2 hl (fun n hn => hT n (by rw [e2]; exact List.mem_append_right _ hn))⟩
end
mutual
theorem VR.roots : ∀ (p : P) (d : D) (ns : List Nat), VR A lo S p d ns → ∀ n ∈ ns, A n ∧ n < S.length
  | .non, _, _, h => by rw [VR] at h; rw [h.2]; exact fun _ z => nomatch z
  | .bl _, _, _, h => by rw [VR] at h; rw [h.2]; exact fun _ z => nomatch z
  | .int _, _, _, h => by rw [VR] at h; rw [h.2]; exact fun _ z => nomatch z
  | .str _, _, _, h => by rw [VR] at h; rw [h.2]; exact fun _ z => nomatch z
  | .scr _, _, _, h => by rw [VR] at h; rw [h.2]; exact fun _ z => nomatch z
  | .hol, _, _, h => by rw [VR] at h; rw [h]; exact fun _ z => nomatch z
  | .tup xs, d, ns, h => by
    rw [VR] at h
    obtain ⟨ds, e, h⟩ := h
    exact VRs.roots xs ds ns h
  | .nd k sh xs, d, ns, h => by
    rw [VR] at h
    obtain ⟨n, ds, e, h1, h2, h3, h4, h5⟩ := h
    exact VRs.roots xs ds ns h5
  | .ow k sh xs, d, ns, h => by
    rw [VR] at h
    obtain ⟨n, ds, ms, e, h1, h2, h3, h4, h5, h6⟩ := h
    rw [h5]
    intro m hm
    rcases List.mem_cons.mp hm with rfl | hm
    · exact ⟨h3, lt_of_nth h1⟩
    · exact VRs.roots xs ds ms h6 m hm
theorem VRs.roots : ∀ (p : List P) (d : List D) (ns : List Nat), VRs A lo S p d ns → ∀ n ∈ ns, A n ∧ n < S.length
  | [], _, _, h => by rw [VRs] at h; rw [h.2]; exact fun _ z => nomatch z
  | x :: xs, ds, ns, h => by
    rw [VRs] at h
    obtain ⟨d, r, n1, n2, e1, e2, h1, h2⟩ := h
    rw [e2]
    intro m hm
    rcases List.mem_append.mp hm with hm | hm
    · exact VR.roots x d n1 h1 m hm
    · exact VRs.roots xs r n2 h2 m hm
end
mutual
theorem VR.noo : ∀ (p : P) (d : D) (ns : List Nat), VR A lo S p d ns → noo p = true → ns = []
  | .non, _, _, h, _ => by rw [VR] at h; exact h.2
  | .bl _, _, _, h, _ => by rw [VR] at h; exact h.2
  | .int _, _, _, h, _ => by rw [VR] at h; exact h.2
  | .str _, _, _, h, _ => by rw [VR] at h; exact h.2
  | .scr _, _, _, h, _ => by rw [VR] at h; exact h.2
  | .hol, _, _, h, _ => by rw [VR] at h; exact h
  | .tup xs, d, ns, h, z => by
    rw [VR] at h
    obtain ⟨ds, e, h⟩ := h
    exact VRs.noo xs ds ns h z
  | .nd k sh xs, d, ns, h, z => by
    rw [VR] at h
    obtain ⟨n, ds, e, h1, h2, h3, h4, h5⟩ := h
    exact VRs.noo xs ds ns h5 z
  | .ow k sh xs, d, ns, h, z => nomatch z
theorem VRs.noo : ∀ (p : List P) (d : List D) (ns : List Nat), VRs A lo S p d ns → noos p = true → ns = []
  | [], _, _, h, _ => by rw [VRs] at h; exact h.2
  | x :: xs, ds, ns, h, z => by
    rw [VRs] at h
    obtain ⟨d, r, n1, n2, e1, e2, h1, h2⟩ := h
    obtain ⟨z1, z2⟩ := Bool.and_eq_true_iff.mp z
    rw [e2, VR.noo x d n1 h1 z1, VRs.noo xs r n2 h2 z2]
    rfl
end
mutual
theorem VR.fr (hF : ∀ n, n < S.length → ¬ A n → ¬ A' n) : ∀ (p : P) (d : D) (ns : List Nat), VR A lo S p d ns → (∀ n ∈ ns, ¬ A' n) → VR A' lo S (fr p) d []
  | .non, _, _, h, _ => by rw [VR] at h; rw [Hm.fr, VR]; exact ⟨h.1, rfl⟩
  | .bl _, _, _, h, _ => by rw [VR] at h; rw [Hm.fr, VR]; exact ⟨h.1, rfl⟩
  | .int _, _, _, h, _ => by rw [VR] at h; rw [Hm.fr, VR]; exact ⟨h.1, rfl⟩
  | .str _, _, _, h, _ => by rw [VR] at h; rw [Hm.fr, VR]; exact ⟨h.1, rfl⟩
  | .scr _, _, _, h, _ => by rw [VR] at h; rw [Hm.fr, VR]; exact ⟨h.1, rfl⟩
  | .hol, _, _, h, _ => by rw [VR] at h; rw [Hm.fr, VR]
  | .tup xs, d, ns, h, hT => by
    rw [VR] at h; rw [Hm.fr, VR]
    obtain ⟨ds, e, h⟩ := h
    exact ⟨ds, e, VRs.fr hF xs ds ns h hT⟩
  | .nd k sh xs, d, ns, h, hT => by
    rw [VR] at h; rw [Hm.fr, VR]
    obtain ⟨n, ds, e, h1, h2, h3, h4, h5⟩ := h
    exact ⟨n, ds, e, h1, h2, hF n (lt_of_nth h1) h3, h4, VRs.fr hF xs ds ns h5 hT⟩
  | .ow k sh xs, d, ns, h, hT => by
    rw [VR] at h; rw [Hm.fr, VR]
    obtain ⟨n, ds, ms, e, h1, h2, h3, h4, h5, h6⟩ := h
    exact ⟨n, ds, e, h1, h2, hT n (by rw [h5]; exact List.mem_cons_self), h4, VRs.fr hF xs ds ms h6 fun m hm => hT m (by rw [h5]; exact List.mem_cons_of_mem _ hm)⟩
theorem VRs.fr (hF : ∀ n, n < S.length → ¬ A n → ¬ A' n) : ∀ (p : List P) (d : List D) (ns : List Nat), VRs A lo S p d ns → (∀ n ∈ ns, ¬ A' n) → VRs A' lo S (frs p) d []
  | [], _, _, h, _ => by rw [VRs] at h; rw [Hm.frs, VRs]; exact ⟨h.1, rfl⟩
  | x :: xs, ds, ns, h, hT => by
    rw [VRs] at h; rw [Hm.frs, VRs]
    obtain ⟨d, r, n1, n2, e1, e2, h1, h2⟩ := h
    exact ⟨d, r, [], [], e1, rfl, VR.fr hF x d n1 h1 (fun n hn => hT n (by rw [e2]; exact List.mem_append_left _ hn)), VRs.fr hF xs r n2 h2 (fun n hn => hT n (by rw [e2]; exact List.mem_append_right _ hn))⟩
end
mutual
theorem VR.vw (hF : ∀ n, n < S.length → ¬ A n → ¬ A' n) : ∀ (p : P) (d : D) (ns : List Nat), VR A lo S p d ns → (∀ n ∈ ns, ¬ A' n) → VR A' lo' S (vw p) d []
  | .non, _, _, h, _ => by rw [VR] at h; rw [Hm.vw, VR]; exact ⟨h.1, rfl⟩
  | .bl _, _, _, h, _ => by rw [VR] at h; rw [Hm.vw, VR]; exact ⟨h.1, rfl⟩
  | .int _, _, _, h, _ => by rw [VR] at h; rw [Hm.vw, VR]; exact ⟨h.1, rfl⟩
  | .str _, _, _, h, _ => by rw [VR] at h; rw [Hm.vw, VR]; exact ⟨h.1, rfl⟩
  | .scr _, _, _, h, _ => by rw [VR] at h; rw [Hm.vw, VR]; exact ⟨h.1, rfl⟩
  | .hol, _, _, h, _ => by rw [VR] at h; rw [Hm.vw, VR]
  | .tup xs, d, ns, h, hT => by
    rw [VR] at h; rw [Hm.vw, VR]
    obtain ⟨ds, e, h⟩ := h
    exact ⟨ds, e, VRs.vw hF xs ds ns h hT⟩
  | .nd k sh xs, d, ns, h, hT => by
    rw [VR] at h; rw [Hm.vw, VR]
    obtain ⟨n, ds, e, h1, h2, h3, h4, h5⟩ := h
    exact ⟨n, ds, e, h1, h2, hF n (lt_of_nth h1) h3, (fun z => nomatch z), VRs.vw hF xs ds ns h5 hT⟩
  | .ow k sh xs, d, ns, h, hT => by
    rw [VR] at h; rw [Hm.vw, VR]
    obtain ⟨n, ds, ms, e, h1, h2, h3, h4, h5, h6⟩ := h
    exact ⟨n, ds, e, h1, h2, hT n (by rw [h5]; exact List.mem_cons_self), (fun z => nomatch z), VRs.vw hF xs ds ms h6 fun m hm => hT m (by rw [h5]; exact List.mem_cons_of_mem _ hm)⟩
theorem VRs.vw (hF : ∀ n, n < S.length → ¬ A n → ¬ A' n) : ∀ (p : List P) (d : List D) (ns : List Nat), VRs A lo S p d ns → (∀ n ∈ ns, ¬ A' n) → VRs A' lo' S (vws p) d []
  | [], _, _, h, _ => by rw [VRs] at h; rw [Hm.vws, VRs]; exact ⟨h.1, rfl⟩
  | x :: xs, ds, ns, h, hT => by
    rw [VRs] at h; rw [Hm.vws, VRs]
    obtain ⟨d, r, n1, n2, e1, e2, h1, h2⟩ := h
    exact ⟨d, r, [], [], e1, rfl, VR.vw hF x d n1 h1 (fun n hn => hT n (by rw [e2]; exact List.mem_append_left _ hn)), VRs.vw hF xs r n2 h2 (fun n hn => hT n (by rw [e2]; exact List.mem_append_right _ hn))⟩
end
mutual
theorem VR.vi : ∀ (p : P) (d : D) (ns : List Nat), VR A lo S p d ns → VR A lo' S (vi p) d ns
  | .non, _, _, h => by rw [VR] at h; rw [Hm.vi, VR]; exact h
  | .bl _, _, _, h => by rw [VR] at h; rw [Hm.vi, VR]; exact h
  | .int _, _, _, h => by rw [VR] at h; rw [Hm.vi, VR]; exact h
  | .str _, _, _, h => by rw [VR] at h; rw [Hm.vi, VR]; exact h
  | .scr _, _, _, h => by rw [VR] at h; rw [Hm.vi, VR]; exact h
  | .hol, _, _, h => by rw [VR] at h; rw [Hm.vi, VR]; exact h
  | .tup xs, d, ns, h => by
    rw [VR] at h; rw [Hm.vi, VR]
    obtain ⟨ds, e, h⟩ := h
    exact ⟨ds, e, VRs.vi xs ds ns h⟩
  | .nd k sh xs, d, ns, h => by
    rw [VR] at h; rw [Hm.vi, VR]
    obtain ⟨n, ds, e, h1, h2, h3, h4, h5⟩ := h
    exact ⟨n, ds, e, h1, h2, h3, (fun z => nomatch z), VRs.vi xs ds ns h5⟩
  | .ow k sh xs, d, ns, h => by
    rw [VR] at h; rw [Hm.vi, VR]
    obtain ⟨n, ds, ms, e, h1, h2, h3, h4, h5, h6⟩ := h
    exact ⟨n, ds, ms, e, h1, h2, h3, (fun z => nomatch z), h5, VRs.vi xs ds ms h6⟩
theorem VRs.vi : ∀ (p : List P) (d : List D) (ns : List Nat), VRs A lo S p d ns → VRs A lo' S (vis p) d ns
  | [], _, _, h => by rw [VRs] at h; rw [Hm.vis, VRs]; exact h
  | x :: xs, ds, ns, h => by
    rw [VRs] at h; rw [Hm.vis, VRs]
    obtain ⟨d, r, n1, n2, e1, e2, h1, h2⟩ := h
    exact ⟨d, r, n1, n2, e1, e2, VR.vi x d n1 h1, VRs.vi xs r n2 h2⟩
end
mutual
theorem VR.up : ∀ (p : P) (d : D) (ns : List Nat), VR A lo S p d ns → nob p = true → (∀ n, n < S.length → lo ≤ n → ¬ A n → ¬ A' n) → (∀ n ∈ ns, lo ≤ n → A' n) → lo' ≤ lo → VR A' lo' S p d ns ∧ ∀ n ∈ ns, lo ≤ n
  | .non, _, _, h, _, _, _, _ => by rw [VR] at h ⊢; rw [h.2]; exact ⟨⟨h.1, rfl⟩, fun _ z => nomatch z⟩
  | .bl _, _, _, h, _, _, _, _ => by rw [VR] at h ⊢; rw [h.2]; exact ⟨⟨h.1, rfl⟩, fun _ z => nomatch z⟩
  | .int _, _, _, h, _, _, _, _ => by rw [VR] at h ⊢; rw [h.2]; exact ⟨⟨h.1, rfl⟩, fun _ z => nomatch z⟩
  | .str _, _, _, h, _, _, _, _ => by rw [VR] at h ⊢; rw [h.2]; exact ⟨⟨h.1, rfl⟩, fun _ z => nomatch z⟩
  | .scr _, _, _, h, _, _, _, _ => by rw [VR] at h ⊢; rw [h.2]; exact ⟨⟨h.1, rfl⟩, fun _ z => nomatch z⟩
  | .hol, _, _, h, _, _, _, _ => by rw [VR] at h ⊢; rw [h]; exact ⟨rfl, fun _ z => nomatch z⟩
  | .tup xs, d, ns, h, hb, hF, hO, hl => by
    rw [VR] at h ⊢
    obtain ⟨ds, e, h⟩ := h
    obtain ⟨q1, q2⟩ := VRs.up xs ds ns h hb hF hO hl
    exact ⟨⟨ds, e, q1⟩, q2⟩
  | .nd k sh xs, d, ns, h, hb, hF, hO, hl => by
    rw [VR] at h ⊢
    obtain ⟨hk, hb⟩ := Bool.and_eq_true_iff.mp (show (k && nobs xs) = true from hb)
    obtain ⟨n, ds, e, h1, h2, h3, h4, h5⟩ := h
    obtain ⟨q1, q2⟩ := VRs.up xs ds ns h5 hb hF hO hl
    exact ⟨⟨n, ds, e, h1, h2, hF n (lt_of_nth h1) (h4 hk) h3, fun _ => Nat.le_trans hl (h4 hk), q1⟩, q2⟩
  | .ow k sh xs, d, ns, h, hb, hF, hO, hl => by
    rw [VR] at h ⊢
    obtain ⟨hk, hb⟩ := Bool.and_eq_true_iff.mp (show (k && nobs xs) = true from hb)
    obtain ⟨n, ds, ms, e, h1, h2, h3, h4, h5, h6⟩ := h
    obtain ⟨q1, q2⟩ := VRs.up xs ds ms h6 hb hF (fun m hm => hO m (by rw [h5]; exact List.mem_cons_of_mem _ hm)) hl
    refine ⟨⟨n, ds, ms, e, h1, h2, hO n (by rw [h5]; exact List.mem_cons_self) (h4 hk), fun _ => Nat.le_trans hl (h4 hk), h5, q1⟩, fun m hm => ?_⟩
    rw [h5] at hm
    rcases List.mem_cons.mp hm with rfl | hm
    · exact h4 hk
    · exact q2 m hm
theorem VRs.up : ∀ (p : List P) (d : List D) (ns : List Nat), VRs A lo S p d ns → nobs p = true → (∀ n, n < S.length → lo ≤ n → ¬ A n → ¬ A' n) → (∀ n ∈ ns, lo ≤ n → A' n) → lo' ≤ lo → VRs A' lo' S p d ns ∧ ∀ n ∈ ns, lo ≤ n
  | [], _, _, h, _, _, _, _ => by rw [VRs] at h ⊢; rw [h.2]; exact ⟨⟨h.1, rfl⟩, fun _ z => nomatch z⟩
  | x :: xs, ds, ns, h, hb, hF, hO, hl => by
    rw [VRs] at h ⊢
    obtain ⟨d, r, n1, n2, e1, e2, h1, h2⟩ := h
    obtain ⟨b1, b2⟩ := Bool.and_eq_true_iff.mp (show (nob x && nobs xs) = true from hb)
    obtain ⟨q1, q2⟩ := VR.up x d n1 h1 b1 hF (fun n hn => hO n (by rw [e2]; exact List.mem_append_left _ hn)) hl
    obtain ⟨q3, q4⟩ := VRs.up xs r n2 h2 b2 hF (fun n hn => hO n (by rw [e2]; exact List.mem_append_right _ hn)) hl
    refine ⟨⟨d, r, n1, n2, e1, e2, q1, q3⟩, fun n hn => ?_⟩
    rw [e2] at hn
    rcases List.mem_append.mp hn with hn | hn
    · exact q2 n hn
    · exact q4 n hn
end
theorem VR.step {T : List Nat} (st : Step T A S A' S') (hT : ∀ n ∈ T, A n) {p : P} {d : D} {ns : List Nat} (h : VR A lo S p d ns) (hd : ∀ n ∈ ns, n ∉ T) : VR A' lo S' p d ns :=
  have q : ∀ n, ¬ A n → n ∉ T := fun n h1 h2 => h1 (hT n h2)
  VR.gen (fun n h1 h2 => ⟨st.same n h1 (q n h2), fun h3 => h2 ((st.av n h1 (q n h2)).mp h3)⟩) p d ns h (Nat.le_refl _) fun n hn => ⟨st.same n (VR.roots p d ns h n hn).2 (hd n hn), (st.av n (VR.roots p d ns h n hn).2 (hd n hn)).mpr (VR.roots p d ns h n hn).1⟩
theorem VRs.step {T : List Nat} (st : Step T A S A' S') (hT : ∀ n ∈ T, A n) {p : List P} {d : List D} {ns : List Nat} (h : VRs A lo S p d ns) (hd : ∀ n ∈ ns, n ∉ T) : VRs A' lo S' p d ns :=
  have q : ∀ n, ¬ A n → n ∉ T := fun n h1 h2 => h1 (hT n h2)
  VRs.gen (fun n h1 h2 => ⟨st.same n h1 (q n h2), fun h3 => h2 ((st.av n h1 (q n h2)).mp h3)⟩) p d ns h (Nat.le_refl _) fun n hn => ⟨st.same n (VRs.roots p d ns h n hn).2 (hd n hn), (st.av n (VRs.roots p d ns h n hn).2 (hd n hn)).mpr (VRs.roots p d ns h n hn).1⟩
end
abbrev VEnv := List (Option P)
structure Xv where
  cls : Str
  fld : Option (Str × P)
inductive Vr (α : Type) where
  | ok (a : α) (ρ : VEnv) | exc (x : Xv) (ρ : VEnv) | bad
def Vr.bind {α β : Type} (v : Vr α) (f : α → VEnv → Vr β) : Vr β := match v with
  | .ok a ρ => f a ρ
  | .exc x ρ => .exc x ρ
  | .bad => .bad
abbrev VE := VEnv → Vr P
abbrev VA := VEnv → Vr (List P)
abbrev VT := VEnv → Vr Bool
def SlotR (A : Nat → Prop) (lo : Nat) (S : Sto) (o : Option P) (x : Option D) (ns : List Nat) : Prop := match o with
  | none => ns = []
  | some p => ∃ d, x = some d ∧ VR A lo S p d ns
def EnvR (A : Nat → Prop) (lo : Nat) (S : Sto) : VEnv → Ev → List Nat → Prop
  | [], r, ns => r = [] ∧ ns = []
  | o :: ρ, r, ns => ∃ x r' n1 n2, r = x :: r' ∧ ns = n1 ++ n2 ∧ SlotR A lo S o x n1 ∧ EnvR A lo S ρ r' n2
section
variable {A A' : Nat → Prop} {lo lo' : Nat} {S S' : Sto}
theorem SlotR.roots {o : Option P} {x : Option D} {ns : List Nat} (h : SlotR A lo S o x ns) : ∀ n ∈ ns, A n ∧ n < S.length := by
  cases o with
  | none => rw [show ns = [] from h]; exact fun _ z => nomatch z
  | some p =>
    obtain ⟨d, _, h⟩ := h
    exact VR.roots p d ns h
theorem SlotR.step {T : List Nat} (st : Step T A S A' S') (hT : ∀ n ∈ T, A n) {o : Option P} {x : Option D} {ns : List Nat} (h : SlotR A lo S o x ns) (hd : ∀ n ∈ ns, n ∉ T) : SlotR A' lo S' o x ns := by
  cases o with
  | none => exact h
  | some p =>
    obtain ⟨d, e, h⟩ := h
    exact ⟨d, e, VR.step st hT h hd⟩
theorem EnvR.roots : ∀ {ρ : VEnv} {r : Ev} {ns : List Nat}, EnvR A lo S ρ r ns → ∀ n ∈ ns, A n ∧ n < S.length
  | [], _, _, h => by rw [h.2]; exact fun _ z => nomatch z
  | o :: ρ, r, ns, h => by
    obtain ⟨x, r', n1, n2, e1, e2, h1, h2⟩ := h
    rw [e2]
    intro n hn
    rcases List.mem_append.mp hn with hn | hn
    · exact h1.roots n hn
    · exact EnvR.roots h2 n hn
theorem EnvR.step {T : List Nat} (st : Step T A S A' S') (hT : ∀ n ∈ T, A n) : ∀ {ρ : VEnv} {r : Ev} {ns : List Nat}, EnvR A lo S ρ r ns → (∀ n ∈ ns, n ∉ T) → EnvR A' lo S' ρ r ns
  | [], _, _, h, _ => h
  | o :: ρ, r, ns, h, hd => by
    obtain ⟨x, r', n1, n2, e1, e2, h1, h2⟩ := h
    exact ⟨x, r', n1, n2, e1, e2, h1.step st hT (fun n hn => hd n (by rw [e2]; exact List.mem_append_left _ hn)), EnvR.step st hT h2 (fun n hn => hd n (by rw [e2]; exact List.mem_append_right _ hn))⟩
theorem EnvR.length : ∀ {ρ : VEnv} {r : Ev} {ns : List Nat}, EnvR A lo S ρ r ns → r.length = ρ.length
  | [], _, _, h => by rw [h.1]; rfl
  | o :: ρ, r, ns, h => by
    obtain ⟨x, r', n1, n2, e1, e2, h1, h2⟩ := h
    rw [e1, List.length_cons, List.length_cons, EnvR.length h2]
theorem EnvR.focus : ∀ {ρ : VEnv} {r : Ev} {T : List Nat} (i : Nat) {o : Option P}, EnvR A lo S ρ r T → ρ[i]? = some o → ∃ a b c x, T = a ++ (b ++ c) ∧ r[i]? = some x ∧ SlotR A lo S o x b ∧
    ∀ o' x' m, SlotR A lo S o' x' m → EnvR A lo S (ρ.set i o') (r.set i x') (a ++ (m ++ c))
  | [], _, _, _, _, _, e => nomatch e
  | o :: ρ, r, T, 0, o1, h, e => by
    obtain ⟨x, r', n1, n2, e1, e2, h1, h2⟩ := h
    cases e
    subst e1
    exact ⟨[], n1, n2, x, e2, rfl, h1, fun o' x' m h => ⟨x', r', m, n2, rfl, rfl, h, h2⟩⟩
  | o :: ρ, r, T, i + 1, o1, h, e => by
    obtain ⟨x, r', n1, n2, e1, e2, h1, h2⟩ := h
    obtain ⟨a, b, c, y, q1, q2, q3, q4⟩ := EnvR.focus (ρ := ρ) i h2 (o := o1) (by simpa using e)
    subst e1
    refine ⟨n1 ++ a, b, c, y, by rw [e2, q1, List.append_assoc], by simpa using q2, q3, fun o' x' m h => ?_⟩
    exact ⟨x, r'.set i x', n1, a ++ (m ++ c), rfl, by rw [List.append_assoc], h1, q4 o' x' m h⟩
end
structure Cur (A : Nat → Prop) (lo : Nat) (S : Sto) (ρ : VEnv) (r : Ev) (T : List Nat) : Prop where
  env : EnvR A lo S ρ r T
  nd : T.Nodup
  bd : ∀ n, A n → n < S.length
  lo : lo ≤ S.length
structure Out (T : List Nat) (A : Nat → Prop) (S : Sto) (A' : Nat → Prop) (S' : Sto) (U : List Nat) : Prop where
  st : Step T A S A' S'
  sub : ∀ n ∈ U, n ∈ T ∨ S.length ≤ n
  nd : U.Nodup
  bd : ∀ n, A' n → n < S'.length
theorem Out.refl {T : List Nat} {A : Nat → Prop} {S : Sto} (nd : T.Nodup) (bd : ∀ n, A n → n < S.length) : Out T A S A S T := ⟨Step.refl _ _ _, fun _ h => .inl h, nd, bd⟩
theorem Out.trans {T T1 U : List Nat} {A A1 A2 : Nat → Prop} {S S1 S2 : Sto} (a : Out T A S A1 S1 T1) (b : Out T1 A1 S1 A2 S2 U) : Out T A S A2 S2 U :=
  ⟨a.st.trans b.st a.sub, fun n hn => by
    rcases b.sub n hn with h | h
    · exact a.sub n h
    · exact .inr (Nat.le_trans a.st.len h), b.nd, b.bd⟩
theorem Out.less {T U V : List Nat} {A A' : Nat → Prop} {S S' : Sto} (a : Out T A S A' S' U) (h : ∀ n ∈ V, n ∈ U) (nd : V.Nodup) : Out T A S A' S' V :=
  ⟨a.st, fun n hn => a.sub n (h n hn), nd, a.bd⟩
theorem Out.held {T U H : List Nat} {A A' : Nat → Prop} {S S' : Sto} (a : Out T A S A' S' U) (h : (H ++ T).Nodup) (hl : ∀ n ∈ H, n < S.length) : Out (H ++ T) A S A' S' (H ++ U) := by
  obtain ⟨h1, h2, h3⟩ := List.nodup_append.mp h
  refine ⟨a.st.more fun n hn => List.mem_append_right _ hn, fun n hn => ?_, List.nodup_append.mpr ⟨h1, a.nd, fun x hx y hy => ?_⟩, a.bd⟩
  · rcases List.mem_append.mp hn with q | q
    · exact .inl (List.mem_append_left _ q)
    · exact (a.sub n q).imp (List.mem_append_right _) id
  · rcases a.sub y hy with q | q
    · exact h3 x hx y q
    · have := hl x hx
      omega
def GoodX (A : Nat → Prop) (lo : Nat) (S : Sto) (x : Xv) (e : Ex) : Prop := e.cls = x.cls ∧ match x.fld, e.fld with
  | none, none => True
  | some (f, p), some (g, d) => f = g ∧ VR A lo S p d []
  | _, _ => False
theorem GoodX.step {A A' : Nat → Prop} {lo : Nat} {S S' : Sto} {T : List Nat} (st : Step T A S A' S') (hT : ∀ n ∈ T, A n) {x : Xv} {e : Ex} (h : GoodX A lo S x e) : GoodX A' lo S' x e := by
  refine ⟨h.1, ?_⟩
  have h2 := h.2
  revert h2
  split
  · exact id
  · exact fun h => ⟨h.1, VR.step st hT h.2 fun _ z => nomatch z⟩
  · exact id
abbrev Vl (α δ : Type) := (Nat → Prop) → Nat → Sto → α → δ → List Nat → Prop
structure Stays {α δ : Type} (V : Vl α δ) : Prop where
  step : ∀ {A A' : Nat → Prop} {lo : Nat} {S S' : Sto} {T : List Nat}, Step T A S A' S' → (∀ n ∈ T, A n) → ∀ {p : α} {d : δ} {ns : List Nat}, V A lo S p d ns → (∀ n ∈ ns, n ∉ T) → V A' lo S' p d ns
  roots : ∀ {A : Nat → Prop} {lo : Nat} {S : Sto} {p : α} {d : δ} {ns : List Nat}, V A lo S p d ns → ∀ n ∈ ns, A n ∧ n < S.length
theorem stP : Stays VR := ⟨fun st hT _ _ _ h hd => VR.step st hT h hd, fun h => VR.roots _ _ _ h⟩
def VB : Vl Bool Bool := fun _ _ _ a b ns => a = b ∧ ns = []
theorem stB : Stays VB := ⟨fun _ _ _ _ _ h _ => h, fun h n hn => by rw [h.2] at hn; cases hn⟩
def PoE {α δ : Type} (V : Vl α δ) (lo : Nat) (T : List Nat) (A : Nat → Prop) (S : Sto) (r : Ev) (h : Rs δ) (v : Vr α) : Prop := match v with
  | .ok p ρ' => ∃ d S' A' T' ns, h = .ok d S' ∧ EnvR A' lo S' ρ' r T' ∧ V A' lo S' p d ns ∧ Out T A S A' S' (ns ++ T')
  | .exc x ρ' => ∃ e S' A' T', h = .exc e S' ∧ EnvR A' lo S' ρ' r T' ∧ GoodX A' lo S' x e ∧ Out T A S A' S' T'
  | .bad => True
def SimG {α δ : Type} (V : Vl α δ) (e : Ev → Sto → Rs δ) (v : VEnv → Vr α) : Prop := ∀ A lo S ρ r T, Cur A lo S ρ r T → PoE V lo T A S r (e r S) (v ρ)
abbrev SimE (e : DE) (v : VE) : Prop := SimG VR e v
abbrev SimA (e : DA) (v : VA) : Prop := SimG VRs e v
abbrev SimT (e : DB) (v : VT) : Prop := SimG VB e v
section
variable {α δ β ε : Type} {V : Vl α δ} {V' : Vl β ε}
theorem PoE.from {lo : Nat} {T T1 : List Nat} {A A1 : Nat → Prop} {S S1 : Sto} {r : Ev} {h : Rs δ} {v : Vr α} (o : Out T A S A1 S1 T1) (p : PoE V lo T1 A1 S1 r h v) : PoE V lo T A S r h v := by
  cases v with
  | ok p ρ' =>
    obtain ⟨d, S', A', T', ns, e, h1, h2, h3⟩ := p
    exact ⟨d, S', A', T', ns, e, h1, h2, o.trans h3⟩
  | exc x ρ' =>
    obtain ⟨d, S', A', T', e, h1, h2, h3⟩ := p
    exact ⟨d, S', A', T', e, h1, h2, o.trans h3⟩
  | bad => trivial
theorem Out.cur {T U V : List Nat} {A A' : Nat → Prop} {S S' : Sto} {lo : Nat} {ρ : VEnv} {r : Ev} (o : Out T A S A' S' (U ++ V)) (hl : lo ≤ S.length) (h : EnvR A' lo S' ρ r V) : Cur A' lo S' ρ r V :=
  ⟨h, (List.nodup_append.mp o.nd).2.1, o.bd, Nat.le_trans hl o.st.len⟩
theorem sim_bind {e : Ev → Sto → Rs δ} {v : VEnv → Vr α} {f : δ → Sto → Rs ε} {g : α → VEnv → Vr β} (h : SimG V e v) {A : Nat → Prop} {lo : Nat} {S : Sto} {ρ : VEnv} {r : Ev} {T : List Nat} (C : Cur A lo S ρ r T)
    (k : ∀ A1 S1 ρ1 T1 p d ns, Cur A1 lo S1 ρ1 r T1 → V A1 lo S1 p d ns → (ns ++ T1).Nodup → Out T A S A1 S1 (ns ++ T1) → PoE V' lo (ns ++ T1) A1 S1 r (f d S1) (g p ρ1)) : PoE V' lo T A S r ((e r S).bind f) ((v ρ).bind g) := by
  have q := h A lo S ρ r T C
  revert q
  cases v ρ with
  | ok p ρ1 =>
    rintro ⟨d, S1, A1, T1, ns, e1, h1, h2, h3⟩
    rw [e1]
    exact PoE.from h3 (k A1 S1 ρ1 T1 p d ns (h3.cur C.lo h1) h2 h3.nd h3)
  | exc x ρ1 =>
    rintro ⟨d, S1, A1, T1, e1, h1, h2, h3⟩
    rw [e1]
    exact ⟨d, S1, A1, T1, rfl, h1, h2, h3⟩
  | bad => exact fun _ => trivial
theorem PoE.held {γ ζ : Type} {Y : Vl γ ζ} (sY : Stays Y) {lo : Nat} {T H : List Nat} {A : Nat → Prop} {S : Sto} {r : Ev} {e : Rs δ} {v : Vr α} {y : γ} {z : ζ} {f : δ → Sto → Rs ε} {g : α → VEnv → Vr β} (p : PoE V lo T A S r e v) (hT : ∀ n ∈ T, A n) (hy : Y A lo S y z H) (nd : (H ++ T).Nodup) (hlo : lo ≤ S.length)
    (k : ∀ A1 S1 ρ1 T1 p d ns, Cur A1 lo S1 ρ1 r T1 → V A1 lo S1 p d ns → Y A1 lo S1 y z H → (H ++ (ns ++ T1)).Nodup → Step T A S A1 S1 → PoE V' lo (H ++ (ns ++ T1)) A1 S1 r (f d S1) (g p ρ1)) : PoE V' lo (H ++ T) A S r (e.bind f) (v.bind g) := by
  have hH : ∀ n ∈ H, n ∉ T := fun n h1 h2 => (List.nodup_append.mp nd).2.2 n h1 n h2 rfl
  have hHl : ∀ n ∈ H, n < S.length := fun n hn => (sY.roots hy n hn).2
  cases v with
  | ok p1 ρ1 =>
    obtain ⟨d, S1, A1, T1, ns, e1, h1, h2, h3⟩ := p
    rw [e1]
    have o := h3.held nd hHl
    exact PoE.from o (k A1 S1 ρ1 T1 p1 d ns (h3.cur hlo h1) h2 (sY.step h3.st hT hy hH) o.nd h3.st)
  | exc x ρ1 =>
    obtain ⟨d, S1, A1, T1, e1, h1, h2, h3⟩ := p
    rw [e1]
    have o := h3.held nd hHl
    exact ⟨d, S1, A1, T1, rfl, h1, h2, o.less (fun n hn => List.mem_append_right _ hn) h3.nd⟩
  | bad => trivial
end
theorem Cur.rootsA {A : Nat → Prop} {lo : Nat} {S : Sto} {ρ : VEnv} {r : Ev} {T : List Nat} (C : Cur A lo S ρ r T) : ∀ n ∈ T, A n := fun n hn => (C.env.roots n hn).1
def vN : VA := fun ρ => .ok [] ρ
def vK (a : VE) (b : VA) : VA := fun ρ => (a ρ).bind fun x ρ1 => (b ρ1).bind fun xs ρ2 => .ok (x :: xs) ρ2
theorem sim_nil : SimA dN vN := fun A lo S ρ r T C => ⟨[], S, A, T, [], rfl, C.env, ⟨rfl, rfl⟩, Out.refl C.nd C.bd⟩
theorem sim_cons {a : DE} {b : DA} {va : VE} {vb : VA} (ha : SimE a va) (hb : SimA b vb) : SimA (dK a b) (vK va vb) := fun A lo S ρ r T C =>
  sim_bind ha C fun A1 S1 ρ1 T1 p d ns C1 h1 nd1 _ =>
    PoE.held stP (hb A1 lo S1 ρ1 r T1 C1) C1.rootsA h1 nd1 C1.lo fun A2 S2 ρ2 T2 ps ds ms C2 h2 h3 nd2 _ =>
      ⟨d :: ds, S2, A2, T2, ns ++ ms, rfl, C2.env, ⟨d, ds, ns, ms, rfl, rfl, h3, h2⟩, by rw [List.append_assoc]; exact Out.refl nd2 C2.bd⟩
def OpN (g : List D → Sto → Rs D) (op : List P → Option P) : Prop := ∀ A lo S ps ds ns x, VRs A lo S ps ds ns → ns.Nodup → (∀ n, A n → n < S.length) → lo ≤ S.length → op ps = some x →
  ∃ d S' A' ks, g ds S = .ok d S' ∧ VR A' lo S' x d ks ∧ Out ns A S A' S' ks ∧ Step [] A S A' S'
def vCal (op : List P → Option P) (a : VA) : VE := fun ρ => (a ρ).bind fun xs ρ1 => match op xs with
  | some x => .ok x ρ1
  | none => .bad
theorem nil_disj {T : List Nat} : ∀ n ∈ T, n ∉ ([] : List Nat) := fun _ _ z => nomatch z
theorem sim_cal {g : List D → Sto → Rs D} {op : List P → Option P} {a : DA} {va : VA} (hg : OpN g op) (ha : SimA a va) : SimE (cal g a) (vCal op va) := fun A lo S ρ r T C =>
  sim_bind ha C fun A1 S1 ρ1 T1 ps ds ns C1 h1 nd1 _ => by
    cases e : op ps with
    | none => trivial
    | some x =>
      obtain ⟨q1, q2, q3⟩ := List.nodup_append.mp nd1
      obtain ⟨d, S2, A2, ks, e1, h2, o, st⟩ := hg A1 lo S1 ps ds ns x h1 q1 C1.bd C1.lo e
      refine ⟨d, S2, A2, T1, ks, by rw [e1]; rfl, C1.env.step st (fun _ z => nomatch z) nil_disj, h2, ⟨o.st.more fun n hn => List.mem_append_left _ hn, fun n hn => ?_, List.nodup_append.mpr ⟨o.nd, q2, fun x hx y hy => ?_⟩, o.bd⟩⟩
      · rcases List.mem_append.mp hn with z | z
        · exact (o.sub n z).imp (List.mem_append_left _) id
        · exact .inl (List.mem_append_right _ z)
      · rcases o.sub x hx with z | z
        · exact q3 x z y hy
        · have := (C1.env.roots y hy).2
          omega
theorem bin_eq (g : D → D → Sto → Rs D) (a b : DE) : bin g a b = cal (fun xs S => match xs with
    | [x, y] => g x y S
    | _ => .bad) (dK a (dK b dN)) := by
  funext r S
  unfold bin cal dK dN
  cases a r S with
  | ok x S1 =>
    show ((b r S1).bind fun y S2 => (g x y S2).nox) = _
    cases h : b r S1 with
    | ok y S2 => simp only [Rs.bind, h]
    | _ => simp only [Rs.bind, h]
  | _ => rfl
theorem una_eq (g : D → Sto → Rs D) (a : DE) : una g a = cal (fun xs S => match xs with
    | [x] => g x S
    | _ => .bad) (dK a dN) := by
  funext r S
  unfold una cal dK dN
  cases a r S <;> rfl
abbrev Op2 (g : D → D → Sto → Rs D) (op : List P → Option P) : Prop := OpN (fun xs S => match xs with
    | [x, y] => g x y S
    | _ => .bad) op
abbrev Op1 (g : D → Sto → Rs D) (op : List P → Option P) : Prop := OpN (fun xs S => match xs with
    | [x] => g x S
    | _ => .bad) op
def vBi (op : List P → Option P) (a b : VE) : VE := fun ρ => vCal op (vK a (vK b vN)) ρ
def vUn (op : List P → Option P) (a : VE) : VE := fun ρ => vCal op (vK a vN) ρ
theorem sim_bin {g : D → D → Sto → Rs D} {op : List P → Option P} {a b : DE} {va vb : VE} (hg : Op2 g op) (ha : SimE a va) (hb : SimE b vb) : SimE (bin g a b) (vBi op va vb) := by
  rw [bin_eq]
  exact sim_cal hg (sim_cons ha (sim_cons hb sim_nil))
theorem sim_una {g : D → Sto → Rs D} {op : List P → Option P} {a : DE} {va : VE} (hg : Op1 g op) (ha : SimE a va) : SimE (una g a) (vUn op va) := by
  rw [una_eq]
  exact sim_cal hg (sim_cons ha sim_nil)
def vV (i : Nat) : VE := fun ρ => match ρ[i]? with
  | some (some p) => if noo p = true then .ok p ρ else .ok (fr p) (ρ.set i (some (fr p)))
  | _ => .bad
def vMv (i : Nat) : VE := fun ρ => match ρ[i]? with
  | some (some p) => .ok p (ρ.set i none)
  | _ => .bad
def vC (p : P) : VE := fun ρ => .ok p ρ
theorem set_self {α : Type} {r : List α} {i : Nat} {x : α} (h : r[i]? = some x) : r.set i x = r := by
  obtain ⟨hl, e⟩ := List.getElem?_eq_some_iff.mp h
  rw [← e]
  exact List.set_getElem_self hl
theorem nd_mid {a b c : List Nat} (h : (a ++ (b ++ c)).Nodup) : (b ++ (a ++ c)).Nodup := by
  have p : (a ++ (b ++ c)).Perm (b ++ (a ++ c)) := by
    rw [← List.append_assoc, ← List.append_assoc]
    exact List.Perm.append_right c List.perm_append_comm
  exact p.nodup h
theorem mem_mid {a b c : List Nat} {n : Nat} (h : n ∈ b ++ (a ++ c)) : n ∈ a ++ (b ++ c) := by
  simp only [List.mem_append] at h ⊢
  rcases h with h | h | h
  · exact .inr (.inl h)
  · exact .inl h
  · exact .inr (.inr h)
theorem sim_var (i : Nat) : SimE (dV i) (vV i) := by
  intro A lo S ρ r T C
  unfold vV
  split
  · rename_i p e
    obtain ⟨a, b, c, x, eT, er, ⟨d, ex, h⟩, put⟩ := C.env.focus i e
    subst ex
    have ed : dV i r S = .ok d S := by
      unfold dV
      rw [er]
    split
    · rename_i hp
      refine ⟨d, S, A, T, [], ed, C.env, ?_, Out.refl C.nd C.bd⟩
      have z := VR.noo p d b h hp
      rw [z] at h
      exact h
    · have hF : ∀ n, n < S.length → ¬ A n → ¬ (A n ∧ n ∉ b) := fun n _ h1 h2 => h1 h2.1
      have hf : VR (fun n => A n ∧ n ∉ b) lo S (fr p) d [] := VR.fr hF p d b h fun n hn hz => hz.2 hn
      have st : Step b A S (fun n => A n ∧ n ∉ b) S := ⟨Nat.le_refl _, fun _ _ _ => rfl, fun n _ hn => ⟨And.left, fun z => ⟨z, hn⟩⟩⟩
      have e0 := put none (some d) [] rfl
      have nd := nd_mid (eT ▸ C.nd)
      have e1 : EnvR (fun n => A n ∧ n ∉ b) lo S (ρ.set i none) (r.set i (some d)) (a ++ ([] ++ c)) := e0.step st (fun n hn => (VR.roots p d b h n hn).1) fun n hn hb => (List.nodup_append.mp nd).2.2 n hb n (by simpa using hn) rfl
      obtain ⟨a1, b1, c1, x1, q1, q2, q3, put1⟩ := e1.focus i (List.getElem?_set_self (by exact (List.getElem?_eq_some_iff.mp e).1))
      have e2 := put1 (some (fr p)) (some d) [] ⟨d, rfl, hf⟩
      rw [List.set_set, List.set_set, set_self er] at e2
      have q3 : b1 = [] := q3
      subst q3
      rw [← q1] at e2
      refine ⟨d, S, _, _, [], ed, e2, hf, ⟨st.more fun n hn => by rw [eT]; simp [hn], fun n hn => .inl (by rw [eT]; simp at hn ⊢; rcases hn with hn | hn <;> simp [hn]), ?_, fun n hn => C.bd n hn.1⟩⟩
      exact (List.nodup_append.mp nd).2.1
  · trivial
theorem sim_mv (i : Nat) : SimE (dV i) (vMv i) := by
  intro A lo S ρ r T C
  unfold vMv
  split
  · rename_i p e
    obtain ⟨a, b, c, x, eT, er, ⟨d, ex, h⟩, put⟩ := C.env.focus i e
    subst ex
    have ed : dV i r S = .ok d S := by
      unfold dV
      rw [er]
    have e0 := put none (some d) [] rfl
    rw [set_self er] at e0
    have nd := nd_mid (eT ▸ C.nd)
    exact ⟨d, S, A, _, b, ed, e0, h, ⟨Step.refl _ _ _, fun n hn => .inl (by rw [eT]; exact mem_mid hn), nd, C.bd⟩⟩
  · trivial
theorem sim_con {p : P} {d : D} (h : ∀ A lo S, VR A lo S p d []) : SimE (dC d) (vC p) := fun A lo S ρ r T C => ⟨d, S, A, T, [], rfl, C.env, h A lo S, Out.refl C.nd C.bd⟩
theorem sim_int {i : Int} : SimE (dC (.int i)) (vC (.int i)) := sim_con fun _ _ _ => ⟨rfl, rfl⟩
theorem sim_bl {i : Bool} : SimE (dC (.bl i)) (vC (.bl i)) := sim_con fun _ _ _ => ⟨rfl, rfl⟩
theorem sim_str {i : Str} : SimE (dC (.str i)) (vC (.str i)) := sim_con fun _ _ _ => ⟨rfl, rfl⟩
theorem sim_non : SimE (dC .non) (vC .non) := sim_con fun _ _ _ => ⟨rfl, rfl⟩
section
variable {A : Nat → Prop} {lo : Nat} {S : Sto}
theorem VRs.inv1 {x : P} {ds : List D} {ns : List Nat} (h : VRs A lo S [x] ds ns) : ∃ d, ds = [d] ∧ VR A lo S x d ns := by
  obtain ⟨d, r, n1, n2, e1, e2, h1, h2, h3⟩ := h
  subst h2 h3 e1
  exact ⟨d, rfl, by rw [e2, List.append_nil]; exact h1⟩
theorem VRs.inv2 {x y : P} {ds : List D} {ns : List Nat} (h : VRs A lo S [x, y] ds ns) : ∃ d e n1 n2, ds = [d, e] ∧ ns = n1 ++ n2 ∧ VR A lo S x d n1 ∧ VR A lo S y e n2 := by
  obtain ⟨d, r, n1, n2, e1, e2, h1, h2⟩ := h
  obtain ⟨e, rfl, h3⟩ := VRs.inv1 h2
  exact ⟨d, e, n1, n2, e1, e2, h1, h3⟩
end
theorem opn_sc {g : List D → Sto → Rs D} {op : List P → Option P} (h : ∀ A lo S ps ds ns x, VRs A lo S ps ds ns → op ps = some x → ∃ d, g ds S = .ok d S ∧ ∀ A lo, VR A lo S x d []) : OpN g op := by
  intro A lo S ps ds ns x hv hn hb hl e
  obtain ⟨d, h1, h2⟩ := h A lo S ps ds ns x hv e
  exact ⟨d, S, A, [], h1, h2 A lo, ⟨Step.refl _ _ _, fun _ z => (nomatch z), List.nodup_nil, hb⟩, Step.refl _ _ _⟩
def iiP (c : Int → Int → Bool) (g : Int → Int → P) : List P → Option P
  | [.int i, .int j] => if c i j = true then some (g i j) else none
  | _ => none
theorem op_ii {c : Int → Int → Bool} {g : Int → Int → D} {g' : Int → Int → P} (hg : ∀ i j A lo S, VR A lo S (g' i j) (g i j) []) : Op2 (iiD c g) (iiP c g') := opn_sc fun A lo S ps ds ns x hv e => by
  unfold iiP at e
  split at e
  · rename_i i j
    obtain ⟨d, e2, n1, n2, rfl, _, ⟨rfl, z1⟩, ⟨rfl, z2⟩⟩ := VRs.inv2 hv
    split at e
    · rename_i hc
      cases e
      refine ⟨g i j, ?_, fun A lo => hg i j A lo S⟩
      show (if c i j then _ else _) = _
      rw [if_pos hc]
    · cases e
  · cases e
def subP : List P → Option P := fun ps => iiP tr2 (fun i j => .int (i - j)) ps
def mulP : List P → Option P := fun ps => iiP mulC (fun i j => .int (i * j)) ps
def modP : List P → Option P := fun ps => iiP posC (fun i j => .int (i % j)) ps
def divP : List P → Option P := fun ps => iiP posC (fun i j => .int (i / j)) ps
def ltP : List P → Option P := fun ps => iiP tr2 (fun i j => .bl (decide (i < j))) ps
def leP : List P → Option P := fun ps => iiP tr2 (fun i j => .bl (decide (i ≤ j))) ps
def gtP : List P → Option P := fun ps => iiP tr2 (fun i j => .bl (decide (j < i))) ps
def geP : List P → Option P := fun ps => iiP tr2 (fun i j => .bl (decide (j ≤ i))) ps
theorem op_subP : Op2 subD subP := op_ii fun _ _ _ _ _ => ⟨rfl, rfl⟩
theorem op_mulP : Op2 mulD mulP := op_ii fun _ _ _ _ _ => ⟨rfl, rfl⟩
theorem op_modP : Op2 modD modP := op_ii fun _ _ _ _ _ => ⟨rfl, rfl⟩
theorem op_divP : Op2 divD divP := op_ii fun _ _ _ _ _ => ⟨rfl, rfl⟩
theorem op_ltP : Op2 ltD ltP := op_ii fun _ _ _ _ _ => ⟨rfl, rfl⟩
theorem op_gtP : Op2 gtD gtP := op_ii fun _ _ _ _ _ => ⟨rfl, rfl⟩
theorem op_geP : Op2 geD geP := op_ii fun _ _ _ _ _ => ⟨rfl, rfl⟩
def negP : List P → Option P
  | [.int i] => some (.int (-i))
  | _ => none
theorem op_negP : Op1 negD negP := opn_sc fun A lo S ps ds ns x hv e => by
  unfold negP at e
  split at e
  · obtain ⟨d, rfl, ⟨rfl, _⟩⟩ := VRs.inv1 hv
    cases e
    exact ⟨_, rfl, fun A lo => ⟨rfl, rfl⟩⟩
  · cases e
def absP : List P → Option P
  | [.int i] => some (.int (if i < 0 then -i else i))
  | _ => none
theorem op_absP : OpN absD absP := opn_sc fun A lo S ps ds ns x hv e => by
  unfold absP at e
  split at e
  · obtain ⟨d, rfl, ⟨rfl, _⟩⟩ := VRs.inv1 hv
    cases e
    exact ⟨_, rfl, fun A lo => ⟨rfl, rfl⟩⟩
  · cases e
def maxP : List P → Option P
  | [.int i, .int j] => some (.int (if j > i then j else i))
  | _ => none
def minP : List P → Option P
  | [.int i, .int j] => some (.int (if j < i then j else i))
  | _ => none
def intP : List P → Option P
  | [.int i] => some (.int i)
  | [.bl k] => some (.int (if k then 1 else 0))
  | _ => none
theorem op_intP : OpN intD intP := opn_sc fun A lo S ps ds ns x hv e => by
  unfold intP at e
  split at e
  · obtain ⟨d, rfl, ⟨rfl, _⟩⟩ := VRs.inv1 hv
    cases e
    exact ⟨_, rfl, fun A lo => ⟨rfl, rfl⟩⟩
  · obtain ⟨d, rfl, ⟨rfl, _⟩⟩ := VRs.inv1 hv
    cases e
    exact ⟨_, rfl, fun A lo => ⟨rfl, rfl⟩⟩
  · cases e
def seqP : P → Option (List P)
  | .tup xs => some xs
  | .nd _ .lst xs => some xs
  | .ow _ .lst xs => some xs
  | .scr is => some (is.map .int)
  | _ => none
section
variable {A : Nat → Prop} {lo : Nat} {S : Sto}
theorem ints_scr : ∀ {is : List Int}, VRs A lo S (is.map P.int) (is.map D.int) []
  | [] => ⟨rfl, rfl⟩
  | i :: is => ⟨_, _, [], [], rfl, rfl, ⟨rfl, rfl⟩, ints_scr⟩
theorem seq_vr {p : P} {d : D} {ns : List Nat} {xs : List P} (h : VR A lo S p d ns) (e : seqP p = some xs) : ∃ ds ms, seqD d S = some ds ∧ VRs A lo S xs ds ms ∧ ms.Sublist ns := by
  unfold seqP at e
  split at e
  · cases e
    obtain ⟨ds, rfl, h⟩ := h
    exact ⟨ds, ns, rfl, h, List.Sublist.refl _⟩
  · cases e
    obtain ⟨n, ds, rfl, h1, h2, h3, h4, h5⟩ := h
    refine ⟨ds, ns, ?_, h5, List.Sublist.refl _⟩
    show (match S[n]? with
      | some (.lst ds) => some ds
      | _ => none) = _
    rw [h1]
    rfl
  · cases e
    obtain ⟨n, ds, ms, rfl, h1, h2, h3, h4, h5, h6⟩ := h
    refine ⟨ds, ms, ?_, h6, by rw [h5]; exact List.sublist_cons_self _ _⟩
    show (match S[n]? with
      | some (.lst ds) => some ds
      | _ => none) = _
    rw [h1]
    rfl
  · cases e
    rename_i is
    obtain ⟨rfl, rfl⟩ := h
    exact ⟨is.map D.int, [], rfl, ints_scr, List.Sublist.refl _⟩
  · cases e
theorem VRs.length : ∀ {xs : List P} {ds : List D} {ns : List Nat}, VRs A lo S xs ds ns → ds.length = xs.length
  | [], _, _, h => by rw [h.1]; rfl
  | x :: xs, ds, ns, h => by
    obtain ⟨d, r, n1, n2, e1, e2, h1, h2⟩ := h
    rw [e1, List.length_cons, List.length_cons, VRs.length h2]
theorem VRs.nth : ∀ {xs : List P} {ds : List D} {ns : List Nat} {j : Nat} {x : P}, VRs A lo S xs ds ns → xs[j]? = some x → ∃ d m, ds[j]? = some d ∧ VR A lo S x d m ∧ m.Sublist ns
  | [], _, _, _, _, _, e => nomatch e
  | y :: xs, ds, ns, j, x, h, e => by
    obtain ⟨d, r, n1, n2, e1, e2, h1, h2⟩ := h
    subst e1 e2
    cases j with
    | zero => cases e; exact ⟨d, n1, rfl, h1, List.sublist_append_left _ _⟩
    | succ j =>
      obtain ⟨d', m, q1, q2, q3⟩ := VRs.nth (j := j) (x := x) h2 (by simpa using e)
      exact ⟨d', m, by simpa using q1, q2, q3.trans (List.sublist_append_right _ _)⟩
theorem VRs.app : ∀ {xs ys : List P} {ds es : List D} {ns ms : List Nat}, VRs A lo S xs ds ns → VRs A lo S ys es ms → VRs A lo S (xs ++ ys) (ds ++ es) (ns ++ ms)
  | [], _, _, _, _, _, h, h' => by rw [h.1, h.2]; exact h'
  | x :: xs, ys, ds, es, ns, ms, h, h' => by
    obtain ⟨d, r, n1, n2, e1, e2, h1, h2⟩ := h
    subst e1 e2
    exact ⟨d, r ++ es, n1, n2 ++ ms, rfl, List.append_assoc _ _ _, h1, VRs.app h2 h'⟩
theorem VRs.tk : ∀ {xs : List P} {ds : List D} {ns : List Nat} (n : Nat), VRs A lo S xs ds ns → ∃ ms, VRs A lo S (xs.take n) (ds.take n) ms ∧ ms.Sublist ns
  | xs, ds, ns, 0, _ => by rw [List.take_zero, List.take_zero]; exact ⟨[], ⟨rfl, rfl⟩, List.nil_sublist _⟩
  | [], ds, ns, n + 1, h => ⟨[], by rw [h.1]; exact ⟨rfl, rfl⟩, List.nil_sublist _⟩
  | x :: xs, ds, ns, n + 1, h => by
    obtain ⟨d, r, n1, n2, e1, e2, h1, h2⟩ := h
    subst e1 e2
    obtain ⟨ms, q1, q2⟩ := VRs.tk n h2
    exact ⟨n1 ++ ms, ⟨d, _, n1, ms, rfl, rfl, h1, q1⟩, List.Sublist.append (List.Sublist.refl _) q2⟩
theorem VRs.dp : ∀ {xs : List P} {ds : List D} {ns : List Nat} (n : Nat), VRs A lo S xs ds ns → ∃ ms, VRs A lo S (xs.drop n) (ds.drop n) ms ∧ ms.Sublist ns
  | xs, ds, ns, 0, h => ⟨ns, h, List.Sublist.refl _⟩
  | [], ds, ns, n + 1, h => ⟨[], by rw [h.1]; exact ⟨rfl, rfl⟩, List.nil_sublist _⟩
  | x :: xs, ds, ns, n + 1, h => by
    obtain ⟨d, r, n1, n2, e1, e2, h1, h2⟩ := h
    subst e1 e2
    obtain ⟨ms, q1, q2⟩ := VRs.dp n h2
    exact ⟨ms, q1, q2.trans (List.sublist_append_right _ _)⟩
theorem new_ow {sh : Sh} {xs : List P} {ds : List D} {ms ns : List Nat} (h : VRs A lo S xs ds ms) (hf : sh.fit ds.length) (hs : ms.Sublist ns) (hn : ns.Nodup) (hb : ∀ n, A n → n < S.length) (hl : lo ≤ S.length) :
    ∃ A', VR A' lo (S ++ [sh.ob ds]) (.ow true sh xs) (.loc S.length) (S.length :: ms) ∧ Out ns A S A' (S ++ [sh.ob ds]) (S.length :: ms) ∧ Step [] A S A' (S ++ [sh.ob ds]) := by
  have st : Step [] A S (fun n => A n ∨ n = S.length) (S ++ [sh.ob ds]) := ⟨by simp, fun n h _ => List.getElem?_append_left h, fun n h _ => ⟨fun z => by
    rcases z with z | z
    · exact z
    · omega, .inl⟩⟩
  have h' := VRs.step st (fun _ z => nomatch z) h nil_disj
  have hr : ∀ n ∈ ms, n < S.length := fun n hn => (VRs.roots xs ds ms h n hn).2
  refine ⟨_, ⟨S.length, ds, ms, rfl, by simp, hf, .inr rfl, fun _ => hl, rfl, h'⟩, ⟨st.more (fun _ z => (nomatch z)), fun n hn => ?_, List.nodup_cons.mpr ⟨fun z => by have := hr _ z; omega, hs.nodup hn⟩, fun n hn => ?_⟩, st⟩
  · rcases List.mem_cons.mp hn with rfl | hn
    · exact .inr (Nat.le_refl _)
    · exact .inl (hs.subset hn)
  · rcases hn with z | z
    · have := hb n z
      simp
      omega
    · simp
      omega
end
def vL (a : VA) : VE := fun ρ => (a ρ).bind fun xs ρ1 => if xs.length ≤ sizeLine then .ok (.own xs) ρ1 else .bad
def vT (a : VA) : VE := fun ρ => (a ρ).bind fun xs ρ1 => if xs.length ≤ sizeLine then .ok (.tup xs) ρ1 else .bad
theorem out_env {T : List Nat} {ns ks : List Nat} {A A' : Nat → Prop} {S S' : Sto} (o : Out ns A S A' S' ks) (nd : (ns ++ T).Nodup) (hl : ∀ n ∈ T, n < S.length) : Out (ns ++ T) A S A' S' (ks ++ T) := by
  obtain ⟨q1, q2, q3⟩ := List.nodup_append.mp nd
  refine ⟨o.st.more fun n hn => List.mem_append_left _ hn, fun n hn => ?_, List.nodup_append.mpr ⟨o.nd, q2, fun x hx y hy => ?_⟩, o.bd⟩
  · rcases List.mem_append.mp hn with z | z
    · exact (o.sub n z).imp (List.mem_append_left _) id
    · exact .inl (List.mem_append_right _ z)
  · rcases o.sub x hx with z | z
    · exact q3 x z y hy
    · have := hl y hy
      omega
theorem sim_L {a : DA} {va : VA} (ha : SimA a va) : SimE (dL a) (vL va) := fun A lo S ρ r T C =>
  sim_bind ha C fun A1 S1 ρ1 T1 ps ds ns C1 h1 nd1 _ => by
    by_cases hz : ps.length ≤ sizeLine
    · rw [if_pos hz]
      have hz' : ds.length ≤ sizeLine := by rw [h1.length]; exact hz
      obtain ⟨A2, h2, o, st⟩ := new_ow (sh := .lst) h1 trivial (List.Sublist.refl _) (List.nodup_append.mp nd1).1 C1.bd C1.lo
      refine ⟨_, _, A2, T1, _, if_pos hz', C1.env.step st (fun _ z => nomatch z) nil_disj, h2, out_env o nd1 fun n hn => (C1.env.roots n hn).2⟩
    · rw [if_neg hz]
      trivial
theorem sim_T {a : DA} {va : VA} (ha : SimA a va) : SimE (dT a) (vT va) := fun A lo S ρ r T C =>
  sim_bind ha C fun A1 S1 ρ1 T1 ps ds ns C1 h1 nd1 _ => by
    by_cases hz : ps.length ≤ sizeLine
    · rw [if_pos hz]
      have hz' : ds.length ≤ sizeLine := by rw [h1.length]; exact hz
      exact ⟨_, _, A1, T1, ns, if_pos hz', C1.env, ⟨ds, rfl, h1⟩, Out.refl nd1 C1.bd⟩
    · rw [if_neg hz]
      trivial
def lenP : List P → Option P
  | [.str z] => if z.length ≤ sizeLine then some (.int z.length) else none
  | [x] => (seqP x).map fun xs => .int xs.length
  | _ => none
theorem not_str {x : P} {d : D} {A : Nat → Prop} {lo : Nat} {S : Sto} {ns : List Nat} {xs : List P} (h : VR A lo S x d ns) (e : seqP x = some xs) : (∀ z, d ≠ .str z) ∧ ∀ z, x ≠ .str z := by
  refine ⟨fun z q => ?_, fun z q => by rw [q] at e; cases e⟩
  obtain ⟨ds, ms, h1, _⟩ := seq_vr h e
  rw [q] at h1
  cases h1
theorem op_lenP : OpN lenD lenP := opn_sc fun A lo S ps ds ns x hv e => by
  match ps, hv, e with
  | [], _, e => cases e
  | [p], hv, e =>
    obtain ⟨d, rfl, h⟩ := VRs.inv1 hv
    by_cases hs : ∃ z, p = .str z
    · obtain ⟨z, rfl⟩ := hs
      obtain ⟨rfl, _⟩ := h
      have e' : (if z.length ≤ sizeLine then some (P.int z.length) else none) = some x := e
      split at e'
      · rename_i hz
        cases e'
        exact ⟨_, if_pos hz, fun A lo => ⟨rfl, rfl⟩⟩
      · cases e'
    · have e' : (seqP p).map (fun xs => P.int xs.length) = some x := by
        cases p <;> first | exact e | exact absurd ⟨_, rfl⟩ hs
      obtain ⟨xs, e1, rfl⟩ := Option.map_eq_some_iff.mp e'
      obtain ⟨ds, ms, h1, h2, _⟩ := seq_vr h e1
      refine ⟨.int ds.length, ?_, fun A lo => by rw [h2.length]; exact ⟨rfl, rfl⟩⟩
      have q := (not_str h e1).1
      have z : lenD [d] S = match seqD d S with
        | some ds => .ok (.int ds.length) S
        | none => .bad := by
        cases d <;> first | rfl | exact absurd rfl (q _)
      rw [z, h1]
  | p :: q :: r, _, e => cases p <;> cases e
def atP (xs : List P) (i : Int) : Option P := (ixN xs.length i).bind fun j => xs[j]?
def ixP : List P → Option P
  | [.str z, .int i] => if z.length ≤ sizeLine then (atI z.cps.toList i).map fun c => .str ⟨#[c]⟩ else none
  | [x, .int i] => (seqP x).bind fun xs => atP xs i
  | _ => none
theorem at_vr {A : Nat → Prop} {lo : Nat} {S : Sto} {xs : List P} {ds : List D} {ns : List Nat} {i : Int} {x : P} (h : VRs A lo S xs ds ns) (e : atP xs i = some x) : ∃ d m, atD ds i = some d ∧ VR A lo S x d m ∧ m.Sublist ns := by
  unfold atP at e
  obtain ⟨j, e1, e2⟩ := Option.bind_eq_some_iff.mp e
  obtain ⟨d, m, h1, h2, h3⟩ := h.nth e2
  refine ⟨d, m, ?_, h2, h3⟩
  unfold atD
  rw [h.length, e1]
  exact h1
theorem op_ixP : Op2 ixD ixP := by
  intro A lo S ps ds ns x hv hn hb hl e
  match ps, hv, e with
  | [], _, e => cases e
  | [p], _, e => cases p <;> cases e
  | p :: q :: y :: r, _, e => cases p <;> cases q <;> cases e
  | [p, q], hv, e =>
    cases q <;> first | (cases p <;> cases e) | skip
    rename_i i
    obtain ⟨d, _, n1, n2, rfl, rfl, h, ⟨rfl, rfl⟩⟩ := VRs.inv2 hv
    by_cases hs : ∃ z, p = .str z
    · obtain ⟨z, rfl⟩ := hs
      obtain ⟨rfl, rfl⟩ := h
      have e' : (if z.length ≤ sizeLine then (atI z.cps.toList i).map fun c => P.str ⟨#[c]⟩ else none) = some x := e
      split at e'
      · rename_i hz
        obtain ⟨c, e1, rfl⟩ := Option.map_eq_some_iff.mp e'
        refine ⟨D.str ⟨#[c]⟩, S, A, [], ?_, ⟨rfl, rfl⟩, ⟨Step.refl _ _ _, fun _ z => (nomatch z), List.nodup_nil, hb⟩, Step.refl _ _ _⟩
        show (if z.length ≤ sizeLine then (match atI z.cps.toList i with
          | some c => Rs.ok (D.str ⟨#[c]⟩) S
          | none => .bad) else .bad) = _
        rw [if_pos hz, e1]
      · cases e'
    · have e' : (seqP p).bind (fun xs => atP xs i) = some x := by
        cases p <;> first | exact e | exact absurd ⟨_, rfl⟩ hs
      obtain ⟨xs, e1, e2⟩ := Option.bind_eq_some_iff.mp e'
      obtain ⟨ds, ms, h1, h2, h3⟩ := seq_vr h e1
      obtain ⟨y, m, h4, h5, h6⟩ := at_vr h2 e2
      have q := (not_str h e1).1
      have z : ixD d (.int i) S = match seqD d S with
        | some ds => (match atD ds i with
          | some d => .ok d S
          | none => .bad)
        | none => .bad := by
        cases d <;> first | rfl | exact absurd rfl (q _)
      rw [List.append_nil] at hn ⊢
      refine ⟨y, S, A, m, ?_, h5, (Out.refl hn hb).less (fun n hn => (h6.trans h3).subset hn) ((h6.trans h3).nodup hn), Step.refl _ _ _⟩
      show ixD d (.int i) S = _
      rw [z, h1]
      dsimp only
      rw [h4]
def slP (x : P) (lo hi : Option Int) : Option P := match x with
  | .tup xs => some (.tup (cutD xs lo hi))
  | x => (seqP x).bind fun xs => if (cutD xs lo hi).length ≤ sizeLine then some (.own (cutD xs lo hi)) else none
theorem cut_vrs {A : Nat → Prop} {l0 : Nat} {S : Sto} {xs : List P} {ds : List D} {ns : List Nat} {lo hi : Option Int} (h : VRs A l0 S xs ds ns) : ∃ ms, VRs A l0 S (cutD xs lo hi) (cutD ds lo hi) ms ∧ ms.Sublist ns := by
  unfold cutD
  rw [h.length]
  obtain ⟨ms, h1, h2⟩ := h.dp (HT.sIx xs.length 0 lo)
  obtain ⟨ks, h3, h4⟩ := h1.tk (HT.sIx xs.length xs.length hi - HT.sIx xs.length 0 lo)
  exact ⟨ks, h3, h4.trans h2⟩
theorem op_slP (lo' hi' : Option Int) : OpN (fun ds S => match ds with
    | [d] => slD d lo' hi' S
    | _ => .bad) (fun ps => match ps with
    | [x] => slP x lo' hi'
    | _ => none) := by
  intro A lo S ps ds ns x hv hn hb hl e
  match ps, hv, e with
  | [], _, e => cases e
  | p :: q :: r, _, e => cases e
  | [p], hv, e =>
    obtain ⟨d, rfl, h⟩ := VRs.inv1 hv
    by_cases ht : ∃ xs, p = .tup xs
    · obtain ⟨xs, rfl⟩ := ht
      cases e
      obtain ⟨ds, rfl, h⟩ := h
      obtain ⟨ms, h1, h2⟩ := cut_vrs (lo := lo') (hi := hi') h
      exact ⟨_, S, A, ms, rfl, ⟨_, rfl, h1⟩, (Out.refl hn hb).less (fun n hn => h2.subset hn) (h2.nodup hn), Step.refl _ _ _⟩
    · have e' : (seqP p).bind (fun xs => if (cutD xs lo' hi').length ≤ sizeLine then some (P.own (cutD xs lo' hi')) else none) = some x := by
        cases p <;> first | exact e | exact absurd ⟨_, rfl⟩ ht
      obtain ⟨xs, e1, e2⟩ := Option.bind_eq_some_iff.mp e'
      split at e2
      · rename_i hz
        cases e2
        obtain ⟨ds, ms, h1, h2, h3⟩ := seq_vr h e1
        obtain ⟨ks, h4, h5⟩ := cut_vrs (lo := lo') (hi := hi') h2
        obtain ⟨A2, h6, o, st⟩ := new_ow (sh := .lst) h4 trivial (h5.trans h3) hn hb hl
        refine ⟨_, _, A2, _, ?_, h6, o, st⟩
        have z : slD d lo' hi' S = match seqD d S with
          | some ds => newL (cutD ds lo' hi') S
          | none => .bad := by
          cases d <;> first | rfl | skip
          exfalso
          cases p <;> first | (cases e1; done) | (exact absurd ⟨_, rfl⟩ ht) | skip
          · cases h.1
          · obtain ⟨_, _, z, _⟩ := h
            cases z
          · obtain ⟨_, _, _, z, _⟩ := h
            cases z
        show slD d lo' hi' S = _
        rw [z, h1]
        exact if_pos (by rw [h4.length]; exact hz)
      · cases e2
def lstP : P → Option (List P)
  | .nd _ .lst xs => some xs
  | .ow _ .lst xs => some xs
  | _ => none
theorem lst_vr {A : Nat → Prop} {lo : Nat} {S : Sto} {p : P} {d : D} {ns : List Nat} {xs : List P} (h : VR A lo S p d ns) (e : lstP p = some xs) : ∃ n ds ms, d = .loc n ∧ S[n]? = some (.lst ds) ∧ VRs A lo S xs ds ms ∧ ms.Sublist ns := by
  unfold lstP at e
  split at e
  · cases e
    obtain ⟨n, ds, rfl, h1, h2, h3, h4, h5⟩ := h
    exact ⟨n, ds, ns, rfl, h1, h5, List.Sublist.refl _⟩
  · cases e
    obtain ⟨n, ds, ms, rfl, h1, h2, h3, h4, h5, h6⟩ := h
    exact ⟨n, ds, ms, rfl, h1, h6, by rw [h5]; exact List.sublist_cons_self _ _⟩
  · cases e
def catP (x y : P) : Option P := match lstP x, lstP y with
  | some xs, some ys => if xs.length + ys.length ≤ sizeLine then some (.own (xs ++ ys)) else none
  | _, _ => none
def add2 : P → P → Option P
  | .int i, .int j => some (.int (i + j))
  | .str x, .str y => if x.length + y.length ≤ sizeLine then some (.str (x ++ y)) else none
  | .tup xs, .tup ys => if xs.length + ys.length ≤ sizeLine then some (.tup (xs ++ ys)) else none
  | x, y => catP x y
def addP : List P → Option P
  | [x, y] => add2 x y
  | _ => none
theorem op_addP : Op2 addD addP := by
  intro A lo S ps ds ns x hv hn hb hl e
  match ps, hv, e with
  | [], _, e => cases e
  | [p], hv, e => cases e
  | p :: q :: y :: r, _, e => cases e
  | [p, q], hv, e =>
    obtain ⟨d, d2, n1, n2, rfl, rfl, h, h'⟩ := VRs.inv2 hv
    have e : add2 p q = some x := e
    have lists : ∀ xs ys, lstP p = some xs → lstP q = some ys → (if xs.length + ys.length ≤ sizeLine then some (P.own (xs ++ ys)) else none) = some x →
        ∃ d' S' A' ks, addD d d2 S = .ok d' S' ∧ VR A' lo S' x d' ks ∧ Out (n1 ++ n2) A S A' S' ks ∧ Step [] A S A' S' := by
      intro xs ys e1 e2 e3
      split at e3
      · rename_i hz
        cases e3
        obtain ⟨a, ds, m1, rfl, h1, h2, h3⟩ := lst_vr h e1
        obtain ⟨b, es, m2, rfl, h4, h5, h6⟩ := lst_vr h' e2
        obtain ⟨A2, h7, o, st⟩ := new_ow (sh := .lst) (h2.app h5) trivial (List.Sublist.append h3 h6) hn hb hl
        refine ⟨_, _, A2, _, ?_, h7, o, st⟩
        show (match S[a]?, S[b]? with
          | some (.lst xs), some (.lst ys) => if xs.length + ys.length ≤ sizeLine then Rs.ok (D.loc S.length) (S ++ [Ob.lst (xs ++ ys)]) else .bad
          | _, _ => .bad) = _
        rw [h1, h4]
        exact if_pos (by rw [h2.length, h5.length]; exact hz)
      · cases e3
    have sc : ∀ y d', x = y → addD d d2 S = .ok d' S → (∀ A lo, VR A lo S y d' []) → ∃ d' S' A' ks, addD d d2 S = .ok d' S' ∧ VR A' lo S' x d' ks ∧ Out (n1 ++ n2) A S A' S' ks ∧ Step [] A S A' S' := by
      rintro y d' rfl h1 h2
      exact ⟨d', S, A, [], h1, h2 A lo, ⟨Step.refl _ _ _, fun _ z => (nomatch z), List.nodup_nil, hb⟩, Step.refl _ _ _⟩
    unfold add2 at e
    split at e
    · obtain ⟨rfl, _⟩ := h
      obtain ⟨rfl, _⟩ := h'
      cases e
      exact sc _ _ rfl rfl fun _ _ => ⟨rfl, rfl⟩
    · obtain ⟨rfl, _⟩ := h
      obtain ⟨rfl, _⟩ := h'
      split at e
      · rename_i hz
        cases e
        exact sc _ _ rfl (if_pos hz) fun _ _ => ⟨rfl, rfl⟩
      · cases e
    · obtain ⟨ds, rfl, h⟩ := h
      obtain ⟨es, rfl, h'⟩ := h'
      split at e
      · rename_i hz
        cases e
        exact ⟨_, S, A, _, if_pos (by rw [h.length, h'.length]; exact hz), ⟨_, rfl, h.app h'⟩, Out.refl hn hb, Step.refl _ _ _⟩
      · cases e
    · unfold catP at e
      split at e
      · rename_i e1 e2
        exact lists _ _ e1 e2 e
      · cases e
def listP : List P → Option P
  | [x] => (seqP x).map .own
  | _ => none
theorem op_listP : OpN listD listP := by
  intro A lo S ps ds ns x hv hn hb hl e
  match ps, hv, e with
  | [], _, e => cases e
  | p :: q :: r, _, e => cases e
  | [p], hv, e =>
    obtain ⟨d, rfl, h⟩ := VRs.inv1 hv
    obtain ⟨xs, e1, rfl⟩ := Option.map_eq_some_iff.mp (show (seqP p).map .own = some x from e)
    obtain ⟨ds, ms, h1, h2, h3⟩ := seq_vr h e1
    obtain ⟨A2, h6, o, st⟩ := new_ow (sh := .lst) h2 trivial h3 hn hb hl
    refine ⟨_, _, A2, _, ?_, h6, o, st⟩
    show (match seqD d S with
      | some ds => Rs.ok (D.loc S.length) (S ++ [Ob.lst ds])
      | none => .bad) = _
    rw [h1]
    rfl
mutual
def pyP : Nat → P → Option PyData
  | _, .non => some .none
  | _, .bl b => some (.bool b)
  | _, .int i => some (.int i)
  | _, .str x => some (.str x)
  | _, .scr is => some (.list (is.map PyData.int))
  | n, .tup xs => (pyPs n xs).map PyData.tuple
  | n + 1, .nd _ .lst xs => (pyPs n xs).map PyData.list
  | n + 1, .ow _ .lst xs => (pyPs n xs).map PyData.list
  | _, _ => none
def pyPs : Nat → List P → Option (List PyData)
  | _, [] => some []
  | n, x :: xs => match pyP n x, pyPs n xs with
    | some y, some ys => some (y :: ys)
    | _, _ => none
end
section
variable {A : Nat → Prop} {lo : Nat} {S : Sto}
mutual
theorem pyP_ok : ∀ (n : Nat) (p : P) (d : D) (ns : List Nat) (y : PyData), VR A lo S p d ns → pyP n p = some y → pyD S n d = some y
  | n, .non, d, ns, y, h, e => by
    obtain ⟨rfl, _⟩ := h
    rw [pyP] at e; rw [pyD]; exact e
  | n, .bl b, d, ns, y, h, e => by
    obtain ⟨rfl, _⟩ := h
    rw [pyP] at e; rw [pyD]; exact e
  | n, .int i, d, ns, y, h, e => by
    obtain ⟨rfl, _⟩ := h
    rw [pyP] at e; rw [pyD]; exact e
  | n, .str x, d, ns, y, h, e => by
    obtain ⟨rfl, _⟩ := h
    rw [pyP] at e; rw [pyD]; exact e
  | n, .scr is, d, ns, y, h, e => by
    obtain ⟨rfl, _⟩ := h
    rw [pyP] at e; rw [pyD]; exact e
  | n, .tup xs, d, ns, y, h, e => by
    obtain ⟨ds, rfl, h⟩ := h
    rw [pyP] at e; rw [pyD]
    obtain ⟨ys, e1, rfl⟩ := Option.map_eq_some_iff.mp e
    rw [pyPs_ok n xs ds ns ys h e1]; rfl
  | n, .nd k sh xs, d, ns, y, h, e => by
    obtain ⟨a, ds, rfl, h1, h2, h3, h4, h5⟩ := h
    cases sh <;> cases n <;> rw [pyP] at e <;> first | (cases e; done) | (intros; contradiction) | skip
    rename_i n
    obtain ⟨ys, e1, rfl⟩ := Option.map_eq_some_iff.mp e
    rw [pyD, h1]
    show (pyDs S n ds).map PyData.list = _
    rw [pyPs_ok n xs ds ns ys h5 e1]; rfl
  | n, .ow k sh xs, d, ns, y, h, e => by
    obtain ⟨a, ds, ms, rfl, h1, h2, h3, h4, h5, h6⟩ := h
    cases sh <;> cases n <;> rw [pyP] at e <;> first | (cases e; done) | (intros; contradiction) | skip
    rename_i n
    obtain ⟨ys, e1, rfl⟩ := Option.map_eq_some_iff.mp e
    rw [pyD, h1]
    show (pyDs S n ds).map PyData.list = _
    rw [pyPs_ok n xs ds ms ys h6 e1]; rfl
theorem pyPs_ok : ∀ (n : Nat) (p : List P) (d : List D) (ns : List Nat) (y : List PyData), VRs A lo S p d ns → pyPs n p = some y → pyDs S n d = some y
  | n, [], d, ns, y, h, e => by
    rw [h.1]
    rw [pyPs] at e; rw [pyDs]; exact e
  | n, x :: xs, ds, ns, y, h, e => by
    obtain ⟨d, r, n1, n2, rfl, rfl, h1, h2⟩ := h
    rw [pyPs] at e; rw [pyDs]
    cases e1 : pyP n x with
    | none => rw [e1] at e; cases e
    | some z =>
      cases e2 : pyPs n xs with
      | none => rw [e1, e2] at e; cases e
      | some zs =>
        rw [e1, e2] at e
        cases e
        rw [pyP_ok n x d n1 z h1 e1, pyPs_ok n xs r n2 zs h2 e2]
end
end
def eqQ (x y : P) : Option Bool := match pyP 8 x, pyP 8 y with
  | some d, some e => if SeqAt.shaped d && SeqAt.shaped e then some (PyData.eqv d e) else none
  | _, _ => none
theorem eqQ_ok {A : Nat → Prop} {lo : Nat} {S : Sto} {x y : P} {d e : D} {n m : List Nat} {b : Bool} (hx : VR A lo S x d n) (hy : VR A lo S y e m) (h : eqQ x y = some b) : eqB d e S = some b := by
  unfold eqQ at h
  unfold eqB
  cases e1 : pyP 8 x with
  | none => rw [e1] at h; cases h
  | some u =>
    cases e2 : pyP 8 y with
    | none => rw [e1, e2] at h; cases h
    | some v =>
      rw [e1, e2] at h
      rw [pyP_ok 8 x d n u hx e1, pyP_ok 8 y e m v hy e2]
      exact h
def eqP : List P → Option P
  | [x, y] => (eqQ x y).map .bl
  | _ => none
def neP : List P → Option P
  | [x, y] => (eqQ x y).map fun b => .bl (!b)
  | _ => none
theorem op_eqP : Op2 eqD eqP := opn_sc fun A lo S ps ds ns x hv e => by
  unfold eqP at e
  split at e
  · obtain ⟨b, e1, rfl⟩ := Option.map_eq_some_iff.mp e
    obtain ⟨d, d2, n1, n2, rfl, _, h, h'⟩ := VRs.inv2 hv
    refine ⟨.bl b, ?_, fun _ _ => ⟨rfl, rfl⟩⟩
    show eqD d d2 S = _
    unfold eqD
    rw [eqQ_ok h h' e1]
  · cases e
theorem op_neP : Op2 neD neP := opn_sc fun A lo S ps ds ns x hv e => by
  unfold neP at e
  split at e
  · obtain ⟨b, e1, rfl⟩ := Option.map_eq_some_iff.mp e
    obtain ⟨d, d2, n1, n2, rfl, _, h, h'⟩ := VRs.inv2 hv
    refine ⟨.bl (!b), ?_, fun _ _ => ⟨rfl, rfl⟩⟩
    show neD d d2 S = _
    unfold neD
    rw [eqQ_ok h h' e1]
  · cases e
def isNonP : P → Option Bool
  | .non => some true
  | .hol => none
  | _ => some false
def isP : List P → Option P
  | [x, .non] => (isNonP x).map .bl
  | _ => none
def isnP : List P → Option P
  | [x, .non] => (isNonP x).map fun b => .bl (!b)
  | _ => none
def tyP : P → Option String
  | .non => some "NoneType"
  | .bl _ => some "bool"
  | .int _ => some "int"
  | .str _ => some "str"
  | .tup _ => some "tuple"
  | .scr _ => some "list"
  | .nd _ .lst _ => some "list"
  | .ow _ .lst _ => some "list"
  | .nd _ (.dic _) _ => some "dict"
  | .ow _ (.dic _) _ => some "dict"
  | _ => none
theorem tyP_ok {A : Nat → Prop} {lo : Nat} {S : Sto} {x : P} {d : D} {n : List Nat} {t : String} (h : VR A lo S x d n) (e : tyP x = some t) : tyD d S = some t := by
  cases x with
  | hol => cases e
  | non => obtain ⟨rfl, _⟩ := h; exact e
  | bl b => obtain ⟨rfl, _⟩ := h; exact e
  | int b => obtain ⟨rfl, _⟩ := h; exact e
  | str b => obtain ⟨rfl, _⟩ := h; exact e
  | scr b => obtain ⟨rfl, _⟩ := h; exact e
  | tup b => obtain ⟨_, rfl, _⟩ := h; exact e
  | nd k sh xs =>
    obtain ⟨a, ds, rfl, h1, _⟩ := h
    show (match S[a]? with
      | some (.lst _) => some "list"
      | some (.dic _) => some "dict"
      | _ => none) = some t
    rw [h1]
    cases sh <;> first | exact e | (cases e; done)
  | ow k sh xs =>
    obtain ⟨a, ds, ms, rfl, h1, _⟩ := h
    show (match S[a]? with
      | some (.lst _) => some "list"
      | some (.dic _) => some "dict"
      | _ => none) = some t
    rw [h1]
    cases sh <;> first | exact e | (cases e; done)
def isiP (T : String) : List P → Option P
  | [x] => ((tyP x).bind fun t => kitB t T).map .bl
  | _ => none
theorem op_isiP {T : String} : Op1 (isiD T) (isiP T) := opn_sc fun A lo S ps ds ns x hv e => by
  unfold isiP at e
  split at e
  · obtain ⟨b, e1, rfl⟩ := Option.map_eq_some_iff.mp e
    obtain ⟨d, rfl, h⟩ := VRs.inv1 hv
    obtain ⟨t, e2, e3⟩ := Option.bind_eq_some_iff.mp e1
    refine ⟨.bl b, ?_, fun _ _ => ⟨rfl, rfl⟩⟩
    show isiD T d S = _
    unfold isiD
    have z : (tyD d S).bind (fun t => kitB t T) = some b := by rw [tyP_ok h e2]; exact e3
    rw [z]
  · cases e
def blsP : List P → Option (List Bool)
  | [] => some []
  | .bl b :: r => (blsP r).map (b :: ·)
  | _ :: _ => none
theorem blsP_ok {A : Nat → Prop} {lo : Nat} {S : Sto} : ∀ {xs : List P} {ds : List D} {n : List Nat} {v : List Bool}, VRs A lo S xs ds n → blsP xs = some v → blsD ds = some v
  | [], ds, n, v, h, e => by rw [h.1]; exact e
  | x :: xs, ds, n, v, h, e => by
    obtain ⟨d, r, n1, n2, rfl, rfl, h1, h2⟩ := h
    cases x <;> first | (cases e; done) | skip
    obtain ⟨rfl, _⟩ := h1
    obtain ⟨bs, e1, rfl⟩ := Option.map_eq_some_iff.mp (show (blsP xs).map (_ :: ·) = some v from e)
    show (blsD r).map (_ :: ·) = _
    rw [blsP_ok h2 e1]
    rfl
def allP : List P → Option P
  | [x] => ((lstP x).bind blsP).map fun bs => .bl (bs.all id)
  | _ => none
theorem op_allP : OpN allD allP := opn_sc fun A lo S ps ds ns x hv e => by
  unfold allP at e
  split at e
  · obtain ⟨bs, e1, rfl⟩ := Option.map_eq_some_iff.mp e
    obtain ⟨d, rfl, h⟩ := VRs.inv1 hv
    obtain ⟨xs, e2, e3⟩ := Option.bind_eq_some_iff.mp e1
    obtain ⟨a, ds, ms, rfl, h1, h2, _⟩ := lst_vr h e2
    refine ⟨_, ?_, fun _ _ => ⟨rfl, rfl⟩⟩
    have z : (seqD (.loc a) S).bind blsD = some bs := by
      show (match S[a]? with
        | some (.lst ds) => some ds
        | _ => none).bind blsD = _
      rw [h1]
      exact blsP_ok h2 e3
    show (match (seqD (.loc a) S).bind blsD with
      | some bs => Rs.ok (D.bl (bs.all id)) S
      | none => .bad) = _
    rw [z]
  · cases e
def truP : P → Option Bool
  | .non => some false
  | .bl b => some b
  | .int i => some (i != 0)
  | .str z => if z.length ≤ sizeLine then some ((z.length : Int) != 0) else none
  | x => (seqP x).map fun xs => !xs.isEmpty
theorem truP_ok {A : Nat → Prop} {lo : Nat} {S : Sto} {x : P} {d : D} {n : List Nat} {b : Bool} (h : VR A lo S x d n) (e : truP x = some b) : truB d S = some b := by
  have sq : ∀ xs, seqP x = some xs → (some (!xs.isEmpty)) = some b → (seqD d S).map (fun ds => !ds.isEmpty) = some b := by
    intro xs e1 e2
    obtain ⟨ds, ms, h1, h2, _⟩ := seq_vr h e1
    rw [h1]
    have hl := h2.length
    have e3 : ds.isEmpty = xs.isEmpty := by
      cases ds <;> cases xs <;> first | rfl | (simp at hl)
    show some (!ds.isEmpty) = _
    rw [e3]
    exact e2
  cases x with
  | hol => cases e
  | non => obtain ⟨rfl, _⟩ := h; exact e
  | bl b => obtain ⟨rfl, _⟩ := h; exact e
  | int b => obtain ⟨rfl, _⟩ := h; exact e
  | str b => obtain ⟨rfl, _⟩ := h; exact e
  | scr b => obtain ⟨rfl, _⟩ := h; exact sq _ rfl e
  | tup b => obtain ⟨_, rfl, _⟩ := h; exact sq _ rfl e
  | nd k sh xs =>
    obtain ⟨xs, e1, e2⟩ := Option.map_eq_some_iff.mp (show (seqP (.nd k sh xs)).map (fun xs => !xs.isEmpty) = some b from e)
    obtain ⟨a, ds, rfl, _⟩ := h
    exact sq _ e1 (congrArg some e2)
  | ow k sh xs =>
    obtain ⟨xs, e1, e2⟩ := Option.map_eq_some_iff.mp (show (seqP (.ow k sh xs)).map (fun xs => !xs.isEmpty) = some b from e)
    obtain ⟨a, ds, ms, rfl, _⟩ := h
    exact sq _ e1 (congrArg some e2)
def vTru (a : VE) : VT := fun ρ => (a ρ).bind fun x ρ1 => match truP x with
  | some b => .ok b ρ1
  | none => .bad
def vTst (a : VE) : VT := fun ρ => (a ρ).bind fun x ρ1 => match x with
  | .bl b => .ok b ρ1
  | _ => .bad
def vNotB (a : VT) : VT := fun ρ => (a ρ).bind fun b ρ1 => .ok (!b) ρ1
def vAndB (a b : VT) : VT := fun ρ => (a ρ).bind fun x ρ1 => if x = true then b ρ1 else .ok false ρ1
def vOrB (a b : VT) : VT := fun ρ => (a ρ).bind fun x ρ1 => if x = true then .ok true ρ1 else b ρ1
def vNotD (a : VE) : VE := fun ρ => (a ρ).bind fun x ρ1 => match x with
  | .bl b => .ok (.bl (!b)) ρ1
  | _ => .bad
def vAndD (a b : VE) : VE := fun ρ => (a ρ).bind fun x ρ1 => match x with
  | .bl k => if k = true then b ρ1 else .ok (.bl false) ρ1
  | _ => .bad
def vOrD (a b : VE) : VE := fun ρ => (a ρ).bind fun x ρ1 => match x with
  | .bl k => if k = true then .ok (.bl true) ρ1 else b ρ1
  | _ => .bad
def vIfD (c : VT) (a b : VE) : VE := fun ρ => (c ρ).bind fun x ρ1 => if x = true then a ρ1 else b ρ1
theorem Out.drop {T : List Nat} {A : Nat → Prop} {S : Sto} {ns T1 : List Nat} (h : (ns ++ T1).Nodup) (bd : ∀ n, A n → n < S.length) : Out (ns ++ T1) A S A S T1 :=
  (Out.refl h bd).less (fun _ z => List.mem_append_right _ z) (List.nodup_append.mp h).2.1
theorem SimG.go {α δ : Type} {V : Vl α δ} {e : Ev → Sto → Rs δ} {v : VEnv → Vr α} (h : SimG V e v) {A : Nat → Prop} {lo : Nat} {S : Sto} {ρ : VEnv} {r : Ev} {T ns : List Nat} (C : Cur A lo S ρ r T) (nd : (ns ++ T).Nodup) : PoE V lo (ns ++ T) A S r (e r S) (v ρ) :=
  PoE.from (Out.drop (T := T) nd C.bd) (h A lo S ρ r T C)
theorem sim_tru {a : DE} {va : VE} (ha : SimE a va) : SimT (tru a) (vTru va) := fun A lo S ρ r T C =>
  sim_bind ha C fun A1 S1 ρ1 T1 p d ns C1 h1 nd1 _ => by
    cases e : truP p with
    | none => trivial
    | some b =>
      refine ⟨b, S1, A1, T1, [], ?_, C1.env, ⟨rfl, rfl⟩, Out.drop (T := T) nd1 C1.bd⟩
      rw [truP_ok h1 e]
theorem sim_tst {a : DE} {va : VE} (ha : SimE a va) : SimT (tst a) (vTst va) := fun A lo S ρ r T C =>
  sim_bind ha C fun A1 S1 ρ1 T1 p d ns C1 h1 nd1 _ => by
    cases p <;> first | trivial | skip
    obtain ⟨rfl, _⟩ := h1
    exact ⟨_, S1, A1, T1, [], rfl, C1.env, ⟨rfl, rfl⟩, Out.drop (T := T) nd1 C1.bd⟩
theorem sim_notB {a : DB} {va : VT} (ha : SimT a va) : SimT (notB a) (vNotB va) := fun A lo S ρ r T C =>
  sim_bind ha C fun A1 S1 ρ1 T1 p d ns C1 h1 nd1 _ => by
    obtain ⟨rfl, _⟩ := h1
    exact ⟨_, S1, A1, T1, [], rfl, C1.env, ⟨rfl, rfl⟩, Out.drop (T := T) nd1 C1.bd⟩
theorem sim_andB {a b : DB} {va vb : VT} (ha : SimT a va) (hb : SimT b vb) : SimT (andB a b) (vAndB va vb) := fun A lo S ρ r T C =>
  sim_bind ha C fun A1 S1 ρ1 T1 p d ns C1 h1 nd1 _ => by
    obtain ⟨rfl, _⟩ := h1
    cases p with
    | true => exact hb.go C1 nd1
    | false => exact ⟨_, S1, A1, T1, [], rfl, C1.env, ⟨rfl, rfl⟩, Out.drop (T := T) nd1 C1.bd⟩
theorem sim_orB {a b : DB} {va vb : VT} (ha : SimT a va) (hb : SimT b vb) : SimT (orB a b) (vOrB va vb) := fun A lo S ρ r T C =>
  sim_bind ha C fun A1 S1 ρ1 T1 p d ns C1 h1 nd1 _ => by
    obtain ⟨rfl, _⟩ := h1
    cases p with
    | false => exact hb.go C1 nd1
    | true => exact ⟨_, S1, A1, T1, [], rfl, C1.env, ⟨rfl, rfl⟩, Out.drop (T := T) nd1 C1.bd⟩
theorem sim_notD {a : DE} {va : VE} (ha : SimE a va) : SimE (notD a) (vNotD va) := fun A lo S ρ r T C =>
  sim_bind ha C fun A1 S1 ρ1 T1 p d ns C1 h1 nd1 _ => by
    cases p <;> first | trivial | skip
    obtain ⟨rfl, _⟩ := h1
    exact ⟨_, S1, A1, T1, [], rfl, C1.env, ⟨rfl, rfl⟩, Out.drop (T := T) nd1 C1.bd⟩
theorem sim_andD {a b : DE} {va vb : VE} (ha : SimE a va) (hb : SimE b vb) : SimE (andD a b) (vAndD va vb) := fun A lo S ρ r T C =>
  sim_bind ha C fun A1 S1 ρ1 T1 p d ns C1 h1 nd1 _ => by
    cases p <;> first | trivial | skip
    rename_i k
    obtain ⟨rfl, _⟩ := h1
    cases k with
    | true => exact hb.go C1 nd1
    | false => exact ⟨_, S1, A1, T1, [], rfl, C1.env, ⟨rfl, rfl⟩, Out.drop (T := T) nd1 C1.bd⟩
mutual
def noN : P → Bool
  | .tup xs => noNs xs
  | .nd _ _ _ => false
  | .ow _ _ xs => noNs xs
  | _ => true
def noNs : List P → Bool
  | [] => true
  | x :: xs => noN x && noNs xs
end
section
variable {A A' : Nat → Prop} {lo lo' : Nat} {S S' : Sto}
mutual
theorem VR.noN : ∀ (p : P) (d : D) (ns : List Nat), VR A lo S p d ns → noN p = true → (∀ n ∈ ns, A' n) → lo' ≤ lo → VR A' lo' S p d ns
  | .non, _, _, h, _, _, _ => h
  | .bl _, _, _, h, _, _, _ => h
  | .int _, _, _, h, _, _, _ => h
  | .str _, _, _, h, _, _, _ => h
  | .scr _, _, _, h, _, _, _ => h
  | .hol, _, _, h, _, _, _ => h
  | .tup xs, d, ns, h, z, hn, hl => by
    obtain ⟨ds, e, h⟩ := h
    exact ⟨ds, e, VRs.noN xs ds ns h z hn hl⟩
  | .nd k sh xs, d, ns, h, z, hn, hl => nomatch z
  | .ow k sh xs, d, ns, h, z, hn, hl => by
    obtain ⟨n, ds, ms, e, h1, h2, h3, h4, h5, h6⟩ := h
    subst h5
    exact ⟨n, ds, ms, e, h1, h2, hn n List.mem_cons_self, fun k => Nat.le_trans hl (h4 k), rfl, VRs.noN xs ds ms h6 z (fun m hm => hn m (List.mem_cons_of_mem _ hm)) hl⟩
theorem VRs.noN : ∀ (p : List P) (d : List D) (ns : List Nat), VRs A lo S p d ns → noNs p = true → (∀ n ∈ ns, A' n) → lo' ≤ lo → VRs A' lo' S p d ns
  | [], _, _, h, _, _, _ => h
  | x :: xs, ds, ns, h, z, hn, hl => by
    obtain ⟨d, r, n1, n2, e1, e2, h1, h2⟩ := h
    subst e2
    obtain ⟨z1, z2⟩ := Bool.and_eq_true_iff.mp (show (Hm.noN x && noNs xs) = true from z)
    exact ⟨d, r, n1, n2, e1, rfl, VR.noN x d n1 h1 z1 (fun m hm => hn m (List.mem_append_left _ hm)) hl, VRs.noN xs r n2 h2 z2 (fun m hm => hn m (List.mem_append_right _ hm)) hl⟩
end
theorem EnvR.gen (hF : ∀ n, n < S.length → ¬ A n → S'[n]? = S[n]? ∧ ¬ A' n) (hl : lo' ≤ lo) : ∀ {ρ : VEnv} {r : Ev} {ns : List Nat}, EnvR A lo S ρ r ns → (∀ n ∈ ns, S'[n]? = S[n]? ∧ A' n) → EnvR A' lo' S' ρ r ns
  | [], _, _, h, _ => h
  | o :: ρ, r, ns, h, hT => by
    obtain ⟨x, r', n1, n2, e1, e2, h1, h2⟩ := h
    refine ⟨x, r', n1, n2, e1, e2, ?_, EnvR.gen hF hl h2 fun n hn => hT n (by rw [e2]; exact List.mem_append_right _ hn)⟩
    cases o with
    | none => exact h1
    | some p =>
      obtain ⟨d, e, h1⟩ := h1
      exact ⟨d, e, VR.gen hF p d n1 h1 hl fun n hn => hT n (by rw [e2]; exact List.mem_append_left _ hn)⟩
def vwE (ρ : VEnv) : VEnv := ρ.map (Option.map vw)
theorem EnvR.vw (hF : ∀ n, n < S.length → ¬ A n → ¬ A' n) : ∀ {ρ : VEnv} {r : Ev} {ns : List Nat}, EnvR A lo S ρ r ns → (∀ n ∈ ns, ¬ A' n) → EnvR A' lo' S (vwE ρ) r []
  | [], _, _, h, _ => ⟨h.1, rfl⟩
  | o :: ρ, r, ns, h, hT => by
    obtain ⟨x, r', n1, n2, e1, e2, h1, h2⟩ := h
    refine ⟨x, r', [], [], e1, rfl, ?_, EnvR.vw hF h2 fun n hn => hT n (by rw [e2]; exact List.mem_append_right _ hn)⟩
    cases o with
    | none => exact rfl
    | some p =>
      obtain ⟨d, e, h1⟩ := h1
      exact ⟨d, e, VR.vw hF p d n1 h1 fun n hn => hT n (by rw [e2]; exact List.mem_append_left _ hn)⟩
end
def nobX (x : Xv) : Bool := match x.fld with
  | none => true
  | some (_, p) => nob p
def vBor (e : VE) : VE := fun ρ => match e (vwE ρ) with
  | .ok p _ => if nob p = true then .ok p ρ else .bad
  | .exc x _ => if nobX x = true then .exc x ρ else .bad
  | .bad => .bad
theorem mem_lt_sub {U : List Nat} {n m : Nat} (h : ∀ k ∈ U, k ∈ ([] : List Nat) ∨ m ≤ k) (hn : n ∈ U) : m ≤ n := (h n hn).elim (fun z => nomatch z) id
theorem sim_bor {e : DE} {v : VE} (h : SimE e v) : SimE e (vBor v) := by
  intro A lo S ρ r T C
  have hr := C.env.roots
  have C1 : Cur (fun n => A n ∧ n ∉ T) S.length S (vwE ρ) r [] := ⟨C.env.vw (fun n _ h1 h2 => h1 h2.1) fun n hn hz => hz.2 hn, List.nodup_nil, fun n hn => C.bd n hn.1, Nat.le_refl _⟩
  have q := h _ _ _ _ _ _ C1
  unfold vBor
  revert q
  cases v (vwE ρ) with
  | bad => exact fun _ => trivial
  | ok p ρ1 =>
    dsimp only
    split
    · rename_i hp
      rintro ⟨d, S1, A1, T1, ns, e1, h1, h2, h3⟩
      have nd := List.nodup_append.mp h3.nd
      have hge : ∀ n ∈ ns, S.length ≤ n := fun n hn => mem_lt_sub h3.sub (List.mem_append_left _ hn)
      have av : ∀ n, n < S.length → (A1 n ↔ (A n ∧ n ∉ T)) := fun n hn => h3.st.av n hn (fun z => nomatch z)
      have sm : ∀ n, n < S.length → S1[n]? = S[n]? := fun n hn => h3.st.same n hn (fun z => nomatch z)
      have hE : EnvR (fun n => A1 n ∨ n ∈ T) lo S1 ρ r T := C.env.gen (fun n hn hA => ⟨sm n hn, fun z => by
        rcases z with z | z
        · exact hA ((av n hn).mp z).1
        · exact hA (hr n z).1⟩) (Nat.le_refl _) fun n hn => ⟨sm n (hr n hn).2, .inr hn⟩
      obtain ⟨hV, _⟩ := VR.up (A' := fun n => A1 n ∨ n ∈ T) (lo' := lo) p d ns h2 hp (fun n _ hn hA z => by
        rcases z with z | z
        · exact hA z
        · have := (hr n z).2
          omega) (fun n hn _ => .inl (VR.roots p d ns h2 n hn).1) C.lo
      refine ⟨d, S1, _, T, ns, e1, hE, hV, ⟨⟨h3.st.len, fun n hn _ => sm n hn, fun n hn hT => ?_⟩, fun n hn => ?_, List.nodup_append.mpr ⟨nd.1, C.nd, fun x hx y hy => ?_⟩, fun n hn => ?_⟩⟩
      · constructor
        · intro z
          rcases z with z | z
          · exact ((av n hn).mp z).1
          · exact absurd z hT
        · exact fun z => .inl ((av n hn).mpr ⟨z, hT⟩)
      · rcases List.mem_append.mp hn with z | z
        · exact .inr (hge n z)
        · exact .inl z
      · have h1 := hge x hx
        have h2 := (hr y hy).2
        omega
      · rcases hn with z | z
        · exact h3.bd n z
        · exact Nat.lt_of_lt_of_le (hr n z).2 h3.st.len
    · exact fun _ => trivial
  | exc x ρ1 =>
    dsimp only
    split
    · rename_i hp
      rintro ⟨d, S1, A1, T1, e1, h1, h2, h3⟩
      have av : ∀ n, n < S.length → (A1 n ↔ (A n ∧ n ∉ T)) := fun n hn => h3.st.av n hn (fun z => nomatch z)
      have sm : ∀ n, n < S.length → S1[n]? = S[n]? := fun n hn => h3.st.same n hn (fun z => nomatch z)
      have hE : EnvR (fun n => A1 n ∨ n ∈ T) lo S1 ρ r T := C.env.gen (fun n hn hA => ⟨sm n hn, fun z => by
        rcases z with z | z
        · exact hA ((av n hn).mp z).1
        · exact hA (hr n z).1⟩) (Nat.le_refl _) fun n hn => ⟨sm n (hr n hn).2, .inr hn⟩
      have hX : GoodX (fun n => A1 n ∨ n ∈ T) lo S1 x d := by
        refine ⟨h2.1, ?_⟩
        have z := h2.2
        revert z
        unfold nobX at hp
        split
        · exact id
        · rename_i f p g dd ex _
          rw [ex] at hp
          rintro ⟨z1, z2⟩
          exact ⟨z1, (VR.up (A' := fun n => A1 n ∨ n ∈ T) (lo' := lo) p dd [] z2 hp (fun n _ hn hA z => by
            rcases z with z | z
            · exact hA z
            · have := (hr n z).2
              omega) (fun n hn _ => nomatch hn) C.lo).1⟩
        · exact id
      refine ⟨d, S1, _, T, e1, hE, hX, ⟨⟨h3.st.len, fun n hn _ => sm n hn, fun n hn hT => ?_⟩, fun n hn => .inl hn, C.nd, fun n hn => ?_⟩⟩
      · constructor
        · intro z
          rcases z with z | z
          · exact ((av n hn).mp z).1
          · exact absurd z hT
        · exact fun z => .inl ((av n hn).mpr ⟨z, hT⟩)
      · rcases hn with z | z
        · exact h3.bd n z
        · exact Nat.lt_of_lt_of_le (hr n z).2 h3.st.len
    · exact fun _ => trivial
def vBor1 (j : Nat) (e : VE) : VE := fun ρ => match ρ[j]? with
  | some (some p) => match e ((vwE (ρ.set j none)).set j (some (vi p))) with
    | .ok q ρ1 => (match ρ1[j]? with
      | some (some p1) => if (nob q && noN p1) = true then .ok q (ρ.set j (some p1)) else .bad
      | _ => .bad)
    | .exc x ρ1 => (match ρ1[j]? with
      | some (some p1) => if (nobX x && noN p1) = true then .exc x (ρ.set j (some p1)) else .bad
      | _ => .bad)
    | .bad => .bad
  | _ => .bad
theorem nd_put {ns a b c : List Nat} (h1 : ns.Nodup) (h2 : (a ++ (b ++ c)).Nodup) (h : ∀ x ∈ ns, ∀ y ∈ a ++ (b ++ c), x ≠ y) : (ns ++ (a ++ (b ++ c))).Nodup := List.nodup_append.mpr ⟨h1, h2, h⟩
theorem vwE_none {ρ : VEnv} {j : Nat} : (vwE (ρ.set j none)) = (vwE ρ).set j none := by
  unfold vwE
  rw [List.map_set]
  rfl
theorem sim_bor1 (j : Nat) {e : DE} {v : VE} (h : SimE e v) : SimE e (vBor1 j v) := by
  intro A lo S ρ r T C
  unfold vBor1
  cases ej : ρ[j]? with
  | none => trivial
  | some o =>
  cases o with
  | none => trivial
  | some p =>
  dsimp only
  obtain ⟨a, b, c, x, eT, er, ⟨d0, ex, hp0⟩, put⟩ := C.env.focus j ej
  subst ex
  subst eT
  have hr := C.env.roots
  have hnd := nd_mid C.nd
  have hdis : ∀ n ∈ b, n ∉ a ++ c := fun n h1 h2 => (List.nodup_append.mp hnd).2.2 n h1 n h2 rfl
  have hjl : j < ρ.length := (List.getElem?_eq_some_iff.mp ej).1
  have e0 : EnvR A lo S (ρ.set j none) r (a ++ c) := by
    have z := put none (some d0) [] rfl
    rw [set_self er] at z
    exact z
  have hac : ∀ n ∈ a ++ c, A n ∧ n < S.length := e0.roots
  have e1 : EnvR (fun n => A n ∧ n ∉ a ++ c) S.length S (vwE (ρ.set j none)) r [] := e0.vw (fun n _ h1 h2 => h1 h2.1) fun n hn hz => hz.2 hn
  have hp1 : VR (fun n => A n ∧ n ∉ a ++ c) lo S p d0 b := VR.gen (fun n _ h1 => ⟨rfl, fun h2 => h1 h2.1⟩) p d0 b hp0 (Nat.le_refl _) fun n hn => ⟨rfl, (VR.roots p d0 b hp0 n hn).1, hdis n hn⟩
  have C1 : Cur (fun n => A n ∧ n ∉ a ++ c) S.length S ((vwE (ρ.set j none)).set j (some (vi p))) r b := by
    obtain ⟨a1, b1, c1, x1, q1, q2, q3, put1⟩ := e1.focus j (o := none) (by rw [vwE_none]; exact List.getElem?_set_self (by unfold vwE; rw [List.length_map]; exact hjl))
    have z := put1 (some (vi p)) (some d0) b ⟨d0, rfl, VR.vi p d0 b hp1⟩
    rw [set_self er] at z
    obtain ⟨z1, z2⟩ := List.append_eq_nil_iff.mp q1.symm
    obtain ⟨z3, z4⟩ := List.append_eq_nil_iff.mp z2
    rw [z1, z4, List.nil_append, List.append_nil] at z
    exact ⟨z, (List.nodup_append.mp hnd).1, fun n hn => C.bd n hn.1, Nat.le_refl _⟩
  have q := h _ _ _ _ _ _ C1
  -- what is put back
  have back : ∀ S1 A1 T1 (ρ1 : VEnv) p1 U, EnvR A1 S.length S1 ρ1 r T1 → ρ1[j]? = some (some p1) → noN p1 = true → Out b (fun n => A n ∧ n ∉ a ++ c) S A1 S1 (U ++ T1) → (∀ n ∈ U, S.length ≤ n) →
      ∃ T', EnvR (fun n => A1 n ∨ n ∈ a ++ c) lo S1 (ρ.set j (some p1)) r T' ∧ Out (a ++ (b ++ c)) A S (fun n => A1 n ∨ n ∈ a ++ c) S1 (U ++ T') := by
    intro S1 A1 T1 ρ1 p1 U hE hj hN o hU
    obtain ⟨a1, b1, c1, x1, eT1, er1, ⟨d1, ed1, hq⟩, _⟩ := hE.focus j hj
    rw [er] at er1
    cases er1
    cases ed1
    have sm : ∀ n, n < S.length → n ∉ b → S1[n]? = S[n]? := fun n hn hb => o.st.same n hn hb
    have av : ∀ n, n < S.length → n ∉ b → (A1 n ↔ (A n ∧ n ∉ a ++ c)) := fun n hn hb => o.st.av n hn hb
    have hbA : ∀ n ∈ b, A n := fun n hn => (VR.roots p d0 b hp0 n hn).1
    have hE0 : EnvR (fun n => A1 n ∨ n ∈ a ++ c) lo S1 (ρ.set j none) r (a ++ c) := e0.gen (fun n hn hA => ⟨sm n hn fun z => hA (hbA n z), fun z => by
      rcases z with z | z
      · exact hA ((av n hn fun z => hA (hbA n z)).mp z).1
      · exact hA (hac n z).1⟩) (Nat.le_refl _) fun n hn => ⟨sm n (hac n hn).2 fun z => hdis n z hn, .inr hn⟩
    have hq' : VR (fun n => A1 n ∨ n ∈ a ++ c) lo S1 p1 d0 b1 := VR.noN p1 d0 b1 hq hN (fun n hn => .inl (VR.roots p1 d0 b1 hq n hn).1) C.lo
    obtain ⟨a2, b2, c2, x2, eT2, er2, hs2, put2⟩ := hE0.focus j (o := none) (List.getElem?_set_self hjl)
    have hs2 : b2 = [] := hs2
    subst hs2
    have z := put2 (some p1) (some d0) b1 ⟨d0, rfl, hq'⟩
    rw [List.set_set, set_self er] at z
    have hb1 : ∀ n ∈ b1, n ∈ b ∨ S.length ≤ n := fun n hn => o.sub n (List.mem_append_right _ (by rw [eT1]; simp [hn]))
    have hnd1 : (U ++ (a1 ++ (b1 ++ c1))).Nodup := by rw [← eT1]; exact o.nd
    have nU := (List.nodup_append.mp hnd1).1
    have nb1 : b1.Nodup := (List.nodup_append.mp (nd_mid (List.nodup_append.mp hnd1).2.1)).1
    have dUb : ∀ x ∈ U, ∀ y ∈ b1, x ≠ y := fun x hx y hy => (List.nodup_append.mp hnd1).2.2 x hx y (by simp [hy])
    have eac : a ++ c = a2 ++ c2 := by rw [eT2]; rfl
    have nac : (a2 ++ c2).Nodup := by rw [← eac]; exact (List.nodup_append.mp hnd).2.1
    have mem2 : ∀ n, n ∈ a2 ++ (b1 ++ c2) → n ∈ b1 ∨ n ∈ a ++ c := fun n hn => by
      rw [eac]
      simp only [List.mem_append] at hn ⊢
      rcases hn with hn | hn | hn
      · exact .inr (.inl hn)
      · exact .inl hn
      · exact .inr (.inr hn)
    refine ⟨_, z, ⟨⟨o.st.len, fun n hn hT => sm n hn fun z => hT (by simp [z]), fun n hn hT => ?_⟩, fun n hn => ?_, ?_, fun n hn => ?_⟩⟩
    · have hb : n ∉ b := fun z => hT (by simp [z])
      have hc : n ∉ a ++ c := fun z => hT (by
        simp only [List.mem_append] at z ⊢
        rcases z with z | z
        · exact .inl z
        · exact .inr (.inr z))
      constructor
      · intro z
        rcases z with z | z
        · exact ((av n hn hb).mp z).1
        · exact absurd z hc
      · exact fun z => .inl ((av n hn hb).mpr ⟨z, hc⟩)
    · rcases List.mem_append.mp hn with hn | hn
      · exact .inr (hU n hn)
      · rcases mem2 n hn with hn | hn
        · exact (hb1 n hn).imp (fun z => by simp [z]) id
        · refine .inl ?_
          simp only [List.mem_append] at hn ⊢
          rcases hn with hn | hn
          · exact .inl hn
          · exact .inr (.inr hn)
    · refine nd_put nU ?_ fun x hx y hy => ?_
      · refine (List.nodup_append.mpr ⟨nb1, nac, fun x hx y hy => ?_⟩ : (b1 ++ (a2 ++ c2)).Nodup) |> fun z => nd_mid z
        rw [← eac] at hy
        rcases hb1 x hx with q | q
        · exact fun z => hdis x q (by rw [z]; exact hy)
        · have := (hac y hy).2
          omega
      · rcases mem2 y hy with q | q
        · exact dUb x hx y q
        · have h1 := hU x hx
          have h2 := (hac y q).2
          omega
    · rcases hn with z | z
      · exact o.bd n z
      · exact Nat.lt_of_lt_of_le (hac n z).2 o.st.len
  revert q
  cases v ((vwE (ρ.set j none)).set j (some (vi p))) with
  | bad => exact fun _ => trivial
  | ok q ρ1 =>
    dsimp only
    cases ej1 : ρ1[j]? with
    | none => exact fun _ => trivial
    | some o1 =>
    cases o1 with
    | none => exact fun _ => trivial
    | some p1 =>
    dsimp only
    split
    · rename_i hh
      obtain ⟨hh1, hh2⟩ := Bool.and_eq_true_iff.mp hh
      rintro ⟨d, S1, A1, T1, ns, e2, h1, h2, h3⟩
      have up := VR.up (A' := fun n => A1 n ∨ n ∈ a ++ c) (lo' := lo) q d ns h2 hh1 (fun n _ hn hA z => by
        rcases z with z | z
        · exact hA z
        · have := (hac n z).2
          omega) (fun n hn _ => .inl (VR.roots q d ns h2 n hn).1) C.lo
      obtain ⟨T', b1, b2⟩ := back S1 A1 T1 ρ1 p1 ns h1 ej1 hh2 h3 up.2
      exact ⟨d, S1, _, T', ns, e2, b1, up.1, b2⟩
    · exact fun _ => trivial
  | exc x ρ1 =>
    dsimp only
    cases ej1 : ρ1[j]? with
    | none => exact fun _ => trivial
    | some o1 =>
    cases o1 with
    | none => exact fun _ => trivial
    | some p1 =>
    dsimp only
    split
    · rename_i hh
      obtain ⟨hh1, hh2⟩ := Bool.and_eq_true_iff.mp hh
      rintro ⟨d, S1, A1, T1, e2, h1, h2, h3⟩
      obtain ⟨T', b1, b2⟩ := back S1 A1 T1 ρ1 p1 [] h1 ej1 hh2 h3 (fun _ z => nomatch z)
      refine ⟨d, S1, _, T', e2, b1, ⟨h2.1, ?_⟩, b2⟩
      have z := h2.2
      revert z
      unfold nobX at hh1
      split
      · exact id
      · rename_i f p g dd ex _
        rw [ex] at hh1
        rintro ⟨z1, z2⟩
        exact ⟨z1, (VR.up (A' := fun n => A1 n ∨ n ∈ a ++ c) (lo' := lo) p dd [] z2 hh1 (fun n _ hn hA z => by
          rcases z with z | z
          · exact hA z
          · have := (hac n z).2
            omega) (fun n hn _ => nomatch hn) C.lo).1⟩
      · exact id
    · exact fun _ => trivial
inductive Vf where
  | ok (p : P) (outs : List P) | exc (x : Xv) (outs : List P) | bad
def SimF (k : Nat) (F : List D → Sto → Rs D) (g : List P → Vf) : Prop := ∀ A lo S ps ds ns, VRs A lo S ps ds ns → ns.Nodup → (∀ n, A n → n < S.length) → lo ≤ S.length → match g ps with
  | .ok p outs => ∃ d S' A' n1 n2, F ds S = .ok d S' ∧ VR A' lo S' p d n1 ∧ VRs A' lo S' outs (ds.take k) n2 ∧ Out ns A S A' S' (n1 ++ n2)
  | .exc x outs => ∃ e S' A' n2, F ds S = .exc e S' ∧ GoodX A' lo S' x e ∧ VRs A' lo S' outs (ds.take k) n2 ∧ Out ns A S A' S' n2
  | .bad => True
def vCll0 (g : List P → Vf) (a : VA) : VE := fun ρ => (a ρ).bind fun ps ρ1 => match g (frs ps) with
  | .ok p _ => .ok p ρ1
  | .exc x _ => .exc x ρ1
  | .bad => .bad
theorem freeze {A : Nat → Prop} {lo : Nat} {S : Sto} {ps : List P} {ds : List D} {ns T : List Nat} {ρ : VEnv} {r : Ev} (h : VRs A lo S ps ds ns) (C : Cur A lo S ρ r T) (nd : (ns ++ T).Nodup) :
    VRs (fun n => A n ∧ n ∉ ns) lo S (frs ps) ds [] ∧ Cur (fun n => A n ∧ n ∉ ns) lo S ρ r T ∧ Out (ns ++ T) A S (fun n => A n ∧ n ∉ ns) S T := by
  have hd := (List.nodup_append.mp nd).2.2
  have st : Step ns A S (fun n => A n ∧ n ∉ ns) S := ⟨Nat.le_refl _, fun _ _ _ => rfl, fun n _ hn => ⟨And.left, fun z => ⟨z, hn⟩⟩⟩
  refine ⟨VRs.fr (fun n _ h1 h2 => h1 h2.1) ps ds ns h fun n hn hz => hz.2 hn, ⟨C.env.step st (fun n hn => (VRs.roots ps ds ns h n hn).1) fun n hn hz => hd n hz n hn rfl, C.nd, fun n hn => C.bd n hn.1, C.lo⟩, ⟨st.more fun n hn => List.mem_append_left _ hn, fun n hn => .inl (List.mem_append_right _ hn), C.nd, fun n hn => C.bd n hn.1⟩⟩
theorem sim_cll0 {k : Nat} {F : List D → Sto → Rs D} {g : List P → Vf} {a : DA} {va : VA} (hF : SimF k F g) (ha : SimA a va) : SimE (cll F a) (vCll0 g va) := fun A lo S ρ r T C =>
  sim_bind ha C fun A1 S1 ρ1 T1 ps ds ns C1 h1 nd1 _ => by
    obtain ⟨h2, C2, o2⟩ := freeze h1 C1 nd1
    refine PoE.from o2 ?_
    have q := hF _ lo S1 (frs ps) ds [] h2 List.nodup_nil C2.bd C2.lo
    revert q
    cases g (frs ps) with
    | ok p outs =>
      rintro ⟨d, S', A', n1, n2, e, h3, _, o⟩
      have o' := out_env (T := T1) o (by simpa using C2.nd) fun n hn => (C2.env.roots n hn).2
      have st : Step [] _ S1 A' S' := o.st
      refine ⟨d, S', A', T1, n1, e, C2.env.step st (fun _ z => nomatch z) nil_disj, h3, ?_⟩
      have z := o'.less (V := n1 ++ T1) (fun n hn => by
        simp only [List.mem_append] at hn ⊢
        rcases hn with hn | hn
        · exact .inl (.inl hn)
        · exact .inr hn) (by
        have w := o'.nd
        rw [List.append_assoc] at w
        obtain ⟨w1, w2, w3⟩ := List.nodup_append.mp w
        exact List.nodup_append.mpr ⟨w1, (List.nodup_append.mp w2).2.1, fun x hx y hy => w3 x hx y (List.mem_append_right _ hy)⟩)
      exact z
    | exc x outs =>
      rintro ⟨d, S', A', n2, e, h3, _, o⟩
      have st : Step [] _ S1 A' S' := o.st
      refine ⟨d, S', A', T1, e, C2.env.step st (fun _ z => nomatch z) nil_disj, h3, ⟨st.more fun _ z => (nomatch z), fun n hn => .inl hn, C2.nd, o.bd⟩⟩
    | bad => exact fun _ => trivial
def vCll1 (g : List P → Vf) (j : Nat) (a : VA) : VE := fun ρ => match ρ[j]? with
  | some (some _) => (a ρ).bind fun ps ρ1 => (match ρ1[j]? with
    | some (some q) => (match g (q :: frs ps) with
      | .ok p [q1] => .ok p (ρ1.set j (some q1))
      | .exc x [q1] => .exc x (ρ1.set j (some q1))
      | _ => .bad)
    | _ => .bad)
  | _ => .bad
theorem cll1_eq {F : List D → Sto → Rs D} {j : Nat} {a : DA} {r : Ev} {S : Sto} {d : D} (h : r[j]? = some (some d)) : cll F (dK (dV j) a) r S = (a r S).bind fun ds S1 => F (d :: ds) S1 := by
  unfold cll dK dV
  rw [h]
  show (((a r S).bind fun xs S2 => Rs.ok (d :: xs) S2).bind fun xs S1 => F xs S1) = _
  cases a r S <;> rfl
theorem sim_cll1 (j : Nat) {F : List D → Sto → Rs D} {g : List P → Vf} {a : DA} {va : VA} (hF : SimF 1 F g) (ha : SimA a va) : SimE (cll F (dK (dV j) a)) (vCll1 g j va) := by
  intro A lo S ρ r T C
  unfold vCll1
  cases ej : ρ[j]? with
  | none => trivial
  | some o =>
  cases o with
  | none => trivial
  | some p0 =>
  dsimp only
  obtain ⟨_, _, _, _, _, er, ⟨d0, rfl, _⟩, _⟩ := C.env.focus j ej
  rw [cll1_eq er]
  refine sim_bind ha C fun A1 S1 ρ1 T1 ps ds ns C1 h1 nd1 _ => ?_
  cases ej1 : ρ1[j]? with
  | none => trivial
  | some o =>
  cases o with
  | none => trivial
  | some q =>
  dsimp only
  obtain ⟨h2, C2, o2⟩ := freeze h1 C1 nd1
  refine PoE.from o2 ?_
  obtain ⟨a, b, c, x, eT, er1, ⟨d1, ex, hq⟩, put⟩ := C2.env.focus j ej1
  subst eT
  rw [er] at er1
  cases er1
  cases ex
  have hnd := nd_mid C2.nd
  have hjl : j < ρ1.length := (List.getElem?_eq_some_iff.mp ej1).1
  have e0 : EnvR (fun n => A1 n ∧ n ∉ ns) lo S1 (ρ1.set j none) r (a ++ c) := by
    have z := put none (some d0) [] rfl
    rw [set_self er] at z
    exact z
  have hargs : VRs (fun n => A1 n ∧ n ∉ ns) lo S1 (q :: frs ps) (d0 :: ds) b := ⟨d0, ds, b, [], rfl, (List.append_nil b).symm, hq, h2⟩
  have hd : ∀ n ∈ a ++ c, n ∉ b := fun n h1 h2 => (List.nodup_append.mp hnd).2.2 n h2 n h1 rfl
  have w := hF _ lo S1 (q :: frs ps) (d0 :: ds) b hargs (List.nodup_append.mp hnd).1 C2.bd C2.lo
  have back : ∀ A' S' n1 n2 q1, VRs A' lo S' [q1] ((d0 :: ds).take 1) n2 → Out b (fun n => A1 n ∧ n ∉ ns) S1 A' S' (n1 ++ n2) → ∃ T', EnvR A' lo S' (ρ1.set j (some q1)) r T' ∧ Out (a ++ (b ++ c)) (fun n => A1 n ∧ n ∉ ns) S1 A' S' (n1 ++ T') := by
    intro A' S' n1 n2 q1 h3 o
    have h3 : VRs A' lo S' [q1] [d0] n2 := h3
    obtain ⟨_, e, h4⟩ := VRs.inv1 h3
    cases e
    have e1 : EnvR A' lo S' (ρ1.set j none) r (a ++ c) := e0.step o.st (fun n hn => (VR.roots q d0 b hq n hn).1) hd
    obtain ⟨a2, b2, c2, x2, eT2, er2, hs2, put2⟩ := e1.focus j (o := none) (List.getElem?_set_self hjl)
    have hs2 : b2 = [] := hs2
    subst hs2
    have z := put2 (some q1) (some d0) n2 ⟨d0, rfl, h4⟩
    rw [List.set_set, set_self er] at z
    have eac : a ++ c = a2 ++ c2 := by rw [eT2]; rfl
    have o' : Out (b ++ (a ++ c)) (fun n => A1 n ∧ n ∉ ns) S1 A' S' ((n1 ++ n2) ++ (a ++ c)) := out_env o hnd fun n hn => (e0.roots n hn).2
    rw [eac] at o'
    have pm : (n1 ++ (a2 ++ (n2 ++ c2))).Perm ((n1 ++ n2) ++ (a2 ++ c2)) := by
      rw [List.append_assoc]
      refine List.Perm.append_left n1 ?_
      rw [← List.append_assoc, ← List.append_assoc]
      exact List.Perm.append_right c2 List.perm_append_comm
    refine ⟨_, z, ⟨o'.st.more fun n hn => ?_, fun n hn => ?_, pm.nodup_iff.mpr o'.nd, o'.bd⟩⟩
    · rw [← eac] at hn
      exact mem_mid hn
    · rcases o'.sub n (pm.mem_iff.mp hn) with z | z
      · rw [← eac] at z
        exact .inl (mem_mid z)
      · exact .inr z
  revert w
  cases g (q :: frs ps) with
  | bad => exact fun _ => trivial
  | ok p outs =>
    match outs with
    | [] => exact fun _ => trivial
    | _ :: _ :: _ => exact fun _ => trivial
    | [q1] =>
      rintro ⟨d, S', A', n1, n2, e, h3, h4, o⟩
      obtain ⟨T', b1, b2⟩ := back A' S' n1 n2 q1 h4 o
      exact ⟨d, S', A', T', n1, e, b1, h3, b2⟩
  | exc x outs =>
    match outs with
    | [] => exact fun _ => trivial
    | _ :: _ :: _ => exact fun _ => trivial
    | [q1] =>
      rintro ⟨d, S', A', n2, e, h3, h4, o⟩
      obtain ⟨T', b1, b2⟩ := back A' S' [] n2 q1 h4 o
      exact ⟨d, S', A', T', e, b1, h3, b2⟩
def vNoP : VEnv → Vr (Option Int) := fun ρ => .ok none ρ
def vP (a : VE) : VEnv → Vr (Option Int) := fun ρ => (a ρ).bind fun x ρ1 => match x with
  | .int i => .ok (some i) ρ1
  | _ => .bad
def VO : Vl (Option Int) (Option Int) := fun _ _ _ a b ns => a = b ∧ ns = []
theorem sim_noP : SimG VO dNoP vNoP := fun A lo S ρ r T C => ⟨none, S, A, T, [], rfl, C.env, ⟨rfl, rfl⟩, Out.refl C.nd C.bd⟩
theorem sim_P {a : DE} {va : VE} (ha : SimE a va) : SimG VO (dP a) (vP va) := fun A lo S ρ r T C =>
  sim_bind ha C fun A1 S1 ρ1 T1 p d ns C1 h1 nd1 _ => by
    cases p <;> first | trivial | skip
    obtain ⟨rfl, _⟩ := h1
    exact ⟨_, S1, A1, T1, [], rfl, C1.env, ⟨rfl, rfl⟩, Out.drop (T := T) nd1 C1.bd⟩
def vSli (a : VE) (lo hi : VEnv → Vr (Option Int)) : VE := fun ρ => (a ρ).bind fun x ρ1 => (lo ρ1).bind fun l ρ2 => (hi ρ2).bind fun h ρ3 => match slP x l h with
  | some y => .ok y ρ3
  | none => .bad
theorem sim_sli {a : DE} {va : VE} {lo hi : Ev → Sto → Rs (Option Int)} {vl vh : VEnv → Vr (Option Int)} (ha : SimE a va) (hl : SimG VO lo vl) (hh : SimG VO hi vh) : SimE (sli a lo hi) (vSli va vl vh) := fun A l0 S ρ r T C =>
  sim_bind ha C fun A1 S1 ρ1 T1 p d ns C1 h1 nd1 _ =>
    PoE.held stP (hl A1 l0 S1 ρ1 r T1 C1) C1.rootsA h1 nd1 C1.lo fun A2 S2 ρ2 T2 l l' ms C2 h2 h3 nd2 _ => by
      obtain ⟨rfl, rfl⟩ := h2
      refine PoE.held stP (hh A2 l0 S2 ρ2 r T2 C2) C2.rootsA h3 nd2 C2.lo fun A3 S3 ρ3 T3 k k' ms C3 h4 h5 nd3 _ => ?_
      obtain ⟨rfl, rfl⟩ := h4
      cases e : slP p l k with
      | none => trivial
      | some y =>
        obtain ⟨d2, S4, A4, ks, e1, h6, o, st⟩ := op_slP l k A3 l0 S3 [p] [d] ns y ⟨d, [], ns, [], rfl, (List.append_nil _).symm, h5, ⟨rfl, rfl⟩⟩ (List.nodup_append.mp nd3).1 C3.bd C3.lo e
        have e1 : slD d l k S3 = .ok d2 S4 := e1
        refine ⟨d2, S4, A4, T3, ks, by rw [e1]; rfl, C3.env.step st (fun _ z => nomatch z) nil_disj, h6, out_env o nd3 fun n hn => (C3.env.roots n hn).2⟩
inductive Vt where
  | nx (ρ : VEnv) | rt (p : P) (ρ : VEnv) | bk (ρ : VEnv) | ct (ρ : VEnv) | exc (x : Xv) (ρ : VEnv) | bad
abbrev VS := VEnv → Vt
def Pin (k : List Nat) (r r' : Ev) : Prop := ∀ i, i ∈ k → r'[i]? = r[i]?
theorem Pin.refl (k : List Nat) (r : Ev) : Pin k r r := fun _ _ => rfl
theorem Pin.trans {k : List Nat} {r r1 r2 : Ev} (h : Pin k r r1) (h' : Pin k r1 r2) : Pin k r r2 := fun i hi => (h' i hi).trans (h i hi)
def PoS (k : List Nat) (lo : Nat) (T : List Nat) (A : Nat → Prop) (S : Sto) (r : Ev) (h : Rt) (v : Vt) : Prop := match v with
  | .nx ρ' => ∃ r' S' A' T', h = .nx r' S' ∧ EnvR A' lo S' ρ' r' T' ∧ Out T A S A' S' T' ∧ Pin k r r'
  | .bk ρ' => ∃ r' S' A' T', h = .bk r' S' ∧ EnvR A' lo S' ρ' r' T' ∧ Out T A S A' S' T' ∧ Pin k r r'
  | .ct ρ' => ∃ r' S' A' T', h = .ct r' S' ∧ EnvR A' lo S' ρ' r' T' ∧ Out T A S A' S' T' ∧ Pin k r r'
  | .rt p ρ' => ∃ d r' S' A' T' ns, h = .rt d S' ∧ EnvR A' lo S' ρ' r' T' ∧ VR A' lo S' p d ns ∧ Out T A S A' S' (ns ++ T') ∧ Pin k r r'
  | .exc x ρ' => ∃ e r' S' A' T', h = .exc e r' S' ∧ EnvR A' lo S' ρ' r' T' ∧ GoodX A' lo S' x e ∧ Out T A S A' S' T' ∧ Pin k r r'
  | .bad => True
def SimS (k : List Nat) (s : DS) (v : VS) : Prop := ∀ A lo S ρ r T, Cur A lo S ρ r T → PoS k lo T A S r (s r S) (v ρ)
theorem PoS.from {k : List Nat} {lo : Nat} {T T1 : List Nat} {A A1 : Nat → Prop} {S S1 : Sto} {r r1 : Ev} {h : Rt} {v : Vt} (o : Out T A S A1 S1 T1) (pn : Pin k r r1) (p : PoS k lo T1 A1 S1 r1 h v) : PoS k lo T A S r h v := by
  cases v with
  | nx ρ' =>
    obtain ⟨r', S', A', T', e, h1, h2, h3⟩ := p
    exact ⟨r', S', A', T', e, h1, o.trans h2, pn.trans h3⟩
  | bk ρ' =>
    obtain ⟨r', S', A', T', e, h1, h2, h3⟩ := p
    exact ⟨r', S', A', T', e, h1, o.trans h2, pn.trans h3⟩
  | ct ρ' =>
    obtain ⟨r', S', A', T', e, h1, h2, h3⟩ := p
    exact ⟨r', S', A', T', e, h1, o.trans h2, pn.trans h3⟩
  | rt p0 ρ' =>
    obtain ⟨d, r', S', A', T', ns, e, h1, h2, h3, h4⟩ := p
    exact ⟨d, r', S', A', T', ns, e, h1, h2, o.trans h3, pn.trans h4⟩
  | exc x ρ' =>
    obtain ⟨d, r', S', A', T', e, h1, h2, h3, h4⟩ := p
    exact ⟨d, r', S', A', T', e, h1, h2, o.trans h3, pn.trans h4⟩
  | bad => trivial
def Vr.st {α : Type} (v : Vr α) (f : α → VEnv → Vt) : Vt := match v with
  | .ok p ρ => f p ρ
  | .exc x ρ => .exc x ρ
  | .bad => .bad
section
variable {k : List Nat}
theorem sim_st {e : DE} {v : VE} {f : D → Sto → Rt} {g : P → VEnv → Vt} (h : SimE e v) {A : Nat → Prop} {lo : Nat} {S : Sto} {ρ : VEnv} {r : Ev} {T : List Nat} (C : Cur A lo S ρ r T)
    (c : ∀ A1 S1 ρ1 T1 p d ns, Cur A1 lo S1 ρ1 r T1 → VR A1 lo S1 p d ns → (ns ++ T1).Nodup → Out T A S A1 S1 (ns ++ T1) → PoS k lo (ns ++ T1) A1 S1 r (f d S1) (g p ρ1)) : PoS k lo T A S r ((e r S).st r f) ((v ρ).st g) := by
  have q := h A lo S ρ r T C
  revert q
  cases v ρ with
  | ok p ρ1 =>
    rintro ⟨d, S1, A1, T1, ns, e1, h1, h2, h3⟩
    rw [e1]
    exact PoS.from h3 (Pin.refl _ _) (c A1 S1 ρ1 T1 p d ns (h3.cur C.lo h1) h2 h3.nd h3)
  | exc x ρ1 =>
    rintro ⟨d, S1, A1, T1, e1, h1, h2, h3⟩
    rw [e1]
    exact ⟨d, r, S1, A1, T1, rfl, h1, h2, h3, Pin.refl _ _⟩
  | bad => exact fun _ => trivial
theorem sim_stB {e : DB} {v : VT} {f : Bool → Sto → Rt} {g : Bool → VEnv → Vt} (h : SimT e v) {A : Nat → Prop} {lo : Nat} {S : Sto} {ρ : VEnv} {r : Ev} {T : List Nat} (C : Cur A lo S ρ r T)
    (c : ∀ A1 S1 ρ1 T1 b, Cur A1 lo S1 ρ1 r T1 → PoS k lo T1 A1 S1 r (f b S1) (g b ρ1)) : PoS k lo T A S r ((e r S).stB r f) ((v ρ).st g) := by
  have q := h A lo S ρ r T C
  revert q
  cases v ρ with
  | ok p ρ1 =>
    rintro ⟨d, S1, A1, T1, ns, e1, h1, ⟨h2, h4⟩, h3⟩
    subst h2 h4
    rw [e1]
    exact PoS.from h3 (Pin.refl _ _) (c A1 S1 ρ1 T1 p (h3.cur (U := []) C.lo h1))
  | exc x ρ1 =>
    rintro ⟨d, S1, A1, T1, e1, h1, h2, h3⟩
    rw [e1]
    exact ⟨d, r, S1, A1, T1, rfl, h1, h2, h3, Pin.refl _ _⟩
  | bad => exact fun _ => trivial
def vNx : VS := fun ρ => .nx ρ
def vBad : VS := fun _ => .bad
def vEx (a : VE) : VS := fun ρ => (a ρ).st fun _ ρ1 => .nx ρ1
def vRt (a : VE) : VS := fun ρ => (a ρ).st fun p ρ1 => .rt p ρ1
def vRn : VS := fun ρ => .rt .non ρ
def vIf (c : VT) (a b : VS) : VS := fun ρ => (c ρ).st fun x ρ1 => if x = true then a ρ1 else b ρ1
def vBk : VS := fun ρ => .bk ρ
def vCt : VS := fun ρ => .ct ρ
def Vt.andThen (x : Vt) (f : VS) : Vt := match x with
  | .nx ρ => f ρ
  | x => x
def vSq (a b : VS) : VS := fun ρ => (a ρ).andThen b
theorem sim_nx : SimS k sNx vNx := fun A lo S ρ r T C => ⟨r, S, A, T, rfl, C.env, Out.refl C.nd C.bd, Pin.refl _ _⟩
theorem sim_bad {s : DS} : SimS k s vBad := fun A lo S ρ r T C => trivial
theorem sim_rt {a : DE} {va : VE} (ha : SimE a va) : SimS k (sRt a) (vRt va) := fun A lo S ρ r T C =>
  sim_st ha C fun A1 S1 ρ1 T1 p d ns C1 h1 nd1 _ => ⟨d, r, S1, A1, T1, ns, rfl, C1.env, h1, Out.refl nd1 C1.bd, Pin.refl _ _⟩
theorem sim_if {c : DB} {a b : DS} {vc : VT} {va vb : VS} (hc : SimT c vc) (ha : SimS k a va) (hb : SimS k b vb) : SimS k (sIf c a b) (vIf vc va vb) := fun A lo S ρ r T C =>
  sim_stB hc C fun A1 S1 ρ1 T1 x C1 => by
    cases x with
    | true => exact ha A1 lo S1 ρ1 r T1 C1
    | false => exact hb A1 lo S1 ρ1 r T1 C1
theorem Out.cur' {T U : List Nat} {A A' : Nat → Prop} {S S' : Sto} {lo : Nat} {ρ : VEnv} {r : Ev} (o : Out T A S A' S' U) (hl : lo ≤ S.length) (h : EnvR A' lo S' ρ r U) : Cur A' lo S' ρ r U := ⟨h, o.nd, o.bd, Nat.le_trans hl o.st.len⟩
theorem sim_sq {a b : DS} {va vb : VS} (ha : SimS k a va) (hb : SimS k b vb) : SimS k (sSq a b) (vSq va vb) := by
  intro A lo S ρ r T C
  have q := ha A lo S ρ r T C
  unfold sSq vSq
  revert q
  cases va ρ with
  | nx ρ1 =>
    rintro ⟨r1, S1, A1, T1, e, h1, h2, h3⟩
    rw [e]
    exact PoS.from h2 h3 (hb A1 lo S1 ρ1 r1 T1 (h2.cur' C.lo h1))
  | bk ρ1 =>
    rintro ⟨r1, S1, A1, T1, e, h1⟩
    rw [e]
    exact ⟨r1, S1, A1, T1, rfl, h1⟩
  | ct ρ1 =>
    rintro ⟨r1, S1, A1, T1, e, h1⟩
    rw [e]
    exact ⟨r1, S1, A1, T1, rfl, h1⟩
  | rt p ρ1 =>
    rintro ⟨d, r1, S1, A1, T1, ns, e, h1⟩
    rw [e]
    exact ⟨d, r1, S1, A1, T1, ns, rfl, h1⟩
  | exc x ρ1 =>
    rintro ⟨d, r1, S1, A1, T1, e, h1⟩
    rw [e]
    exact ⟨d, r1, S1, A1, T1, rfl, h1⟩
  | bad => exact fun _ => trivial
abbrev VG := P → VEnv → Option VEnv
def SimGt (k : List Nat) (g : DG) (v : VG) : Prop := ∀ A lo S ρ r T p d ns, Cur A lo S ρ r T → VR A lo S p d ns → (ns ++ T).Nodup → ∀ ρ', v p ρ = some ρ' →
  ∃ r' S' A' T', g d r S = some (r', S') ∧ EnvR A' lo S' ρ' r' T' ∧ Out (ns ++ T) A S A' S' T' ∧ Pin k r r'
abbrev VGs := List P → VEnv → Option VEnv
def SimGts (k : List Nat) (g : DGs) (v : VGs) : Prop := ∀ A lo S ρ r T p d ns, Cur A lo S ρ r T → VRs A lo S p d ns → (ns ++ T).Nodup → ∀ ρ', v p ρ = some ρ' →
  ∃ r' S' A' T', g d r S = some (r', S') ∧ EnvR A' lo S' ρ' r' T' ∧ Out (ns ++ T) A S A' S' T' ∧ Pin k r r'
def vgV (i : Nat) : VG := fun p ρ => if i < ρ.length then some (ρ.set i (some p)) else none
def vgN : VGs := fun ps ρ => match ps with
  | [] => some ρ
  | _ => none
def vgC (g : VG) (h : VGs) : VGs := fun ps ρ => match ps with
  | p :: ps => (g p ρ).bind fun ρ1 => h ps ρ1
  | [] => none
def vgT (n : Nat) (h : VGs) : VG := fun p ρ => match p with
  | .tup xs => if xs.length = n then h xs ρ else none
  | _ => none
theorem pin_set {k : List Nat} {i : Nat} (h : i ∉ k) {r : Ev} {x : Option D} : Pin k r (r.set i x) := fun j hj => List.getElem?_set_ne fun z => h (by rw [z]; exact hj)
theorem EnvR.store {A : Nat → Prop} {lo : Nat} {S : Sto} {ρ : VEnv} {r : Ev} {T ns : List Nat} {p : P} {d : D} (i : Nat) (hi : i < ρ.length) (C : Cur A lo S ρ r T) (h : VR A lo S p d ns) (nd : (ns ++ T).Nodup) : ∃ T', EnvR A lo S (ρ.set i (some p)) (r.set i (some d)) T' ∧ Out (ns ++ T) A S A S T' := by
  obtain ⟨a, b, c, x, eT, er, hs, put⟩ := C.env.focus i (List.getElem?_eq_getElem hi)
  subst eT
  refine ⟨a ++ (ns ++ c), put _ _ ns ⟨d, rfl, h⟩, (Out.refl nd C.bd).less (fun n hn => ?_) ?_⟩
  · simp only [List.mem_append] at hn ⊢
    rcases hn with hn | hn | hn
    · exact .inr (.inl hn)
    · exact .inl hn
    · exact .inr (.inr (.inr hn))
  · obtain ⟨n1, n2, n3⟩ := List.nodup_append.mp nd
    have n4 := nd_mid n2
    obtain ⟨n5, n6, n7⟩ := List.nodup_append.mp n4
    refine nd_mid (List.nodup_append.mpr ⟨n1, n6, fun x hx y hy => n3 x hx y ?_⟩ : (ns ++ (a ++ c)).Nodup)
    simp only [List.mem_append] at hy ⊢
    rcases hy with hy | hy
    · exact .inl hy
    · exact .inr (.inr hy)
theorem sim_gV (i : Nat) (hk : i ∉ k) : SimGt k (gV i) (vgV i) := by
  intro A lo S ρ r T p d ns C h nd ρ' e
  unfold vgV at e
  split at e
  · rename_i hi
    cases e
    obtain ⟨T', h1, h2⟩ := EnvR.store i hi C h nd
    exact ⟨_, S, A, T', rfl, h1, h2, pin_set hk⟩
  · cases e
theorem sim_gN : SimGts k gN vgN := by
  intro A lo S ρ r T p d ns C h nd ρ' e
  cases p with
  | nil =>
    cases e
    obtain ⟨rfl, rfl⟩ := h
    exact ⟨r, S, A, T, rfl, C.env, Out.refl C.nd C.bd, Pin.refl _ _⟩
  | cons => cases e
theorem sim_gC {g : DG} {h : DGs} {vg : VG} {vh : VGs} (hg : SimGt k g vg) (hh : SimGts k h vh) : SimGts k (gC g h) (vgC vg vh) := by
  intro A lo S ρ r T p d ns C hv nd ρ' e
  cases p with
  | nil => cases e
  | cons p ps =>
    obtain ⟨d, ds, n1, n2, rfl, rfl, h1, h2⟩ := hv
    obtain ⟨ρ1, e1, e2⟩ := Option.bind_eq_some_iff.mp (show (vg p ρ).bind (fun ρ1 => vh ps ρ1) = some ρ' from e)
    have nd' : (n1 ++ (n2 ++ T)).Nodup := by rw [← List.append_assoc]; exact nd
    have nd1 : (n1 ++ T).Nodup := by
      obtain ⟨z1, z2, z3⟩ := List.nodup_append.mp nd'
      exact List.nodup_append.mpr ⟨z1, (List.nodup_append.mp z2).2.1, fun x hx y hy => z3 x hx y (List.mem_append_right _ hy)⟩
    obtain ⟨r1, S1, A1, T1, q1, q2, q3, q4⟩ := hg A lo S ρ r T p d n1 C h1 nd1 ρ1 e1
    have nd2 : (n2 ++ (n1 ++ T)).Nodup := nd_mid nd'
    have dj : ∀ n ∈ n2, n ∉ n1 ++ T := fun n h1 h2 => (List.nodup_append.mp nd2).2.2 n h1 n h2 rfl
    have o := q3.held nd2 fun n hn => (VRs.roots ps ds n2 h2 n hn).2
    have h3 := VRs.step q3.st (fun n hn => by
      rcases List.mem_append.mp hn with z | z
      · exact (VR.roots p d n1 h1 n z).1
      · exact C.rootsA n z) h2 dj
    obtain ⟨r2, S2, A2, T2, q5, q6, q7, q8⟩ := hh A1 lo S1 ρ1 r1 T1 ps ds n2 (q3.cur' C.lo q2) h3 o.nd ρ' e2
    refine ⟨r2, S2, A2, T2, ?_, q6, ?_, q4.trans q8⟩
    · show (g d r S).bind (fun p => h ds p.1 p.2) = _
      rw [q1]
      exact q5
    · have o2 := o.trans q7
      have mm : ∀ n, n ∈ n2 ++ (n1 ++ T) ↔ n ∈ (n1 ++ n2) ++ T := fun n => by
        simp only [List.mem_append]
        constructor
        · rintro (z | z | z)
          · exact .inl (.inr z)
          · exact .inl (.inl z)
          · exact .inr z
        · rintro ((z | z) | z)
          · exact .inr (.inl z)
          · exact .inl z
          · exact .inr (.inr z)
      exact ⟨o2.st.more fun n hn => (mm n).mp hn, fun n hn => (o2.sub n hn).imp (mm n).mp id, o2.nd, o2.bd⟩
theorem sim_gT {n : Nat} {h : DGs} {vh : VGs} (hh : SimGts k h vh) : SimGt k (gT n h) (vgT n vh) := by
  intro A lo S ρ r T p d ns C hv nd ρ' e
  cases p <;> first | (cases e; done) | skip
  rename_i xs
  have e' : (if xs.length = n then vh xs ρ else none) = some ρ' := e
  split at e'
  · rename_i hn
    obtain ⟨ds, rfl, hv⟩ := hv
    obtain ⟨r', S', A', T', q1, q2⟩ := hh A lo S ρ r T xs ds ns C hv nd ρ' e'
    refine ⟨r', S', A', T', ?_, q2⟩
    show (if ds.length = n then h ds r S else none) = _
    rw [if_pos (by rw [hv.length]; exact hn)]
    exact q1
  · cases e'
def vAs (a : VE) (g : VG) : VS := fun ρ => (a ρ).st fun p ρ1 => match g p ρ1 with
  | some ρ2 => .nx ρ2
  | none => .bad
theorem sim_as {a : DE} {va : VE} {g : DG} {vg : VG} (ha : SimE a va) (hg : SimGt k g vg) : SimS k (sAs a g) (vAs va vg) := fun A lo S ρ r T C =>
  sim_st ha C fun A1 S1 ρ1 T1 p d ns C1 h1 nd1 _ => by
    cases e : vg p ρ1 with
    | none => trivial
    | some ρ2 =>
      obtain ⟨r', S', A', T', q1, q2, q3, q4⟩ := hg A1 lo S1 ρ1 r T1 p d ns C1 h1 nd1 ρ2 e
      exact ⟨r', S', A', T', by rw [q1], q2, q3, q4⟩
end
section
variable {k : List Nat}
def vPr (i j : Nat) (a : VA) : VS := fun ρ => (a ρ).st fun ps ρ1 => match ps with
  | [x, y] => (match (vgC (vgV i) (vgC (vgV j) vgN)) [x, y] ρ1 with
    | some ρ2 => .nx ρ2
    | none => .bad)
  | _ => .bad
theorem sim_pr (i j : Nat) (hi : i ∉ k) (hj : j ∉ k) {a : DA} {va : VA} (ha : SimA a va) : SimS k (sPr i j a) (vPr i j va) := by
  intro A lo S ρ r T C
  have q := ha A lo S ρ r T C
  unfold sPr vPr
  revert q
  cases va ρ with
  | ok ps ρ1 =>
    rintro ⟨ds, S1, A1, T1, ns, e1, h1, h2, h3⟩
    rw [e1]
    match ps, h2 with
    | [], _ => trivial
    | [_], _ => trivial
    | _ :: _ :: _ :: _, _ => trivial
    | [x, y], h2 =>
      obtain ⟨d, e, n1, n2, rfl, _, _⟩ := VRs.inv2 (id h2)
      show PoS k lo T A S r _ (match (vgC (vgV i) (vgC (vgV j) vgN)) [x, y] ρ1 with
        | some ρ2 => .nx ρ2
        | none => .bad)
      cases e : (vgC (vgV i) (vgC (vgV j) vgN)) [x, y] ρ1 with
      | none => trivial
      | some ρ2 =>
        obtain ⟨r', S', A', T', q1, q2, q3, q4⟩ := sim_gC (sim_gV i hi) (sim_gC (sim_gV j hj) (sim_gN (k := k))) A1 lo S1 ρ1 r T1 [x, y] _ ns (h3.cur C.lo h1) h2 h3.nd ρ2 e
        cases q1
        exact PoS.from h3 (Pin.refl _ _) ⟨_, _, A', T', rfl, q2, q3, q4⟩
  | exc x ρ1 =>
    rintro ⟨d, S1, A1, T1, e1, h1, h2, h3⟩
    rw [e1]
    exact ⟨d, r, S1, A1, T1, rfl, h1, h2, h3, Pin.refl _ _⟩
  | bad => exact fun _ => trivial
def vAugV (i : Nat) (a : VE) : VS := fun ρ => match ρ[i]? with
  | some (some (.int u)) => (a ρ).st fun y ρ1 => (match y with
    | .int b => if i < ρ1.length then .nx (ρ1.set i (some (.int (u + b)))) else .bad
    | _ => .bad)
  | _ => .bad
end
def outsV : Nat → VEnv → Option (List P)
  | 0, _ => some []
  | k + 1, some p :: ρ => (outsV k ρ).map (p :: ·)
  | _ + 1, _ => none
def endV (k : Nat) (p : P) (ρ : VEnv) : Vf := match outsV k ρ with
  | some os => .ok p os
  | none => .bad
def gnD (k n N : Nat) (b : VS) : List P → Vf := fun ps => if ps.length = n then (match b (ps.map some ++ List.replicate (N - ps.length) none) with
  | .nx ρ => endV k .non ρ
  | .rt p ρ => endV k p ρ
  | .exc x ρ => (match outsV k ρ with
    | some os => .exc x os
    | none => .bad)
  | _ => .bad) else .bad
section
variable {A : Nat → Prop} {lo : Nat} {S : Sto}
theorem env_none : ∀ {m : Nat}, EnvR A lo S (List.replicate m none) (List.replicate m none) []
  | 0 => ⟨rfl, rfl⟩
  | m + 1 => ⟨none, _, [], [], rfl, rfl, rfl, env_none⟩
theorem env_start : ∀ {ps : List P} {ds : List D} {ns : List Nat} {m : Nat}, VRs A lo S ps ds ns → EnvR A lo S (ps.map some ++ List.replicate m none) (ds.map some ++ List.replicate m none) ns
  | [], ds, ns, m, h => by
    obtain ⟨rfl, rfl⟩ := h
    exact env_none
  | p :: ps, ds, ns, m, h => by
    obtain ⟨d, r, n1, n2, rfl, rfl, h1, h2⟩ := h
    exact ⟨some d, _, n1, n2, rfl, rfl, ⟨d, rfl, h1⟩, env_start h2⟩
theorem env_outs : ∀ {k : Nat} {ρ : VEnv} {r : Ev} {T : List Nat} {os : List P} {ds : List D}, EnvR A lo S ρ r T → outsV k ρ = some os → (∀ i, i < k → r[i]? = (ds.map some)[i]?) → ∃ n2, VRs A lo S os (ds.take k) n2 ∧ n2.Sublist T
  | 0, ρ, r, T, os, ds, h, e, hr => by
    cases e
    exact ⟨[], ⟨by rw [List.take_zero], rfl⟩, List.nil_sublist _⟩
  | k + 1, [], r, T, os, ds, h, e, hr => nomatch e
  | k + 1, none :: ρ, r, T, os, ds, h, e, hr => nomatch e
  | k + 1, some p :: ρ, r, T, os, ds, h, e, hr => by
    obtain ⟨x, r', n1, n2, rfl, rfl, ⟨d, rfl, h1⟩, h2⟩ := h
    obtain ⟨os', e1, rfl⟩ := Option.map_eq_some_iff.mp (show (outsV k ρ).map (p :: ·) = some os from e)
    cases ds with
    | nil => have := hr 0 (by omega); cases this
    | cons d' ds =>
      have e0 := hr 0 (by omega)
      cases e0
      obtain ⟨m2, q1, q2⟩ := env_outs (k := k) (ds := ds) h2 e1 fun i hi => by simpa using hr (i + 1) (by omega)
      exact ⟨n1 ++ m2, ⟨d, _, n1, m2, rfl, rfl, h1, q1⟩, List.Sublist.append (List.Sublist.refl _) q2⟩
end
theorem sub_nd {a b c : List Nat} (h : (a ++ b).Nodup) (s : c.Sublist b) : (a ++ c).Nodup := (List.Sublist.append (List.Sublist.refl a) s).nodup h
theorem sim_fn {k n N : Nat} (hk : k ≤ n) {b : DS} {vb : VS} (hb : SimS (List.range k) b vb) : SimF k (fnD n N b) (gnD k n N vb) := by
  intro A lo S ps ds ns hv nd bd hl
  unfold gnD fnD
  by_cases hn : ps.length = n
  · rw [if_pos hn, if_pos (by rw [hv.length]; exact hn)]
    rw [hv.length]
    have q := hb A lo S _ _ ns ⟨env_start (m := N - ps.length) hv, nd, bd, hl⟩
    have pin : ∀ {r'}, Pin (List.range k) (ds.map some ++ List.replicate (N - ps.length) none) r' → ∀ i, i < k → r'[i]? = (ds.map some)[i]? := fun h i hi => by
      rw [h i (List.mem_range.mpr hi), List.getElem?_append_left (by rw [List.length_map, hv.length]; omega)]
    revert q
    cases vb (ps.map some ++ List.replicate (N - ps.length) none) with
    | nx ρ =>
      rintro ⟨r', S', A', T', e, h1, h2, h3⟩
      dsimp only
      unfold endV
      cases eo : outsV k ρ with
      | none => trivial
      | some os =>
        obtain ⟨n2, q1, q2⟩ := env_outs h1 eo (pin h3)
        exact ⟨.non, S', A', [], n2, by rw [e], ⟨rfl, rfl⟩, q1, h2.less (fun n hn => q2.subset hn) (q2.nodup h2.nd)⟩
    | rt p ρ =>
      rintro ⟨d, r', S', A', T', ns, e, h1, h0, h2, h3⟩
      dsimp only
      unfold endV
      cases eo : outsV k ρ with
      | none => trivial
      | some os =>
        obtain ⟨n2, q1, q2⟩ := env_outs h1 eo (pin h3)
        refine ⟨d, S', A', ns, n2, by rw [e], h0, q1, h2.less (fun n hn => ?_) (sub_nd h2.nd q2)⟩
        simp only [List.mem_append] at hn ⊢
        exact hn.imp id fun z => q2.subset z
    | exc x ρ =>
      rintro ⟨d, r', S', A', T', e, h1, h0, h2, h3⟩
      dsimp only
      cases eo : outsV k ρ with
      | none => trivial
      | some os =>
        obtain ⟨n2, q1, q2⟩ := env_outs h1 eo (pin h3)
        exact ⟨d, S', A', n2, by rw [e], h0, q1, h2.less (fun n hn => q2.subset hn) (q2.nodup h2.nd)⟩
    | bk ρ => exact fun _ => trivial
    | ct ρ => exact fun _ => trivial
    | bad => exact fun _ => trivial
  · rw [if_neg hn]
    trivial
abbrev VI := VEnv → Vr (List P)
def Stab (A : Nat → Prop) (S : Sto) (gd : Sto → Prop) : Prop := ∀ S', S.length ≤ S'.length → (∀ n, n < S.length → ¬ A n → S'[n]? = S[n]?) → gd S'
theorem Stab.step {T : List Nat} {A A' : Nat → Prop} {S S' : Sto} {gd : Sto → Prop} (st : Step T A S A' S') (hT : ∀ n ∈ T, A n) (h : Stab A S gd) : Stab A' S' gd := fun S2 hl hs => h S2 (Nat.le_trans st.len hl) fun n hn hA => by
  have hT' : n ∉ T := fun z => hA (hT n z)
  rw [hs n (Nat.lt_of_lt_of_le hn st.len) fun z => hA ((st.av n hn hT').mp z), st.same n hn hT']
def VSrc : Vl (List P) Src := fun A lo S xs s ns => ns = [] ∧ VRs A lo S xs s.1 [] ∧ Stab A S s.2
abbrev SimI (e : DI) (v : VI) : Prop := SimG VSrc e v
def vWalk (a : VE) : VI := fun ρ => (a ρ).bind fun p ρ1 => match seqP (fr p) with
  | some xs => .ok xs ρ1
  | none => .bad
theorem freeze1 {A : Nat → Prop} {lo : Nat} {S : Sto} {p : P} {d : D} {ns T : List Nat} {ρ : VEnv} {r : Ev} (h : VR A lo S p d ns) (C : Cur A lo S ρ r T) (nd : (ns ++ T).Nodup) :
    VR (fun n => A n ∧ n ∉ ns) lo S (fr p) d [] ∧ Cur (fun n => A n ∧ n ∉ ns) lo S ρ r T ∧ Out (ns ++ T) A S (fun n => A n ∧ n ∉ ns) S T := by
  obtain ⟨h1, h2, h3⟩ := freeze (ps := [p]) (ds := [d]) (ns := ns) ⟨d, [], ns, [], rfl, (List.append_nil ns).symm, h, ⟨rfl, rfl⟩⟩ C nd
  have h1 : VRs (fun n => A n ∧ n ∉ ns) lo S [fr p] [d] [] := h1
  obtain ⟨_, e, h1⟩ := VRs.inv1 h1
  cases e
  exact ⟨h1, h2, h3⟩
theorem nil_of_sub {a : List Nat} (h : a.Sublist []) : a = [] := List.eq_nil_of_sublist_nil h
theorem seq_stab {A : Nat → Prop} {lo : Nat} {S : Sto} {p : P} {d : D} {xs : List P} (h : VR A lo S p d []) (e : seqP p = some xs) : ∃ ds, seqD d S = some ds ∧ VRs A lo S xs ds [] ∧ Stab A S fun S => seqD d S = some ds := by
  obtain ⟨ds, ms, h1, h2, h3⟩ := seq_vr h e
  rw [nil_of_sub h3] at h2
  refine ⟨ds, h1, h2, fun S' hl hs => ?_⟩
  unfold seqP at e
  split at e
  · obtain ⟨_, rfl, _⟩ := h
    exact h1
  · obtain ⟨n, ds', rfl, q1, q2, q3, q4, q5⟩ := h
    have z : S'[n]? = S[n]? := hs n (lt_of_nth q1) q3
    have h1 : (match S[n]? with
      | some (.lst ds) => some ds
      | _ => none) = some ds := h1
    show (match S'[n]? with
      | some (.lst ds) => some ds
      | _ => none) = some ds
    rw [z]
    exact h1
  · obtain ⟨n, ds', ms', rfl, q1, q2, q3, q4, q5, q6⟩ := h
    cases q5
  · obtain ⟨rfl, _⟩ := h
    exact h1
  · cases e
theorem sim_walk {a : DE} {va : VE} (ha : SimE a va) : SimI (walkD a) (vWalk va) := fun A lo S ρ r T C =>
  sim_bind ha C fun A1 S1 ρ1 T1 p d ns C1 h1 nd1 _ => by
    obtain ⟨h2, C2, o2⟩ := freeze1 h1 C1 nd1
    cases e : seqP (fr p) with
    | none => trivial
    | some xs =>
      obtain ⟨ds, q1, q2, q3⟩ := seq_stab h2 e
      exact ⟨(ds, gdOf d ds), S1, _, T1, [], by rw [q1], C2.env, ⟨rfl, q2, q3⟩, o2⟩
def rngP (lo hi : Int) : List P := (List.range (hi - lo).toNat).map fun (i : Nat) => P.int (lo + (i : Int))
theorem rng_vr {A : Nat → Prop} {lo0 : Nat} {S : Sto} {lo hi : Int} : VRs A lo0 S (rngP lo hi) (rngS lo hi).1 [] := by
  unfold rngP rngS
  generalize (hi - lo).toNat = n
  dsimp only
  generalize List.range n = l
  induction l with
  | nil => exact ⟨rfl, rfl⟩
  | cons i l ih => exact ⟨_, _, [], [], rfl, rfl, ⟨rfl, rfl⟩, ih⟩
def inRng (j : Int) : Bool := decide (j.natAbs < 4611686018427387904)
theorem inRng_ok {j : Int} (h : inRng j = true) : -(2 ^ 62) ≤ j ∧ j < 2 ^ 62 := by
  have h := of_decide_eq_true h
  omega
def vRng1 (a : VA) : VI := fun ρ => (a ρ).bind fun ps ρ1 => match ps with
  | [.int j] => if inRng j = true then .ok (rngP 0 j) ρ1 else .bad
  | _ => .bad
def vRng2 (a : VA) : VI := fun ρ => (a ρ).bind fun ps ρ1 => match ps with
  | [.int i, .int j] => if (inRng i && inRng j) = true then .ok (rngP i j) ρ1 else .bad
  | _ => .bad
theorem sim_rng1 {a : DA} {va : VA} (ha : SimA a va) : SimI (rng1 a) (vRng1 va) := fun A lo S ρ r T C =>
  sim_bind ha C fun A1 S1 ρ1 T1 ps ds ns C1 h1 nd1 _ => by
    split
    · rename_i j
      obtain ⟨d, rfl, ⟨rfl, _⟩⟩ := VRs.inv1 h1
      split
      · rename_i h
        exact ⟨rngS 0 j, S1, A1, T1, [], if_pos (inRng_ok h), C1.env, ⟨rfl, rng_vr, fun _ _ _ => trivial⟩, Out.drop (T := T) nd1 C1.bd⟩
      · trivial
    · trivial
def lsP : P → Option (List P)
  | .tup _ => none
  | x => seqP x
def enP (xs : List P) : Nat → List P
  | i => match xs with
    | [] => []
    | x :: r => .tup [.int (i : Int), x] :: enP r (i + 1)
def zpP : List P → List P → List P
  | x :: xs, y :: ys => .tup [x, y] :: zpP xs ys
  | _, _ => []
def vEnu (a : VA) : VI := fun ρ => (a ρ).bind fun ps ρ1 => match frs ps with
  | [x] => (match lsP x with
    | some xs => .ok (enP xs 0) ρ1
    | none => .bad)
  | _ => .bad
def vZp (a : VA) : VI := fun ρ => (a ρ).bind fun ps ρ1 => match frs ps with
  | [x, y] => (match lsP x, lsP y with
    | some xs, some ys => .ok (zpP xs ys) ρ1
    | _, _ => .bad)
  | _ => .bad
def vFrGo (g : VG) (b : VS) : List P → VS
  | [], ρ => .nx ρ
  | x :: xs, ρ => match g x ρ with
    | some ρ1 => (match b ρ1 with
      | .nx ρ2 => vFrGo g b xs ρ2
      | .ct ρ2 => vFrGo g b xs ρ2
      | .bk ρ2 => .nx ρ2
      | y => y)
    | none => .bad
def vFr (it : VI) (g : VG) (b : VS) : VS := fun ρ => (it ρ).st fun xs ρ1 => vFrGo g b xs ρ1
section
variable {k : List Nat}
theorem sim_frGo {gd : Sto → Prop} {g : DG} {b : DS} {vg : VG} {vb : VS} (hg : SimGt k g vg) (hb : SimS k b vb) : ∀ {xs : List P} {ds : List D} {A : Nat → Prop} {lo : Nat} {S : Sto} {ρ : VEnv} {r : Ev} {T : List Nat}, Cur A lo S ρ r T → VRs A lo S xs ds [] → Stab A S gd →
    PoS k lo T A S r (frGo gd g b ds r S) (vFrGo vg vb xs ρ)
  | [], ds, A, lo, S, ρ, r, T, C, h, hs => by
    obtain ⟨rfl, _⟩ := h
    unfold frGo
    rw [if_pos (hs S (Nat.le_refl _) fun _ _ _ => rfl)]
    exact ⟨r, S, A, T, rfl, C.env, Out.refl C.nd C.bd, Pin.refl _ _⟩
  | x :: xs, ds, A, lo, S, ρ, r, T, C, h, hs => by
    obtain ⟨d, ds, n1, n2, rfl, e, h1, h2⟩ := h
    obtain ⟨rfl, rfl⟩ := List.append_eq_nil_iff.mp e.symm
    unfold frGo
    rw [if_pos (hs S (Nat.le_refl _) fun _ _ _ => rfl)]
    unfold vFrGo
    cases eg : vg x ρ with
    | none => trivial
    | some ρ1 =>
      obtain ⟨r1, S1, A1, T1, q1, q2, q3, q4⟩ := hg A lo S ρ r T x d [] C h1 C.nd ρ1 eg
      rw [q1]
      dsimp only
      have q3 : Out T A S A1 S1 T1 := q3
      refine PoS.from q3 q4 ?_
      have C1 := q3.cur' C.lo q2
      have h3 := VRs.step q3.st C.rootsA h2 nil_disj'
      have hs1 := hs.step q3.st C.rootsA
      have w := hb A1 lo S1 ρ1 r1 T1 C1
      revert w
      cases vb ρ1 with
      | nx ρ2 =>
        rintro ⟨r2, S2, A2, T2, e2, w1, w2, w3⟩
        rw [e2]
        exact PoS.from w2 w3 (sim_frGo hg hb (w2.cur' C1.lo w1) (VRs.step w2.st C1.rootsA h3 nil_disj') (hs1.step w2.st C1.rootsA))
      | ct ρ2 =>
        rintro ⟨r2, S2, A2, T2, e2, w1, w2, w3⟩
        rw [e2]
        exact PoS.from w2 w3 (sim_frGo hg hb (w2.cur' C1.lo w1) (VRs.step w2.st C1.rootsA h3 nil_disj') (hs1.step w2.st C1.rootsA))
      | bk ρ2 =>
        rintro ⟨r2, S2, A2, T2, e2, w1⟩
        rw [e2]
        exact ⟨r2, S2, A2, T2, rfl, w1⟩
      | rt p ρ2 =>
        rintro ⟨d', r2, S2, A2, T2, ns, e2, w1⟩
        rw [e2]
        exact ⟨d', r2, S2, A2, T2, ns, rfl, w1⟩
      | exc x ρ2 =>
        rintro ⟨d', r2, S2, A2, T2, e2, w1⟩
        rw [e2]
        exact ⟨d', r2, S2, A2, T2, rfl, w1⟩
      | bad => exact fun _ => trivial
  where nil_disj' {T : List Nat} : ∀ n ∈ ([] : List Nat), n ∉ T := fun _ z => nomatch z
theorem sim_fr {it : DI} {g : DG} {b : DS} {vi : VI} {vg : VG} {vb : VS} (hi : SimI it vi) (hg : SimGt k g vg) (hb : SimS k b vb) : SimS k (sFr it g b) (vFr vi vg vb) := by
  intro A lo S ρ r T C
  have q := hi A lo S ρ r T C
  unfold sFr vFr
  revert q
  cases vi ρ with
  | ok xs ρ1 =>
    rintro ⟨s, S1, A1, T1, ns, e1, h1, ⟨rfl, h2, h4⟩, h3⟩
    rw [e1]
    have h3 : Out T A S A1 S1 T1 := h3
    exact PoS.from h3 (Pin.refl _ _) (sim_frGo hg hb (h3.cur' C.lo h1) h2 h4)
  | exc x ρ1 =>
    rintro ⟨d, S1, A1, T1, e1, h1, h2, h3⟩
    rw [e1]
    exact ⟨d, r, S1, A1, T1, rfl, h1, h2, h3, Pin.refl _ _⟩
  | bad => exact fun _ => trivial
def vwhN : Nat → VT → VS → VEnv → Option Vt
  | 0, _, _, _ => none
  | n + 1, c, b, ρ => match c ρ with
    | .ok true ρ1 => (match b ρ1 with
      | .nx ρ2 => vwhN n c b ρ2
      | .ct ρ2 => vwhN n c b ρ2
      | .bk ρ2 => some (.nx ρ2)
      | x => some x)
    | .ok false ρ1 => some (.nx ρ1)
    | .exc x ρ1 => some (.exc x ρ1)
    | .bad => some .bad
theorem vwhN_mono {c : VT} {b : VS} : ∀ {n : Nat} {ρ : VEnv} {x : Vt} (k : Nat), vwhN n c b ρ = some x → vwhN (n + k) c b ρ = some x
  | 0, _, _, _, h => nomatch h
  | n + 1, ρ, x, k, h => by
    rw [Nat.add_right_comm]
    unfold vwhN at h ⊢
    cases hc : c ρ with
    | ok k' ρ1 =>
      rw [hc] at h
      cases k' with
      | true =>
        dsimp only at h ⊢
        cases hb : b ρ1 with
        | nx ρ2 =>
          rw [hb] at h
          exact vwhN_mono k h
        | ct ρ2 =>
          rw [hb] at h
          exact vwhN_mono k h
        | _ =>
          rw [hb] at h
          exact h
      | false => exact h
    | _ =>
      rw [hc] at h
      exact h
open Classical in
noncomputable def vWh (c : VT) (b : VS) : VS := fun ρ => if h : ∃ n x, vwhN n c b ρ = some x then h.choose_spec.choose else .bad
theorem vWh_of {c : VT} {b : VS} {n : Nat} {ρ : VEnv} {x : Vt} (h : vwhN n c b ρ = some x) : vWh c b ρ = x := by
  have q : ∃ n x, vwhN n c b ρ = some x := ⟨n, x, h⟩
  unfold vWh
  rw [dif_pos q]
  have z := q.choose_spec.choose_spec
  have z1 := vwhN_mono n z
  have z2 := vwhN_mono q.choose h
  rw [Nat.add_comm, z1] at z2
  exact Option.some.inj z2
theorem sim_whN {c : DB} {b : DS} {vc : VT} {vb : VS} (hc : SimT c vc) (hb : SimS k b vb) : ∀ {n : Nat} {A : Nat → Prop} {lo : Nat} {S : Sto} {ρ : VEnv} {r : Ev} {T : List Nat} {x : Vt}, Cur A lo S ρ r T → vwhN n vc vb ρ = some x →
    x = .bad ∨ ∃ y, whN n c b r S = some y ∧ PoS k lo T A S r y x
  | 0, _, _, _, _, _, _, _, _, h => nomatch h
  | n + 1, A, lo, S, ρ, r, T, x, C, h => by
    unfold vwhN at h
    have q := hc A lo S ρ r T C
    unfold whN
    revert q
    cases ec : vc ρ with
    | bad =>
      rw [ec] at h
      cases h
      exact fun _ => .inl rfl
    | exc y ρ1 =>
      rw [ec] at h
      cases h
      rintro ⟨d, S1, A1, T1, e1, h1, h2, h3⟩
      rw [e1]
      exact .inr ⟨_, rfl, d, r, S1, A1, T1, rfl, h1, h2, h3, Pin.refl _ _⟩
    | ok k' ρ1 =>
      rw [ec] at h
      rintro ⟨d, S1, A1, T1, ns, e1, h1, ⟨h2, h4⟩, h3⟩
      subst h2 h4
      have h3 : Out T A S A1 S1 T1 := h3
      rw [e1]
      cases k' with
      | false =>
        cases h
        exact .inr ⟨_, rfl, r, S1, A1, T1, rfl, h1, h3, Pin.refl _ _⟩
      | true =>
        dsimp only at h ⊢
        have C1 := h3.cur' C.lo h1
        have w := hb A1 lo S1 ρ1 r T1 C1
        revert w
        cases eb : vb ρ1 with
        | nx ρ2 =>
          rw [eb] at h
          rintro ⟨r2, S2, A2, T2, e2, w1, w2, w3⟩
          rw [e2]
          rcases sim_whN hc hb (w2.cur' C1.lo w1) h with z | ⟨y, z1, z2⟩
          · exact .inl z
          · exact .inr ⟨y, z1, PoS.from h3 (Pin.refl _ _) (PoS.from w2 w3 z2)⟩
        | ct ρ2 =>
          rw [eb] at h
          rintro ⟨r2, S2, A2, T2, e2, w1, w2, w3⟩
          rw [e2]
          rcases sim_whN hc hb (w2.cur' C1.lo w1) h with z | ⟨y, z1, z2⟩
          · exact .inl z
          · exact .inr ⟨y, z1, PoS.from h3 (Pin.refl _ _) (PoS.from w2 w3 z2)⟩
        | bk ρ2 =>
          rw [eb] at h
          cases h
          rintro ⟨r2, S2, A2, T2, e2, w1⟩
          rw [e2]
          exact .inr ⟨_, rfl, PoS.from h3 (Pin.refl _ _) ⟨r2, S2, A2, T2, rfl, w1⟩⟩
        | rt p ρ2 =>
          rw [eb] at h
          cases h
          rintro ⟨d', r2, S2, A2, T2, ns, e2, w1⟩
          rw [e2]
          exact .inr ⟨_, rfl, PoS.from h3 (Pin.refl _ _) ⟨d', r2, S2, A2, T2, ns, rfl, w1⟩⟩
        | exc x ρ2 =>
          rw [eb] at h
          cases h
          rintro ⟨d', r2, S2, A2, T2, e2, w1⟩
          rw [e2]
          exact .inr ⟨_, rfl, PoS.from h3 (Pin.refl _ _) ⟨d', r2, S2, A2, T2, rfl, w1⟩⟩
        | bad =>
          rw [eb] at h
          cases h
          exact fun _ => .inl rfl
theorem sim_wh {c : DB} {b : DS} {vc : VT} {vb : VS} (hc : SimT c vc) (hb : SimS k b vb) : SimS k (sWh c b) (vWh vc vb) := by
  intro A lo S ρ r T C
  by_cases q : ∃ n x, vwhN n vc vb ρ = some x
  · obtain ⟨n, x, e⟩ := q
    rw [vWh_of e]
    rcases sim_whN hc hb C e with z | ⟨y, z1, z2⟩
    · rw [z]
      trivial
    · rw [sWh_of z1]
      exact z2
  · have z : vWh vc vb ρ = .bad := by
      unfold vWh
      rw [dif_neg q]
    rw [z]
    trivial
end
def wipeV (ρ : VEnv) : List Nat → VEnv
  | [] => ρ
  | v :: vs => (wipeV ρ vs).set v none
section
variable {A : Nat → Prop} {lo : Nat} {S : Sto}
theorem EnvR.unset {ρ : VEnv} {r : Ev} {T : List Nat} (i : Nat) (x' : Option D) (h : EnvR A lo S ρ r T) : ∃ T', EnvR A lo S (ρ.set i none) (r.set i x') T' ∧ T'.Sublist T := by
  by_cases hi : i < ρ.length
  · obtain ⟨a, b, c, x, eT, er, hs, put⟩ := h.focus i (List.getElem?_eq_getElem hi)
    subst eT
    exact ⟨_, put none x' [] rfl, List.Sublist.append (List.Sublist.refl _) (List.sublist_append_right _ _)⟩
  · refine ⟨T, ?_, List.Sublist.refl _⟩
    rw [List.set_eq_of_length_le (by omega), List.set_eq_of_length_le (by rw [h.length]; omega)]
    exact h
theorem EnvR.put0 {ρ : VEnv} {r : Ev} {T : List Nat} (i : Nat) (hi : i < ρ.length) {p : P} {d : D} (h : EnvR A lo S ρ r T) (hp : VR A lo S p d []) : ∃ T', EnvR A lo S (ρ.set i (some p)) (r.set i (some d)) T' ∧ T'.Sublist T := by
  obtain ⟨a, b, c, x, eT, er, hs, put⟩ := h.focus i (List.getElem?_eq_getElem hi)
  subst eT
  exact ⟨_, put (some p) (some d) [] ⟨d, rfl, hp⟩, List.Sublist.append (List.Sublist.refl _) (List.sublist_append_right _ _)⟩
theorem EnvR.wipe {ρ : VEnv} {r : Ev} {T : List Nat} (h : EnvR A lo S ρ r T) : ∀ own : List Nat, ∃ T', EnvR A lo S (wipeV ρ own) (wipeD r own) T' ∧ T'.Sublist T
  | [] => ⟨T, h, List.Sublist.refl _⟩
  | v :: vs => by
    obtain ⟨T1, h1, h2⟩ := EnvR.wipe h vs
    obtain ⟨T2, h3, h4⟩ := h1.unset v none
    exact ⟨T2, h3, h4.trans h2⟩
theorem EnvR.chg : ∀ {ρ : VEnv} {r r' : Ev} {T : List Nat}, EnvR A lo S ρ r T → r'.length = r.length → (∀ (i : Nat) (p : P), ρ[i]? = some (some p) → r'[i]? = r[i]?) → EnvR A lo S ρ r' T
  | [], r, r', T, h, hl, _ => by
    obtain ⟨rfl, rfl⟩ := h
    exact ⟨List.length_eq_zero_iff.mp hl, rfl⟩
  | o :: ρ, r, r', T, h, hl, hc => by
    obtain ⟨x, r1, n1, n2, rfl, rfl, h1, h2⟩ := h
    cases r' with
    | nil => cases hl
    | cons y r' =>
      refine ⟨y, r', n1, n2, rfl, rfl, ?_, EnvR.chg h2 (by simpa using hl) fun i p e => by simpa using hc (i + 1) p (by simpa using e)⟩
      cases o with
      | none => exact h1
      | some p =>
        obtain ⟨d, rfl, h1⟩ := h1
        have := hc 0 p rfl
        cases this
        exact ⟨d, rfl, h1⟩
end
theorem wipeV_get {ρ : VEnv} {i : Nat} {p : P} : ∀ {own : List Nat}, (wipeV ρ own)[i]? = some (some p) → i ∉ own
  | [], _ => fun z => nomatch z
  | v :: vs, h => by
    have h' : ((wipeV ρ vs).set v none)[i]? = some (some p) := h
    by_cases hi : v = i
    · subst hi
      rcases Nat.lt_or_ge v (wipeV ρ vs).length with z | z
      · rw [List.getElem?_set_self z] at h'
        cases h'
      · rw [List.getElem?_eq_none (by simpa using z)] at h'
        cases h'
    · rw [List.getElem?_set_ne hi] at h'
      have := wipeV_get h'
      simp only [List.mem_cons, not_or]
      exact ⟨fun z => hi z.symm, this⟩
theorem wipeD_get {r : Ev} {i : Nat} : ∀ {own : List Nat}, i ∉ own → (wipeD r own)[i]? = r[i]?
  | [], _ => rfl
  | v :: vs, h => by
    show ((wipeD r vs).set v none)[i]? = _
    rw [List.getElem?_set_ne (fun z => h (by rw [z]; exact List.mem_cons_self)), wipeD_get fun z => h (List.mem_cons_of_mem _ z)]
theorem wipeD_len {r : Ev} : ∀ {own : List Nat}, (wipeD r own).length = r.length
  | [] => rfl
  | v :: vs => by
    show ((wipeD r vs).set v none).length = _
    rw [List.length_set, wipeD_len]
def setAllV : List Nat → List P → VEnv → Option VEnv
  | i :: is, x :: xs, ρ => if i < ρ.length then setAllV is xs (ρ.set i (some x)) else none
  | [], [], ρ => some ρ
  | _, _, _ => none
def ptV : Pt → P → VEnv → Option VEnv
  | .nm i, x, ρ => if i < ρ.length then some (ρ.set i (some x)) else none
  | .tp is, .tup xs, ρ => setAllV is xs ρ
  | _, _, _ => none
theorem setAll_get : ∀ {is : List Nat} {xs : List D} {r : Ev} {i : Nat}, i ∉ is → (setAll is xs r)[i]? = r[i]?
  | [], _, _, _, _ => by unfold setAll; rfl
  | _ :: _, [], _, _, _ => by unfold setAll; rfl
  | j :: is, x :: xs, r, i, h => by
    unfold setAll
    rw [setAll_get fun z => h (List.mem_cons_of_mem _ z), List.getElem?_set_ne fun z => h (by rw [z]; exact List.mem_cons_self)]
theorem setAll_len : ∀ {is : List Nat} {xs : List D} {r : Ev}, (setAll is xs r).length = r.length
  | [], _, _ => by unfold setAll; rfl
  | _ :: _, [], _ => by unfold setAll; rfl
  | j :: is, x :: xs, r => by
    unfold setAll
    rw [setAll_len, List.length_set]
section
variable {A : Nat → Prop} {lo : Nat} {S : Sto}
theorem sim_setAll : ∀ {is : List Nat} {xs : List P} {ds : List D} {ρ ρ1 : VEnv} {r : Ev} {T : List Nat}, EnvR A lo S ρ r T → VRs A lo S xs ds [] → setAllV is xs ρ = some ρ1 → xs.length = is.length ∧ ∃ T1, EnvR A lo S ρ1 (setAll is ds r) T1 ∧ T1.Sublist T
  | [], [], ds, ρ, ρ1, r, T, h, hv, e => by
    cases e
    obtain ⟨rfl, _⟩ := hv
    exact ⟨rfl, T, h, List.Sublist.refl _⟩
  | [], _ :: _, _, _, _, _, _, _, _, e => nomatch e
  | _ :: _, [], _, _, _, _, _, _, _, e => nomatch e
  | i :: is, x :: xs, ds, ρ, ρ1, r, T, h, hv, e => by
    obtain ⟨d, ds, n1, n2, rfl, en, h1, h2⟩ := hv
    obtain ⟨rfl, rfl⟩ := List.append_eq_nil_iff.mp en.symm
    have e' : (if i < ρ.length then setAllV is xs (ρ.set i (some x)) else none) = some ρ1 := e
    split at e'
    · rename_i hi
      obtain ⟨T1, q1, q2⟩ := h.put0 i hi h1
      obtain ⟨hl, T2, q3, q4⟩ := sim_setAll q1 h2 e'
      exact ⟨by simp [hl], T2, q3, q4.trans q2⟩
    · cases e'
theorem sim_pt {p : Pt} {x : P} {d : D} {ρ ρ1 : VEnv} {r : Ev} {T : List Nat} (h : EnvR A lo S ρ r T) (hx : VR A lo S x d []) (e : ptV p x ρ = some ρ1) : ∃ r1 T1, p.bind d r = some r1 ∧ EnvR A lo S ρ1 r1 T1 ∧ T1.Sublist T ∧ r1.length = r.length ∧ ∀ i, i ∉ p.slots → r1[i]? = r[i]? := by
  cases p with
  | nm i =>
    have e' : (if i < ρ.length then some (ρ.set i (some x)) else none) = some ρ1 := e
    split at e'
    · rename_i hi
      cases e'
      obtain ⟨T1, q1, q2⟩ := h.put0 i hi hx
      exact ⟨_, T1, rfl, q1, q2, by simp, fun j hj => List.getElem?_set_ne fun z => hj (by rw [z]; exact List.mem_cons_self)⟩
    · cases e'
  | tp is =>
    cases x <;> first | (cases e; done) | skip
    rename_i xs
    obtain ⟨ds, rfl, hx⟩ := hx
    obtain ⟨hl, T1, q1, q2⟩ := sim_setAll h hx (show setAllV is xs ρ = some ρ1 from e)
    refine ⟨setAll is ds r, T1, ?_, q1, q2, setAll_len, fun i hi => setAll_get hi⟩
    show (if ds.length = is.length then some (setAll is ds r) else none) = _
    rw [if_pos (by rw [hx.length]; exact hl)]
end
def vlcGo (p : Pt) (t : VT) (e : VE) (own : List Nat) : List P → VEnv → Vr (List P)
  | [], ρ => .ok [] ρ
  | x :: xs, ρ => match ptV p x ρ with
    | some ρ1 => (match t ρ1 with
      | .ok true ρ2 => (match e ρ2 with
        | .ok y ρ3 => (match vlcGo p t e own xs (wipeV ρ3 own) with
          | .ok ys ρ4 => .ok (y :: ys) ρ4
          | _ => .bad)
        | _ => .bad)
      | .ok false ρ2 => vlcGo p t e own xs (wipeV ρ2 own)
      | _ => .bad)
    | none => .bad
def vLc (it : VI) (p : Pt) (t : VT) (e : VE) (own : List Nat) : VE := fun ρ => (it ρ).bind fun xs ρ1 => if xs.length ≤ sizeLine then (match vlcGo p t e own xs (wipeV ρ1 own) with
    | .ok ys ρ2 => .ok (.own ys) (wipeV ρ2 own)
    | _ => .bad) else .bad
def vYes0 : VT := fun ρ => .ok true ρ
theorem sim_yes0 : SimT tYes0 vYes0 := fun A lo S ρ r T C => ⟨true, S, A, T, [], rfl, C.env, ⟨rfl, rfl⟩, Out.refl C.nd C.bd⟩
theorem Out.sub' {T U V : List Nat} {A A' : Nat → Prop} {S S' : Sto} (a : Out T A S A' S' U) (s : V.Sublist U) : Out T A S A' S' V := a.less (fun n hn => s.subset hn) (s.nodup a.nd)
theorem back_wipe {A : Nat → Prop} {lo : Nat} {S : Sto} {ρ : VEnv} {r r1 : Ev} {T : List Nat} {p : Pt} {own : List Nat} (hp : ∀ i ∈ p.slots, i ∈ own) (h : EnvR A lo S ρ r1 T) (hl : r1.length = r.length) (hr : ∀ i, i ∉ p.slots → r1[i]? = r[i]?) : ∃ T', EnvR A lo S (wipeV ρ own) r T' ∧ T'.Sublist T := by
  obtain ⟨T', h1, h2⟩ := h.wipe own
  refine ⟨T', h1.chg (by rw [wipeD_len, hl]) fun i q e => ?_, h2⟩
  have z := wipeV_get e
  rw [wipeD_get z, hr i fun w => z (hp i w)]
theorem sim_lcGo {gd : Sto → Prop} {p : Pt} {t : DB} {e : DE} {vt : VT} {ve : VE} {own : List Nat} (hp : ∀ i ∈ p.slots, i ∈ own) (ht : SimT t vt) (he : SimE e ve) : ∀ {xs : List P} {ds : List D} {A : Nat → Prop} {lo : Nat} {S : Sto} {ρ : VEnv} {r : Ev} {T : List Nat} {ys : List P} {ρ' : VEnv},
    Cur A lo S ρ r T → VRs A lo S xs ds [] → Stab A S gd → vlcGo p vt ve own xs ρ = .ok ys ρ' → ∃ es S' A' T' ns, lcGo gd p t e r ds S = .ok es S' ∧ EnvR A' lo S' ρ' r T' ∧ VRs A' lo S' ys es ns ∧ Out T A S A' S' (ns ++ T')
  | [], ds, A, lo, S, ρ, r, T, ys, ρ', C, h, hs, e1 => by
    obtain ⟨rfl, _⟩ := h
    cases e1
    refine ⟨[], S, A, T, [], ?_, C.env, ⟨rfl, rfl⟩, Out.refl C.nd C.bd⟩
    unfold lcGo
    rw [if_pos (hs S (Nat.le_refl _) fun _ _ _ => rfl)]
  | x :: xs, ds, A, lo, S, ρ, r, T, ys, ρ', C, h, hs, e1 => by
    obtain ⟨d, ds, n1, n2, rfl, en, h1, h2⟩ := h
    obtain ⟨rfl, rfl⟩ := List.append_eq_nil_iff.mp en.symm
    unfold vlcGo at e1
    unfold lcGo
    rw [if_pos (hs S (Nat.le_refl _) fun _ _ _ => rfl)]
    cases eb : ptV p x ρ with
    | none => rw [eb] at e1; cases e1
    | some ρ1 =>
      rw [eb] at e1
      obtain ⟨r1, T1, b1, b2, b3, b4, b5⟩ := sim_pt C.env h1 eb
      rw [b1]
      dsimp only at e1 ⊢
      have C1 : Cur A lo S ρ1 r1 T1 := ⟨b2, b3.nodup C.nd, C.bd, C.lo⟩
      have o1 : Out T A S A S T1 := (Out.refl C.nd C.bd).sub' b3
      have qt := ht A lo S ρ1 r1 T1 C1
      revert qt
      cases et : vt ρ1 with
      | bad => rw [et] at e1; cases e1
      | exc _ _ => rw [et] at e1; cases e1
      | ok kk ρ2 =>
        rw [et] at e1
        rintro ⟨_, S2, A2, T2, _, t1, t2, ⟨rfl, rfl⟩, t3⟩
        rw [t1]
        have t3 : Out T1 A S A2 S2 T2 := t3
        have C2 := t3.cur' C.lo t2
        have v2 := VRs.step t3.st C1.rootsA h2 (fun _ z => nomatch z)
        have s2 := hs.step t3.st C1.rootsA
        cases kk with
        | false =>
          dsimp only at e1 ⊢
          obtain ⟨T3, w1, w2⟩ := back_wipe hp t2 b4 b5
          have C3 : Cur A2 lo S2 (wipeV ρ2 own) r T3 := ⟨w1, w2.nodup C2.nd, C2.bd, C2.lo⟩
          obtain ⟨es, S', A', T', ns, r1', r2', r3', r4'⟩ := sim_lcGo hp ht he C3 v2 s2 e1
          exact ⟨es, S', A', T', ns, r1', r2', r3', (o1.trans (t3.sub' w2)).trans r4'⟩
        | true =>
          dsimp only at e1 ⊢
          have qe := he A2 lo S2 ρ2 r1 T2 C2
          revert qe
          cases ee : ve ρ2 with
          | bad => rw [ee] at e1; cases e1
          | exc _ _ => rw [ee] at e1; cases e1
          | ok y ρ3 =>
            rw [ee] at e1
            rintro ⟨dy, S3, A3, T3, ny, y1, y2, y3, y4⟩
            rw [y1]
            dsimp only at e1 ⊢
            cases er : vlcGo p vt ve own xs (wipeV ρ3 own) with
            | bad => rw [er] at e1; cases e1
            | exc _ _ => rw [er] at e1; cases e1
            | ok zs ρ4 =>
              rw [er] at e1
              cases e1
              obtain ⟨T4, w1, w2⟩ := back_wipe hp y2 b4 b5
              have y5 : Out T2 A2 S2 A3 S3 (ny ++ T4) := y4.sub' (List.Sublist.append (List.Sublist.refl _) w2)
              have C4 : Cur A3 lo S3 (wipeV ρ3 own) r T4 := y5.cur C2.lo w1
              have v3 := VRs.step y4.st C2.rootsA v2 (fun _ z => nomatch z)
              have s3 := s2.step y4.st C2.rootsA
              obtain ⟨es, S', A', T', ns, r1', r2', r3', r4'⟩ := sim_lcGo hp ht he C4 v3 s3 er
              rw [r1']
              have hny : ∀ n ∈ ny, n ∉ T4 := fun n a b => (List.nodup_append.mp y5.nd).2.2 n a n b rfl
              have y6 := VR.step r4'.st C4.rootsA y3 hny
              have o5 := r4'.held y5.nd fun n hn => (VR.roots y dy ny y3 n hn).2
              refine ⟨dy :: es, S', A', T', ny ++ ns, rfl, r2', ⟨dy, es, ny, ns, rfl, rfl, y6, r3'⟩, ?_⟩
              rw [List.append_assoc]
              exact ((o1.trans t3).trans y5).trans o5
theorem sim_lc {it : DI} {p : Pt} {t : DB} {e : DE} {vi : VI} {vt : VT} {ve : VE} {own : List Nat} (hi : SimI it vi) (ht : SimT t vt) (he : SimE e ve) (hp : ∀ i ∈ p.slots, i ∈ own := by decide) : SimE (dLc it p t e own) (vLc vi p vt ve own) := fun A lo S ρ r T C =>
  sim_bind hi C fun A1 S1 ρ1 T1 xs s ns C1 h1 nd1 _ => by
    obtain ⟨rfl, h2, h3⟩ := h1
    show PoE VR lo T1 A1 S1 r _ _
    by_cases hz : xs.length ≤ sizeLine
    · rw [if_pos hz, if_pos (by rw [h2.length]; exact hz)]
      obtain ⟨T2, w1, w2⟩ := C1.env.wipe own
      have C2 : Cur A1 lo S1 (wipeV ρ1 own) (wipeD r own) T2 := ⟨w1, w2.nodup C1.nd, C1.bd, C1.lo⟩
      have o2 : Out T1 A1 S1 A1 S1 T2 := (Out.refl C1.nd C1.bd).sub' w2
      cases er : vlcGo p vt ve own xs (wipeV ρ1 own) with
      | bad => trivial
      | exc _ _ => trivial
      | ok ys ρ2 =>
        obtain ⟨es, S', A', T', ns, q1, q2, q3, q4⟩ := sim_lcGo hp ht he C2 h2 h3 er
        rw [q1]
        obtain ⟨n1, n2, n3⟩ := List.nodup_append.mp q4.nd
        obtain ⟨A3, g1, g2, g3⟩ := new_ow (sh := .lst) q3 trivial (List.Sublist.refl _) n1 q4.bd (Nat.le_trans C1.lo q4.st.len)
        obtain ⟨T5, w3, w4⟩ := q2.wipe own
        have e3 : EnvR A' lo S' (wipeV ρ2 own) r T5 := w3.chg (by rw [wipeD_len, wipeD_len]) fun i q e => by
          have z := wipeV_get e
          rw [wipeD_get z, wipeD_get z]
        have o5 := q4.sub' (List.Sublist.append (List.Sublist.refl ns) w4)
        refine ⟨.loc S'.length, S' ++ [.lst es], A3, T5, _, rfl, e3.step g3 (fun _ z => nomatch z) nil_disj, g1, (o2.trans o5).trans (out_env g2 o5.nd fun n hn => (e3.roots n hn).2)⟩
    · rw [if_neg hz]
      trivial
def SimP (e : DE) (v : VE) : Prop := ∀ A lo S ρ r T, Cur A lo S ρ r T → match v ρ with
  | .ok p ρ' => ρ' = ρ ∧ ∃ d S' A' ns, e r S = .ok d S' ∧ VR A' lo S' p d ns ∧ Step [] A S A' S' ∧ ns.Nodup ∧ (∀ n ∈ ns, S.length ≤ n) ∧ ∀ n, A' n → n < S'.length
  | _ => True
theorem sim_borP {e : DE} {v : VE} (h : SimE e v) : SimP e (vBor v) := by
  intro A lo S ρ r T C
  have hr := C.env.roots
  have C1 : Cur (fun n => A n ∧ n ∉ T) S.length S (vwE ρ) r [] := ⟨C.env.vw (fun n _ h1 h2 => h1 h2.1) fun n hn hz => hz.2 hn, List.nodup_nil, fun n hn => C.bd n hn.1, Nat.le_refl _⟩
  have q := h _ _ _ _ _ _ C1
  unfold vBor
  revert q
  cases v (vwE ρ) with
  | bad => exact fun _ => trivial
  | exc x ρ1 =>
    intro _
    dsimp only
    by_cases hp : nobX x = true
    · rw [if_pos hp]
      trivial
    · rw [if_neg hp]
      trivial
  | ok p ρ1 =>
    dsimp only
    by_cases hp : nob p = true
    · rw [if_pos hp]
      rintro ⟨d, S1, A1, T1, ns, e1, h1, h2, h3⟩
      have nd := List.nodup_append.mp h3.nd
      have av : ∀ n, n < S.length → (A1 n ↔ (A n ∧ n ∉ T)) := fun n hn => h3.st.av n hn (fun z => nomatch z)
      obtain ⟨hV, hg⟩ := VR.up (A' := fun n => A1 n ∨ n ∈ T) (lo' := lo) p d ns h2 hp (fun n _ hn hA z => by
        rcases z with z | z
        · exact hA z
        · have := (hr n z).2
          omega) (fun n hn _ => .inl (VR.roots p d ns h2 n hn).1) C.lo
      refine ⟨rfl, d, S1, _, ns, e1, hV, ⟨h3.st.len, fun n hn _ => h3.st.same n hn (fun z => nomatch z), fun n hn _ => ?_⟩, nd.1, hg, fun n hn => ?_⟩
      · constructor
        · intro z
          rcases z with z | z
          · exact ((av n hn).mp z).1
          · exact C.rootsA n z
        · intro z
          by_cases hT : n ∈ T
          · exact .inr hT
          · exact .inl ((av n hn).mpr ⟨z, hT⟩)
      · rcases hn with z | z
        · exact h3.bd n z
        · exact Nat.lt_of_lt_of_le (hr n z).2 h3.st.len
    · rw [if_neg hp]
      exact fun _ => trivial
def subT : P → List Int → Option P
  | p, [] => some p
  | .tup xs, i :: is => (atP xs i).bind fun x => subT x is
  | .ow _ .lst xs, i :: is => (atP xs i).bind fun x => subT x is
  | _, _ :: _ => none
def repT : P → List Int → P → Option P
  | _, [], q => some q
  | .tup xs, i :: is, q => (ixN xs.length i).bind fun j => xs[j]?.bind fun x => (repT x is q).map fun y => .tup (xs.set j y)
  | .ow k .lst xs, i :: is, q => (ixN xs.length i).bind fun j => xs[j]?.bind fun x => (repT x is q).map fun y => .ow k .lst (xs.set j y)
  | _, _ :: _, _ => none
def rdD : D → List Int → Sto → Option D
  | d, [], _ => some d
  | d, i :: is, S => (seqD d S).bind fun ds => (atD ds i).bind fun e => rdD e is S
section
variable {A : Nat → Prop} {lo : Nat} {S : Sto}
def Kept (A : Nat → Prop) (S : Sto) (A' : Nat → Prop) (S' : Sto) (ns : List Nat) : Prop := (∀ n, n < S.length → ¬ A n → S'[n]? = S[n]? ∧ ¬ A' n) ∧ ∀ n ∈ ns, S'[n]? = S[n]? ∧ A' n
theorem VRs.focus : ∀ {xs : List P} {ds : List D} {ns : List Nat} (j : Nat) {x : P}, VRs A lo S xs ds ns → xs[j]? = some x → ∃ d a b c, ns = a ++ (b ++ c) ∧ ds[j]? = some d ∧ VR A lo S x d b ∧
    ∀ A' S' x' d' m, Kept A S A' S' (a ++ c) → VR A' lo S' x' d' m → VRs A' lo S' (xs.set j x') (ds.set j d') (a ++ (m ++ c))
  | [], _, _, _, _, _, e => nomatch e
  | y :: xs, ds, ns, 0, x, h, e => by
    obtain ⟨d, r, n1, n2, rfl, rfl, h1, h2⟩ := h
    cases e
    exact ⟨d, [], n1, n2, rfl, rfl, h1, fun A' S' x' d' m hk hx => ⟨d', r, m, n2, rfl, rfl, hx, VRs.gen hk.1 xs r n2 h2 (Nat.le_refl _) fun n hn => hk.2 n hn⟩⟩
  | y :: xs, ds, ns, j + 1, x, h, e => by
    obtain ⟨d, r, n1, n2, rfl, rfl, h1, h2⟩ := h
    obtain ⟨d0, a, b, c, e1, e2, h3, put⟩ := VRs.focus j h2 (x := x) (by simpa using e)
    subst e1
    refine ⟨d0, n1 ++ a, b, c, by rw [List.append_assoc], by simpa using e2, h3, fun A' S' x' d' m hk hx => ?_⟩
    refine ⟨d, r.set j d', n1, a ++ (m ++ c), rfl, by rw [List.append_assoc], VR.gen hk.1 y d n1 h1 (Nat.le_refl _) fun n hn => hk.2 n (by simp [hn]), put A' S' x' d' m ⟨hk.1, fun n hn => hk.2 n ?_⟩ hx⟩
    simp only [List.mem_append] at hn ⊢
    rcases hn with hn | hn
    · exact .inl (.inr hn)
    · exact .inr hn
theorem ixN_lt {n : Nat} {i : Int} {j : Nat} (h : ixN n i = some j) : j < n := by
  unfold ixN at h
  split at h
  · split at h
    · cases h
      omega
    · cases h
  · split at h
    · cases h
      omega
    · cases h
theorem VR.focus : ∀ (is : List Int) {p : P} {d : D} {ns : List Nat} {q : P}, VR A lo S p d ns → subT p is = some q → ∃ dq a b c, ns = a ++ (b ++ c) ∧ rdD d is S = some dq ∧ VR A lo S q dq b ∧
    ∀ A' S' q' m, Kept A S A' S' (a ++ c) → VR A' lo S' q' dq m → ∃ p', repT p is q' = some p' ∧ VR A' lo S' p' d (a ++ (m ++ c))
  | [], p, d, ns, q, h, e => by
    cases p <;> (cases e; exact ⟨d, [], ns, [], by simp, rfl, h, fun A' S' q' m _ hq => ⟨q', rfl, by simpa using hq⟩⟩)
  | i :: is, p, d, ns, q, h, e => by
    have core : ∀ {xs : List P} {ds : List D} {ms : List Nat}, VRs A lo S xs ds ms → (atP xs i).bind (fun x => subT x is) = some q → ∃ dq a b c j x e0, ixN xs.length i = some j ∧ xs[j]? = some x ∧ atD ds i = some e0 ∧ ms = a ++ (b ++ c) ∧ rdD e0 is S = some dq ∧ VR A lo S q dq b ∧
        ∀ A' S' q' m, Kept A S A' S' (a ++ c) → VR A' lo S' q' dq m → ∃ y, repT x is q' = some y ∧ VRs A' lo S' (xs.set j y) ds (a ++ (m ++ c)) := by
      intro xs ds ms hv he
      obtain ⟨x, e1, e2⟩ := Option.bind_eq_some_iff.mp he
      unfold atP at e1
      obtain ⟨j, e3, e4⟩ := Option.bind_eq_some_iff.mp e1
      obtain ⟨d0, a, b, c, eq1, eq2, hx, put⟩ := hv.focus j e4
      obtain ⟨dq, a', b', c', eq3, hr, hq, put'⟩ := VR.focus is hx e2
      subst eq1 eq3
      refine ⟨dq, a ++ a', b', c' ++ c, j, x, d0, e3, e4, ?_, by simp, hr, hq, fun A' S' q' m hk hm => ?_⟩
      · unfold atD
        rw [hv.length, e3]
        exact eq2
      · obtain ⟨y, y1, y2⟩ := put' A' S' q' m ⟨hk.1, fun n hn => hk.2 n (by
          simp only [List.mem_append] at hn ⊢
          rcases hn with hn | hn
          · exact .inl (.inr hn)
          · exact .inr (.inl hn))⟩ hm
        have w := put A' S' y d0 _ ⟨hk.1, fun n hn => hk.2 n (by
          simp only [List.mem_append] at hn ⊢
          rcases hn with hn | hn
          · exact .inl (.inl hn)
          · exact .inr (.inr hn))⟩ y2
        rw [set_self eq2] at w
        exact ⟨y, y1, by simpa [List.append_assoc] using w⟩
    cases p <;> first | (cases e; done) | skip
    · rename_i xs
      obtain ⟨ds, rfl, hv⟩ := h
      obtain ⟨dq, a, b, c, j, x, e0, k1, k2, k3, k4, k5, k6, put⟩ := core hv e
      refine ⟨dq, a, b, c, k4, ?_, k6, fun A' S' q' m hk hm => ?_⟩
      · show (seqD (.tup ds) S).bind _ = _
        show (atD ds i).bind _ = _
        rw [k3]
        exact k5
      · obtain ⟨y, y1, y2⟩ := put A' S' q' m hk hm
        refine ⟨.tup (xs.set j y), ?_, ds, rfl, y2⟩
        show (ixN xs.length i).bind _ = _
        rw [k1]
        show xs[j]?.bind _ = _
        rw [k2]
        show (repT x is q').map _ = _
        rw [y1]
        rfl
    · rename_i k sh xs
      cases sh <;> first | (cases e; done) | skip
      obtain ⟨n, ds, ms, rfl, h1, h2, h3, h4, rfl, hv⟩ := h
      obtain ⟨dq, a, b, c, j, x, e0, k1, k2, k3, k4, k5, k6, put⟩ := core hv e
      subst k4
      refine ⟨dq, n :: a, b, c, rfl, ?_, k6, fun A' S' q' m hk hm => ?_⟩
      · show (seqD (.loc n) S).bind _ = _
        have z : seqD (.loc n) S = some ds := by
          show (match S[n]? with
            | some (.lst ds) => some ds
            | _ => none) = _
          rw [h1]
          rfl
        rw [z]
        show (atD ds i).bind _ = _
        rw [k3]
        exact k5
      · obtain ⟨y, y1, y2⟩ := put A' S' q' m ⟨hk.1, fun x hx => hk.2 x (by simp only [List.cons_append]; exact List.mem_cons_of_mem _ hx)⟩ hm
        obtain ⟨z1, z2⟩ := hk.2 n (by simp)
        refine ⟨.ow k .lst (xs.set j y), ?_, n, ds, a ++ (m ++ c), rfl, by rw [z1]; exact h1, h2, z2, h4, rfl, y2⟩
        show (ixN xs.length i).bind _ = _
        rw [k1]
        show xs[j]?.bind _ = _
        rw [k2]
        show (repT x is q').map _ = _
        rw [y1]
        rfl
theorem rdD_mono {S' : Sto} (hm : ∀ (n : Nat) (o : Ob), S[n]? = some o → S'[n]? = some o) : ∀ (is : List Int) {d x : D}, rdD d is S = some x → rdD d is S' = some x
  | [], _, _, h => h
  | i :: is, d, x, h => by
    have h' : (seqD d S).bind (fun ds => (atD ds i).bind fun e => rdD e is S) = some x := h
    obtain ⟨ds, e1, e2⟩ := Option.bind_eq_some_iff.mp h'
    obtain ⟨e, e3, e4⟩ := Option.bind_eq_some_iff.mp e2
    have z : seqD d S' = some ds := by
      cases d <;> first | exact e1 | (cases e1; done) | skip
      rename_i n
      show (match S'[n]? with
        | some (.lst ds) => some ds
        | _ => none) = _
      rw [hm _ _ (seq_loc e1)]
    show (seqD d S').bind _ = _
    rw [z]
    show (atD ds i).bind _ = _
    rw [e3]
    exact rdD_mono hm is e4
end
abbrev VPa := VEnv → Option (List Int)
def SimPa (o : DE) (j : Nat) (v : VPa) : Prop := ∀ A lo S ρ r T, Cur A lo S ρ r T → ∀ is p q, v ρ = some is → ρ[j]? = some (some p) → subT p is = some q →
  ∃ S1 A1 d dq, o r S = .ok dq S1 ∧ Step [] A S A1 S1 ∧ (∀ n, A1 n → n < S1.length) ∧ r[j]? = some (some d) ∧ rdD d is S1 = some dq
def pa0 : VPa := fun _ => some []
def paI (v : VPa) (e : VE) : VPa := fun ρ => match v ρ, e ρ with
  | some is, .ok (.int i) _ => some (is ++ [i])
  | _, _ => none
theorem sim_pa0 (j : Nat) : SimPa (dV j) j pa0 := by
  intro A lo S ρ r T C is p q e ej es
  cases e
  obtain ⟨_, _, _, _, _, er, ⟨d, rfl, _⟩, _⟩ := C.env.focus j ej
  refine ⟨S, A, d, d, ?_, Step.refl _ _ _, C.bd, er, rfl⟩
  unfold dV
  rw [er]
theorem Cur.pure {A A' : Nat → Prop} {lo : Nat} {S S' : Sto} {ρ : VEnv} {r : Ev} {T : List Nat} (C : Cur A lo S ρ r T) (st : Step [] A S A' S') (bd : ∀ n, A' n → n < S'.length) : Cur A' lo S' ρ r T := ⟨C.env.step st (fun _ z => nomatch z) nil_disj, C.nd, bd, Nat.le_trans C.lo st.len⟩
theorem Step.mono {A A' : Nat → Prop} {S S' : Sto} (st : Step [] A S A' S') : ∀ (n : Nat) (o : Ob), S[n]? = some o → S'[n]? = some o := fun n o h => by rw [st.same n (lt_of_nth h) (fun z => nomatch z)]; exact h
theorem Step.nil_trans {A A1 A2 : Nat → Prop} {S S1 S2 : Sto} (a : Step [] A S A1 S1) (b : Step [] A1 S1 A2 S2) : Step [] A S A2 S2 := a.trans b fun _ z => nomatch z
theorem path_set {A : Nat → Prop} {lo : Nat} {S : Sto} {ρ : VEnv} {r : Ev} {T : List Nat} {j : Nat} {is : List Int} {p : P} {k : Bool} {xs : List P} (C : Cur A lo S ρ r T) (ej : ρ[j]? = some (some p)) (es : subT p is = some (.ow k .lst xs)) :
    ∃ d n ds ms rest, r[j]? = some (some d) ∧ rdD d is S = some (.loc n) ∧ S[n]? = some (Ob.lst ds) ∧ A n ∧ VRs A lo S xs ds ms ∧ T.Perm (n :: (ms ++ rest)) ∧
      ∀ ys es ks, VRs A lo S ys es ks → n ∉ ks → ∃ p' T', repT p is (.ow k .lst ys) = some p' ∧ EnvR A lo (S.set n (Ob.lst es)) (ρ.set j (some p')) r T' ∧ T'.Perm (n :: (ks ++ rest)) ∧ Step [n] A S A (S.set n (Ob.lst es)) := by
  obtain ⟨a, b, c, x, eT, er, ⟨d, ex, hp⟩, put⟩ := C.env.focus j ej
  subst ex
  subst eT
  obtain ⟨dq, a', b', c', eb, hr, hq, put'⟩ := VR.focus is hp es
  subst eb
  obtain ⟨n, ds, ms, rfl, h1, h2, h3, h4, rfl, hv⟩ := hq
  refine ⟨d, n, ds, ms, (a ++ c) ++ (a' ++ c'), er, hr, h1, h3, hv, ?_, fun ys es ks hy hn => ?_⟩
  · rw [List.perm_iff_count]
    intro x
    simp only [List.count_append, List.count_cons]
    omega
  have hn0 : ∀ m, m ≠ n → (S.set n (.lst es))[m]? = S[m]? := fun m hm => List.getElem?_set_ne (Ne.symm hm)
  have st : Step [n] A S A (S.set n (.lst es)) := ⟨by simp, fun m _ hm => hn0 m (by simpa using hm), fun m _ _ => Iff.rfl⟩
  have hA : ∀ m ∈ [n], A m := fun m hm => by rw [List.mem_singleton.mp hm]; exact h3
  have nT : ∀ m, m ∈ a ++ c ∨ m ∈ a' ++ c' → m ≠ n := by
    intro m hm e
    subst e
    have z : (a ++ ((a' ++ ((m :: ms) ++ c')) ++ c)).Nodup := C.nd
    have pm : (a ++ ((a' ++ ((m :: ms) ++ c')) ++ c)).Perm (m :: (ms ++ ((a ++ c) ++ (a' ++ c')))) := by
      rw [List.perm_iff_count]
      intro x
      simp only [List.count_append, List.count_cons]
      omega
    have w := (List.nodup_cons.mp (pm.nodup_iff.mp z)).1
    apply w
    rcases hm with hm | hm
    · simp only [List.mem_append] at hm ⊢
      exact .inr (.inl hm)
    · simp only [List.mem_append] at hm ⊢
      exact .inr (.inr hm)
  have hq' : VR A lo (S.set n (.lst es)) (.ow k .lst ys) (.loc n) (n :: ks) := ⟨n, es, ks, rfl, List.getElem?_set_self (lt_of_nth h1), trivial, h3, h4, rfl, VRs.step st hA hy fun m hm z => hn (by rw [← List.mem_singleton.mp z]; exact hm)⟩
  have kp : ∀ l : List Nat, (∀ m ∈ l, m ≠ n ∧ A m) → Kept A S A (S.set n (.lst es)) l := fun l hl => ⟨fun m _ hm => ⟨hn0 m fun z => hm (by rw [z]; exact h3), hm⟩, fun m hm => ⟨hn0 m (hl m hm).1, (hl m hm).2⟩⟩
  have rA : ∀ m ∈ a' ++ c', A m := fun m hm => (VR.roots p d _ hp m (by
    simp only [List.mem_append] at hm ⊢
    rcases hm with hm | hm
    · exact .inl hm
    · exact .inr (.inr hm))).1
  obtain ⟨p', e1, hp'⟩ := put' A (S.set n (.lst es)) (.ow k .lst ys) (n :: ks) (kp _ fun m hm => ⟨nT m (.inr hm), rA m hm⟩) hq'
  -- the other names
  have e0 : EnvR A lo S (ρ.set j none) r (a ++ c) := by
    have z := put none (some d) [] rfl
    rw [set_self er] at z
    exact z
  have e2 := e0.step st hA fun m hm z => nT m (.inl hm) (List.mem_singleton.mp z)
  obtain ⟨a2, b2, c2, x2, eT2, er2, hs2, put2⟩ := e2.focus j (o := none) (List.getElem?_set_self (lt_of_nth ej))
  have hs2 : b2 = [] := hs2
  subst hs2
  have z := put2 (some p') (some d) _ ⟨d, rfl, hp'⟩
  rw [List.set_set, set_self er] at z
  refine ⟨p', _, e1, z, ?_, st⟩
  rw [List.perm_iff_count]
  intro x
  have w := congrArg (List.count x) eT2
  simp only [List.count_append, List.count_cons, List.count_nil] at w ⊢
  omega
def updL (ρ : VEnv) (j : Nat) (is : List Int) (f : List P → Option (List P)) : Option VEnv := match ρ[j]? with
  | some (some p) => (match subT p is with
    | some (.ow k .lst xs) => (f xs).bind fun ys => (repT p is (.ow k .lst ys)).map fun p' => ρ.set j (some p')
    | _ => none)
  | _ => none
theorem updL_ok {A : Nat → Prop} {lo : Nat} {S : Sto} {ρ ρ' : VEnv} {r : Ev} {T : List Nat} {j : Nat} {is : List Int} {f : List P → Option (List P)} (C : Cur A lo S ρ r T) (h : updL ρ j is f = some ρ') :
    ∃ p k xs ys d n ds ms rest, ρ[j]? = some (some p) ∧ subT p is = some (.ow k .lst xs) ∧ f xs = some ys ∧ r[j]? = some (some d) ∧ rdD d is S = some (.loc n) ∧ S[n]? = some (Ob.lst ds) ∧ A n ∧ VRs A lo S xs ds ms ∧ T.Perm (n :: (ms ++ rest)) ∧
      ∀ es ks, VRs A lo S ys es ks → n ∉ ks → ∃ T', EnvR A lo (S.set n (Ob.lst es)) ρ' r T' ∧ T'.Perm (n :: (ks ++ rest)) ∧ Step [n] A S A (S.set n (Ob.lst es)) := by
  unfold updL at h
  cases ej : ρ[j]? with
  | none => rw [ej] at h; cases h
  | some o =>
  rw [ej] at h
  cases o with
  | none => cases h
  | some p =>
  dsimp only at h
  split at h
  · rename_i k xs es
    obtain ⟨ys, e1, e2⟩ := Option.bind_eq_some_iff.mp h
    obtain ⟨p', e3, e4⟩ := Option.map_eq_some_iff.mp e2
    obtain ⟨d, n, ds, ms, rest, q1, q2, q3, q4, q5, q6, put⟩ := path_set C ej es
    refine ⟨p, k, xs, ys, d, n, ds, ms, rest, rfl, es, e1, q1, q2, q3, q4, q5, q6, fun zs ks hz hn => ?_⟩
    obtain ⟨p2, T', w1, w2, w3, w4⟩ := put ys zs ks hz hn
    rw [e3] at w1
    cases w1
    rw [← e4]
    exact ⟨T', w2, w3, w4⟩
  · cases h
theorem out_upd {T T' ns ms ks rest : List Nat} {n : Nat} {A : Nat → Prop} {S S' : Sto} (nd : (ns ++ T).Nodup) (hT : T.Perm (n :: (ms ++ rest))) (hT' : T'.Perm (n :: (ks ++ rest))) (hk : ks.Nodup) (hs : ∀ x ∈ ks, x ∈ ns ++ ms) (st : Step [n] A S A S') (bd : ∀ n, A n → n < S'.length) : Out (ns ++ T) A S A S' T' := by
  have nd1 : (ns ++ (n :: (ms ++ rest))).Nodup := (List.Perm.append_left ns hT).nodup_iff.mp nd
  obtain ⟨a1, a2, a3⟩ := List.nodup_append.mp nd1
  obtain ⟨b1, b2⟩ := List.nodup_cons.mp a2
  obtain ⟨c1, c2, c3⟩ := List.nodup_append.mp b2
  refine ⟨st.more fun m hm => ?_, fun m hm => .inl ?_, hT'.nodup_iff.mpr (List.nodup_cons.mpr ⟨fun z => ?_, List.nodup_append.mpr ⟨hk, c2, fun x hx y hy => ?_⟩⟩), bd⟩
  · rw [List.mem_singleton.mp hm]
    exact List.mem_append_right _ (hT.mem_iff.mpr List.mem_cons_self)
  · have hm := hT'.mem_iff.mp hm
    have e : ∀ x, x ∈ T ↔ x ∈ n :: (ms ++ rest) := fun x => hT.mem_iff
    simp only [List.mem_append, List.mem_cons, e] at hm ⊢
    rcases hm with hm | hm | hm
    · exact .inr (.inl hm)
    · have := hs m hm
      simp only [List.mem_append] at this
      rcases this with z | z
      · exact .inl z
      · exact .inr (.inr (.inl z))
    · exact .inr (.inr (.inr hm))
  · rcases List.mem_append.mp z with z | z
    · rcases List.mem_append.mp (hs n z) with w | w
      · exact a3 n w n List.mem_cons_self rfl
      · exact b1 (List.mem_append_left _ w)
    · exact b1 (List.mem_append_right _ z)
  · rcases List.mem_append.mp (hs x hx) with w | w
    · exact a3 x w y (by simp [hy])
    · exact c3 x w y hy
theorem upd_notin {T ns ms ks rest : List Nat} {n : Nat} (nd : (ns ++ T).Nodup) (hT : T.Perm (n :: (ms ++ rest))) (hs : ∀ x ∈ ks, x ∈ ns ++ ms) : n ∉ ks := by
  have nd1 : (ns ++ (n :: (ms ++ rest))).Nodup := (List.Perm.append_left ns hT).nodup_iff.mp nd
  obtain ⟨a1, a2, a3⟩ := List.nodup_append.mp nd1
  obtain ⟨b1, b2⟩ := List.nodup_cons.mp a2
  intro z
  rcases List.mem_append.mp (hs n z) with w | w
  · exact a3 n w n List.mem_cons_self rfl
  · exact b1 (List.mem_append_left _ w)
theorem nd_of {T ns ms rest : List Nat} {n : Nat} (nd : (ns ++ T).Nodup) (hT : T.Perm (n :: (ms ++ rest))) : (ns ++ ms).Nodup := by
  have nd1 : (ns ++ (n :: (ms ++ rest))).Nodup := (List.Perm.append_left ns hT).nodup_iff.mp nd
  obtain ⟨a1, a2, a3⟩ := List.nodup_append.mp nd1
  obtain ⟨b1, b2⟩ := List.nodup_cons.mp a2
  exact List.nodup_append.mpr ⟨a1, (List.nodup_append.mp b2).1, fun x hx y hy => a3 x hx y (by simp [hy])⟩
def setF (i : Int) (q : P) (xs : List P) : Option (List P) := (ixN xs.length i).map fun m => xs.set m q
def vSet (j : Nat) (pa : VPa) (ix e : VE) : VS := fun ρ => (e ρ).st fun q ρ1 => match pa ρ1, ix ρ1 with
  | some is, .ok (.int i) _ => (match updL ρ1 j is (setF i q) with
    | some ρ2 => .nx ρ2
    | none => .bad)
  | _, _ => .bad
theorem setO_ok {S : Sto} {n : Nat} {ds : List D} {i : Int} {m : Nat} {x : D} (h : S[n]? = some (.lst ds)) (e : ixN ds.length i = some m) : setO (.loc n) (.int i) x S = some (S.set n (Ob.lst (ds.set m x))) := by
  show (match S[n]? with
    | some (.lst ds) => (ixN ds.length i).map fun j => S.set n (Ob.lst (ds.set j x))
    | _ => none) = _
  rw [h]
  dsimp only
  rw [e]
  rfl
theorem Kept.refl {A : Nat → Prop} {S : Sto} {l : List Nat} (h : ∀ n ∈ l, A n) : Kept A S A S l := ⟨fun _ _ hA => ⟨rfl, hA⟩, fun n hn => ⟨rfl, h n hn⟩⟩
theorem set_bd {A : Nat → Prop} {S : Sto} {n : Nat} {o : Ob} (h : ∀ n, A n → n < S.length) : ∀ m, A m → m < (S.set n o).length := fun m hm => by
  rw [List.length_set]
  exact h m hm
section
variable {k : List Nat}
theorem sim_set {o i e : DE} {j : Nat} {pa : VPa} {vi ve : VE} (ho : SimPa o j pa) (hi : SimP i vi) (he : SimE e ve) : SimS k (sAs e (gS o i)) (vSet j pa vi ve) := fun A lo S ρ r T C =>
  sim_st he C fun A1 S1 ρ1 T1 q dq ns C1 hq nd1 _ => by
    cases ea : pa ρ1 with
    | none => trivial
    | some is =>
    cases ei : vi ρ1 with
    | bad => trivial
    | exc _ _ => trivial
    | ok pi ρ2 =>
    cases pi <;> first | trivial | skip
    rename_i ii
    cases eu : updL ρ1 j is (setF ii q) with
    | none =>
      show PoS _ _ _ _ _ _ _ (match updL ρ1 j is (setF ii q) with
        | some ρ2 => Vt.nx ρ2
        | none => .bad)
      rw [eu]
      trivial
    | some ρ3 =>
      show PoS _ _ _ _ _ _ _ (match updL ρ1 j is (setF ii q) with
        | some ρ2 => Vt.nx ρ2
        | none => .bad)
      rw [eu]
      obtain ⟨p, _, xs, ys, _, _, _, _, _, ej, es, ef, _⟩ := updL_ok C1 eu
      obtain ⟨S2, A2, d, dx, g1, g2, g3, g4, g5⟩ := ho A1 lo S1 ρ1 r T1 C1 is p _ ea ej es
      have C2 := C1.pure g2 g3
      have w := hi A2 lo S2 ρ1 r T1 C2
      rw [ei] at w
      obtain ⟨_, di, S3, A3, _, g6, ⟨rfl, rfl⟩, g7, _, _, g8⟩ := w
      have C3 := C2.pure g7 g8
      have st := g2.nil_trans g7
      have hq3 := VR.step st (fun _ z => nomatch z) hq nil_disj
      obtain ⟨p', k', xs', ys', d', n, ds, ms, rest, ej', es', ef', q1, q2, q3, q4, q5, q6, put⟩ := updL_ok C3 eu
      rw [ej] at ej'
      cases ej'
      rw [es] at es'
      cases es'
      rw [ef] at ef'
      cases ef'
      rw [g4] at q1
      cases q1
      rw [rdD_mono g7.mono is g5] at q2
      cases q2
      obtain ⟨m, em, rfl⟩ := Option.map_eq_some_iff.mp (show (ixN xs.length ii).map (fun m => xs.set m q) = some ys from ef)
      have hm := ixN_lt em
      obtain ⟨d0, a, b, c, eq1, eq2, hx, putx⟩ := q5.focus m (List.getElem?_eq_getElem hm)
      subst eq1
      have hA : ∀ x ∈ a ++ (b ++ c), A3 x := fun x hx => (VRs.roots xs ds _ q5 x hx).1
      have hv := putx A3 S3 q dq ns (Kept.refl fun x hx => hA x (by
        simp only [List.mem_append] at hx ⊢
        rcases hx with hx | hx
        · exact .inl hx
        · exact .inr (.inr hx))) hq3
      have nd3 := nd_of nd1 q6
      have hs : ∀ x ∈ a ++ (ns ++ c), x ∈ ns ++ (a ++ (b ++ c)) := fun x hx => by
        simp only [List.mem_append] at hx ⊢
        rcases hx with hx | hx | hx
        · exact .inr (.inl hx)
        · exact .inl hx
        · exact .inr (.inr (.inr hx))
      have nk : (a ++ (ns ++ c)).Nodup := by
        refine nd_mid (b := a) (a := ns) (c := c) (List.Sublist.nodup ?_ nd3)
        exact List.Sublist.append (List.Sublist.refl _) (List.Sublist.append (List.Sublist.refl _) (List.sublist_append_right _ _))
      obtain ⟨T', w1, w2, w3⟩ := put _ _ hv (upd_notin nd1 q6 hs)
      have st0 : Out (ns ++ T1) A1 S1 A3 S3 (ns ++ T1) := ⟨st.more (fun _ z => nomatch z), fun x hx => .inl hx, nd1, g8⟩
      refine ⟨r, _, A3, T', ?_, w1, st0.trans (out_upd nd1 q6 w2 nk hs w3 (set_bd C3.bd)), Pin.refl _ _⟩
      have eg : gS o i dq r S1 = some (r, S3.set n (Ob.lst (ds.set m dq))) := by
        unfold gS
        rw [g1]
        dsimp only
        rw [g6]
        dsimp only
        rw [setO_ok q3 (by rw [q5.length]; exact em)]
        rfl
      rw [eg]
def apF (q : P) (xs : List P) : Option (List P) := if xs.length < sizeLine then some (xs ++ [q]) else none
def exF (q : P) (xs : List P) : Option (List P) := (lstP q).bind fun ys => if xs.length + ys.length ≤ sizeLine then some (xs ++ ys) else none
def isLst (ρ : VEnv) (j : Nat) : Bool := match ρ[j]? with
  | some (some p) => (lstP p).isSome
  | _ => false
def vMeN (f : P → List P → Option (List P)) (j : Nat) (e : VE) : VS := fun ρ => if isLst ρ j = true then (e ρ).st fun q ρ1 => (match updL ρ1 j [] (f q) with
    | some ρ2 => .nx ρ2
    | none => .bad) else .bad
def vMe (f : P → List P → Option (List P)) (j : Nat) (pa : VPa) (e : VE) : VS := fun ρ => match pa ρ, e ρ with
  | some is, .ok q _ => (match updL ρ j is (f q) with
    | some ρ2 => .nx ρ2
    | none => .bad)
  | _, _ => .bad
def MetL (g : D → D → Sto → Rs D) (f : P → List P → Option (List P)) : Prop := ∀ A lo S q dq ns xs ds ms n ys, VR A lo S q dq ns → VRs A lo S xs ds ms → S[n]? = some (.lst ds) → (ns ++ ms).Nodup → f q xs = some ys →
  ∃ es ks, g (.loc n) dq S = .ok .non (S.set n (Ob.lst es)) ∧ VRs A lo S ys es ks ∧ ks.Nodup ∧ ∀ x ∈ ks, x ∈ ns ++ ms
theorem lstD_ok {S : Sto} {n : Nat} {ds : List D} (h : S[n]? = some (.lst ds)) : lstD (.loc n) S = some ds := by
  show (match S[n]? with
    | some (.lst ds) => some ds
    | _ => none) = _
  rw [h]
theorem met_ap : MetL apD apF := by
  intro A lo S q dq ns xs ds ms n ys hq hx hn nd e
  unfold apF at e
  split at e
  · rename_i hz
    cases e
    refine ⟨ds ++ [dq], ms ++ ns, ?_, hx.app ⟨dq, [], ns, [], rfl, (List.append_nil _).symm, hq, ⟨rfl, rfl⟩⟩, ?_, fun x h => ?_⟩
    · unfold apD
      rw [lstD_ok hn]
      dsimp only
      rw [if_pos (by rw [hx.length]; exact hz)]
    · have := nd_mid (a := ns) (b := ms) (c := []) (by simpa using nd)
      simpa using this
    · simp only [List.mem_append] at h ⊢
      exact h.symm
  · cases e
theorem sim_meN (j : Nat) {g : D → D → Sto → Rs D} {f : P → List P → Option (List P)} (hg : MetL g f) {e : DE} {ve : VE} (he : SimE e ve) : SimS k (sEx (met1 g (dV j) e)) (vMeN f j ve) := by
  intro A lo S ρ r T C
  unfold vMeN
  by_cases hl : isLst ρ j = true
  · rw [if_pos hl]
    unfold isLst at hl
    split at hl
    · rename_i p0 ej0
      obtain ⟨_, _, _, _, _, er, ⟨d0, rfl, h0⟩, _⟩ := C.env.focus j ej0
      obtain ⟨xs0, e0⟩ := Option.isSome_iff_exists.mp hl
      obtain ⟨n0, ds0, _, rfl, h1, _, _⟩ := lst_vr h0 e0
      have eh : sEx (met1 g (dV j) e) r S = (e r S).st r fun y S2 => ((g (.loc n0) y S2).nox).st r fun _ S3 => .nx r S3 := by
        unfold sEx met1 dV
        rw [er]
        show (match lstD (.loc n0) S with
          | some _ => (e r S).bind fun y S2 => (g (.loc n0) y S2).nox
          | none => .bad).st r _ = _
        rw [lstD_ok h1]
        dsimp only
        cases e r S <;> rfl
      rw [eh]
      refine sim_st he C fun A1 S1 ρ1 T1 q dq ns C1 hq nd1 _ => ?_
      cases eu : updL ρ1 j [] (f q) with
      | none => trivial
      | some ρ2 =>
        obtain ⟨p, k', xs, ys, d, n, ds, ms, rest, ej, es, ef, q1, q2, q3, q4, q5, q6, put⟩ := updL_ok C1 eu
        rw [er] at q1
        cases q1
        cases q2
        obtain ⟨es', ks, g1, g2, g3, g4⟩ := hg A1 lo S1 q dq ns xs ds ms n0 ys hq q5 q3 (nd_of nd1 q6) ef
        obtain ⟨T', w1, w2, w3⟩ := put _ _ g2 (upd_notin nd1 q6 g4)
        refine ⟨r, _, A1, T', ?_, w1, out_upd nd1 q6 w2 g3 g4 w3 (set_bd C1.bd), Pin.refl _ _⟩
        rw [g1]
        rfl
    · cases hl
  · rw [if_neg hl]
    trivial
def vAugI (j : Nat) (ix e : VE) : VS := fun ρ => match ρ[j]?, ix ρ with
  | some (some (.ow _ .lst xs)), .ok (.int i) _ => (match atP xs i, e ρ with
    | some (.int a), .ok (.int b) _ => (match updL ρ j [] (setF i (.int (a + b))) with
      | some ρ2 => .nx ρ2
      | none => .bad)
    | _, _ => .bad)
  | _, _ => .bad
theorem sim_augI (j : Nat) {i e : DE} {vi ve : VE} (hi : SimP i vi) (he : SimP e ve) : SimS k (sAugI (dV j) i e) (vAugI j vi ve) := by
  intro A lo S ρ r T C
  unfold vAugI
  split
  · rename_i k0 xs ii ρ0 ej ei
    split
    · rename_i a b ρ1 ea ee
      cases eu : updL ρ j [] (setF ii (.int (a + b))) with
      | none => trivial
      | some ρ2 =>
        dsimp only
        obtain ⟨_, _, _, _, _, er, ⟨d0, rfl, h0⟩, _⟩ := C.env.focus j ej
        obtain ⟨n0, ds0, ms0, rfl, h1, _, _, _, _, h6⟩ := h0
        have w := hi A lo S ρ r T C
        rw [ei] at w
        obtain ⟨_, di, S1, A1, _, g1, ⟨rfl, rfl⟩, g2, _, _, g3⟩ := w
        have C1 := C.pure g2 g3
        have w := he A1 lo S1 ρ r T C1
        rw [ee] at w
        obtain ⟨_, de, S2, A2, _, g4, ⟨rfl, rfl⟩, g5, _, _, g6⟩ := w
        have C2 := C1.pure g5 g6
        have h1' := g2.mono _ _ h1
        obtain ⟨da, _, k1, ⟨rfl, _⟩, _⟩ := at_vr h6 ea
        obtain ⟨p, k', xs', ys, d, n, ds, ms, rest, ej', es, ef, q1, q2, q3, q4, q5, q6, put⟩ := updL_ok C2 eu
        rw [ej] at ej'
        cases ej'
        cases es
        rw [er] at q1
        cases q1
        cases q2
        obtain ⟨m, em, rfl⟩ := Option.map_eq_some_iff.mp (show (ixN xs.length ii).map (fun m => xs.set m (.int (a + b))) = some ys from ef)
        obtain ⟨d0, a', b', c', eq1, eq2, hx, putx⟩ := q5.focus m (List.getElem?_eq_getElem (ixN_lt em))
        subst eq1
        have hA : ∀ x ∈ a' ++ (b' ++ c'), A2 x := fun x hx => (VRs.roots xs ds _ q5 x hx).1
        have hv := putx A2 S2 (.int (a + b)) (.int (a + b)) [] (Kept.refl fun x hx => hA x (by
          simp only [List.mem_append] at hx ⊢
          rcases hx with hx | hx
          · exact .inl hx
          · exact .inr (.inr hx))) ⟨rfl, rfl⟩
        have hs : ∀ x ∈ a' ++ ([] ++ c'), x ∈ ([] : List Nat) ++ (a' ++ (b' ++ c')) := fun x hx => by
          simp only [List.mem_append] at hx ⊢
          rcases hx with hx | hx | hx
          · exact .inr (.inl hx)
          · cases hx
          · exact .inr (.inr (.inr hx))
        have nd3 := nd_of (ns := []) C2.nd q6
        have nk : (a' ++ ([] ++ c')).Nodup := List.Sublist.nodup (List.Sublist.append (List.Sublist.refl _) (List.sublist_append_right _ _)) nd3
        obtain ⟨T', w1, w2, w3⟩ := put _ _ hv (upd_notin (ns := []) C2.nd q6 hs)
        have st := g2.nil_trans g5
        have st0 : Out T A S A2 S2 T := ⟨st.more (fun _ z => nomatch z), fun x hx => .inl hx, C.nd, g6⟩
        refine ⟨r, _, A2, T', ?_, w1, st0.trans (out_upd (ns := []) C2.nd q6 w2 nk hs w3 (set_bd C2.bd)), Pin.refl _ _⟩
        unfold sAugI dV
        rw [er]
        show (i r S).st r _ = _
        rw [g1]
        show (match lstD (.loc n0) S1, D.int ii with
          | some ds, .int k => _
          | _, _ => _) = _
        rw [lstD_ok h1']
        show (match atD ds0 ii with
          | some x => _
          | none => _) = _
        rw [k1]
        show (e r S1).st r _ = _
        rw [g4]
        show (match setO (.loc n0) (.int ii) (.int (a + b)) S2 with
          | some S4 => Rt.nx r S4
          | none => .bad) = _
        rw [setO_ok q3 (by rw [q5.length]; exact em)]
    · trivial
  · trivial
end
theorem sim_end {F : List D → Sto → Rs D} {g : List P → Vf} (h : SimF 0 F g) {ns : List Int} (e : g [.scr ns] = .ok (.bl true) []) : ∃ S', F [.scr ns] [] = .ok (.bl true) S' := by
  have q := h (fun _ => False) 0 [] [.scr ns] [.scr ns] [] ⟨_, _, [], [], rfl, rfl, ⟨rfl, rfl⟩, ⟨rfl, rfl⟩⟩ List.nodup_nil (fun _ z => z.elim) (Nat.le_refl _)
  rw [e] at q
  obtain ⟨d, S', A', n1, n2, e1, ⟨rfl, _⟩, _⟩ := q
  exact ⟨S', e1⟩
def vAt (j : Nat) (e : VE) : VE := fun ρ => match ρ[j]? with
  | some (some _) => (e ρ).bind fun x ρ1 => (match x, ρ1[j]? with
    | .int i, some (some p) => (match (seqP p).bind fun xs => atP xs i with
      | some q => if noo q = true then .ok q ρ1 else (match subT p [i], repT p [i] (fr q) with
        | some _, some p' => .ok (fr q) (ρ1.set j (some p'))
        | _, _ => .bad)
      | none => .bad)
    | _, _ => .bad)
  | _ => .bad
theorem sub_seq {p q : P} {i : Int} (h : subT p [i] = some q) : (seqP p).bind (fun xs => atP xs i) = some q := by
  cases p <;> first | (cases h; done) | skip
  · obtain ⟨x, e1, e2⟩ := Option.bind_eq_some_iff.mp h
    have e2 : some x = some q := by
      cases x <;> exact e2
    rw [← e2]
    exact e1
  · rename_i k sh xs
    cases sh <;> first | (cases h; done) | skip
    obtain ⟨x, e1, e2⟩ := Option.bind_eq_some_iff.mp h
    have e2 : some x = some q := by
      cases x <;> exact e2
    rw [← e2]
    exact e1
theorem sim_at (j : Nat) {e : DE} {ve : VE} (he : SimE e ve) : SimE (bin ixD (dV j) e) (vAt j ve) := by
  intro A lo S ρ r T C
  unfold vAt
  split
  · rename_i p0 ej
    obtain ⟨_, _, _, _, _, er, ⟨d0, rfl, _⟩, _⟩ := C.env.focus j ej
    have eh : bin ixD (dV j) e r S = (e r S).bind fun y S2 => (ixD d0 y S2).nox := by
      unfold bin dV
      rw [er]
      rfl
    rw [eh]
    refine sim_bind he C fun A1 S1 ρ1 T1 x dx ns C1 hx nd1 _ => ?_
    cases x <;> first | trivial | skip
    rename_i i
    obtain ⟨rfl, rfl⟩ := hx
    cases ej1 : ρ1[j]? with
    | none => trivial
    | some o =>
    cases o with
    | none => trivial
    | some p =>
    obtain ⟨a, b, c, x, eT, er1, ⟨d1, ex, hp⟩, put⟩ := C1.env.focus j ej1
    rw [er] at er1
    cases er1
    cases ex
    show PoE VR lo T1 A1 S1 r _ (match (seqP p).bind fun xs => atP xs i with
      | some q => if noo q = true then .ok q ρ1 else (match subT p [i], repT p [i] (fr q) with
        | some _, some p' => .ok (fr q) (ρ1.set j (some p'))
        | _, _ => .bad)
      | none => .bad)
    cases eq : (seqP p).bind fun xs => atP xs i with
    | none => trivial
    | some q =>
      dsimp only
      obtain ⟨xs, e1, e2⟩ := Option.bind_eq_some_iff.mp eq
      obtain ⟨ds, ms, h1, h2, h3⟩ := seq_vr hp e1
      obtain ⟨y, m, h4, h5, h6⟩ := at_vr h2 e2
      have z : ixD d0 (.int i) S1 = .ok y S1 := by
        have q := (not_str hp e1).1
        have z : ixD d0 (.int i) S1 = match seqD d0 S1 with
          | some ds => (match atD ds i with
            | some d => .ok d S1
            | none => .bad)
          | none => .bad := by
          cases d0 <;> first | rfl | exact absurd rfl (q _)
        rw [z, h1]
        dsimp only
        rw [h4]
      rw [z]
      by_cases hq : noo q = true
      · rw [if_pos hq]
        have hm := VR.noo q y m h5 hq
        subst hm
        exact ⟨y, S1, A1, T1, [], rfl, C1.env, h5, Out.refl C1.nd C1.bd⟩
      · rw [if_neg hq]
        cases es : subT p [i] with
        | none => trivial
        | some q' =>
        cases ep : repT p [i] (fr q) with
        | none => trivial
        | some p' =>
        dsimp only
        have := sub_seq es
        rw [eq] at this
        cases this
        obtain ⟨dq, a', b', c', eb, hr, hv, put'⟩ := VR.focus [i] hp es
        subst eb
        subst eT
        have hdq : dq = y := by
          obtain ⟨ds', q1, q2⟩ := Option.bind_eq_some_iff.mp (show (seqD d0 S1).bind (fun ds => (atD ds i).bind fun e => rdD e [] S1) = some dq from hr)
          rw [h1] at q1
          cases q1
          obtain ⟨y', q3, q4⟩ := Option.bind_eq_some_iff.mp q2
          rw [h4] at q3
          cases q3
          exact (Option.some.inj q4).symm
        subst hdq
        have pm : (a ++ ((a' ++ (b' ++ c')) ++ c)).Perm (b' ++ ((a ++ c) ++ (a' ++ c'))) := by
          rw [List.perm_iff_count]
          intro x
          simp only [List.count_append]
          omega
        have nd := pm.nodup_iff.mp C1.nd
        obtain ⟨n1, n2, n3⟩ := List.nodup_append.mp nd
        have st : Step b' A1 S1 (fun n => A1 n ∧ n ∉ b') S1 := ⟨Nat.le_refl _, fun _ _ _ => rfl, fun n _ hn => ⟨And.left, fun z => ⟨z, hn⟩⟩⟩
        have hbA : ∀ n ∈ b', A1 n := fun n hn => (VR.roots q dq b' hv n hn).1
        have hf : VR (fun n => A1 n ∧ n ∉ b') lo S1 (fr q) dq [] := VR.fr (fun n _ h1 h2 => h1 h2.1) q dq b' hv fun n hn hz => hz.2 hn
        have rA : ∀ n ∈ a' ++ c', A1 n := fun m hm => (VR.roots p d0 _ hp m (by
          simp only [List.mem_append] at hm ⊢
          rcases hm with hm | hm
          · exact .inl hm
          · exact .inr (.inr hm))).1
        obtain ⟨p2, ep2, hp2⟩ := put' (fun n => A1 n ∧ n ∉ b') S1 (fr q) [] ⟨fun n _ hA => ⟨rfl, fun z => hA z.1⟩, fun n hn => ⟨rfl, rA n hn, fun z => n3 n z n (List.mem_append_right _ hn) rfl⟩⟩ hf
        rw [ep] at ep2
        cases ep2
        have e0 : EnvR A1 lo S1 (ρ1.set j none) r (a ++ c) := by
          have z := put none (some d0) [] rfl
          rw [set_self er] at z
          exact z
        have e3 := e0.step st hbA fun n hn z => n3 n z n (List.mem_append_left _ hn) rfl
        obtain ⟨a2, b2, c2, x2, eT2, er2, hs2, put2⟩ := e3.focus j (o := none) (List.getElem?_set_self (lt_of_nth ej1))
        have hs2 : b2 = [] := hs2
        subst hs2
        have w := put2 (some p') (some d0) _ ⟨d0, rfl, hp2⟩
        rw [List.set_set, set_self er] at w
        have pm2 : (a2 ++ ((a' ++ ([] ++ c')) ++ c2)).Perm ((a ++ c) ++ (a' ++ c')) := by
          rw [List.perm_iff_count]
          intro x
          have w := congrArg (List.count x) eT2
          simp only [List.count_append, List.count_nil] at w ⊢
          omega
        refine ⟨dq, S1, _, _, [], rfl, w, hf, ⟨st.more fun n hn => by simp [hn], fun n hn => .inl ?_, pm2.nodup_iff.mpr n2, fun n hn => C1.bd n hn.1⟩⟩
        have hn := pm2.mem_iff.mp (show n ∈ a2 ++ ((a' ++ ([] ++ c')) ++ c2) from hn)
        show n ∈ a ++ ((a' ++ (b' ++ c')) ++ c)
        exact pm.mem_iff.mpr (List.mem_append_right _ hn)
  · trivial
def vFrMGo (x : Nat) (b : VS) : List P → VEnv → List P × Vt
  | [], ρ => ([], .nx ρ)
  | q :: qs, ρ => if x < ρ.length then (match b (ρ.set x (some q)) with
    | .nx ρ2 => (match ρ2[x]? with
      | some (some q') => (q' :: (vFrMGo x b qs (ρ2.set x none)).1, (vFrMGo x b qs (ρ2.set x none)).2)
      | _ => ([], .bad))
    | .ct ρ2 => (match ρ2[x]? with
      | some (some q') => (q' :: (vFrMGo x b qs (ρ2.set x none)).1, (vFrMGo x b qs (ρ2.set x none)).2)
      | _ => ([], .bad))
    | .bk ρ2 => (match ρ2[x]? with
      | some (some q') => (q' :: qs, .nx (ρ2.set x none))
      | _ => ([], .bad))
    | .rt p ρ2 => (match ρ2[x]? with
      | some (some q') => (q' :: qs, .rt p (ρ2.set x none))
      | _ => ([], .bad))
    | .exc e ρ2 => (match ρ2[x]? with
      | some (some q') => (q' :: qs, .exc e (ρ2.set x none))
      | _ => ([], .bad))
    | .bad => ([], .bad)) else ([], .bad)
def Grd (S : Sto) (G : List Nat) (gd : Sto → Prop) : Prop := ∀ S', S.length ≤ S'.length → (∀ n ∈ G, S'[n]? = S[n]?) → gd S'
theorem Grd.step {T G : List Nat} {A A' : Nat → Prop} {S S' : Sto} {gd : Sto → Prop} (h : Grd S G gd) (st : Step T A S A' S') (hG : ∀ n ∈ G, n < S.length ∧ n ∉ T) : Grd S' G gd := fun S2 hl hs => h S2 (Nat.le_trans st.len hl) fun n hn => by
  rw [hs n hn, st.same n (hG n hn).1 (hG n hn).2]
def Vt.upd (v : Vt) (f : VEnv → Option VEnv) : Vt := match v with
  | .nx ρ => (match f ρ with
    | some ρ' => .nx ρ'
    | none => .bad)
  | .rt p ρ => (match f ρ with
    | some ρ' => .rt p ρ'
    | none => .bad)
  | .exc x ρ => (match f ρ with
    | some ρ' => .exc x ρ'
    | none => .bad)
  | _ => .bad
def vFrM1 (j : Nat) (pa : VPa) (x : Nat) (b : VS) : VS := fun ρ => match pa ρ, ρ[j]? with
  | some is, some (some p) => (match subT p is with
    | some (.ow k .lst xs) => (vFrMGo x b xs (ρ.set j (some .hol))).2.upd fun ρ' => (repT p is (.ow k .lst (vFrMGo x b xs (ρ.set j (some .hol))).1)).map fun p' => ρ'.set j (some p')
    | _ => .bad)
  | _, _ => .bad
section
variable {k : List Nat}
end
def vCllT (g : List P → Vf) (a : VA) : VE := fun ρ => (a ρ).bind fun ps ρ1 => match ps with
  | p :: ps => (match g (p :: frs ps) with
    | .ok p _ => .ok p ρ1
    | .exc x _ => .exc x ρ1
    | .bad => .bad)
  | [] => .bad
theorem VRs.rep {A : Nat → Prop} {lo : Nat} {S : Sto} {xs : List P} {ds : List D} (h : VRs A lo S xs ds []) : ∀ n : Nat, VRs A lo S (List.replicate n xs).flatten (List.replicate n ds).flatten []
  | 0 => ⟨rfl, rfl⟩
  | n + 1 => by
    rw [List.replicate_succ, List.replicate_succ, List.flatten_cons, List.flatten_cons]
    exact VRs.app h (VRs.rep h n)
def isbP : List P → Option P
  | [.bl a, .bl b] => some (.bl (a == b))
  | _ => none
def isnbP : List P → Option P
  | [.bl a, .bl b] => some (.bl (a != b))
  | _ => none
def vSetH (j : Nat) (ix e : VE) : VS := fun ρ => (e ρ).st fun q ρ1 => match ix ρ1 with
  | .ok (.int i) ρ2 => (match updL ρ2 j [] (setF i q) with
    | some ρ3 => .nx ρ3
    | none => .bad)
  | _ => .bad
section
variable {k : List Nat}
def vgS (j : Nat) (pa : VPa) (ix : VE) : VG := fun q ρ => match pa ρ, ix ρ with
  | some is, .ok (.int i) _ => updL ρ j is (setF i q)
  | _, _ => none
end
def vRv (a : VE) : VE := fun ρ => (a ρ).bind fun x ρ1 => match (if noo x = true then lsP x else none) with
  | some xs => .ok (.own xs.reverse) ρ1
  | none => .bad
def lookP (f : Str) : List Str → List P → Option P
  | n :: nm, x :: xs => if n = f then some x else lookP f nm xs
  | _, _ => none
def insP (C : Str) : P → Option (List Str × List P)
  | .nd _ (.ins c nm) xs => if c = C then some (nm, xs) else none
  | .ow _ (.ins c nm) xs => if c = C then some (nm, xs) else none
  | _ => none
def fldP (C f : Str) : List P → Option P
  | [x] => (insP C x).bind fun q => lookP f q.1 q.2
  | _ => none
def hasP (C m : Str) (p : P) : Bool := match insP C p with
  | some (nm, _) => !nm.contains m
  | none => false
def vMth0 (C m : Str) (g : List P → Vf) (o : VE) (a : VA) : VE := fun ρ => match o ρ with
  | .ok p ρ1 => if hasP C m p = true then (a ρ1).bind fun ps ρ2 => (match g (frs (p :: ps)) with
    | .ok p _ => .ok p ρ2
    | .exc x _ => .exc x ρ2
    | .bad => .bad) else .bad
  | .exc x ρ1 => .exc x ρ1
  | .bad => .bad
def vMk (C : Str) (g : List P → Vf) (a : VA) : VE := fun ρ => (a ρ).bind fun ps ρ1 => match g (.ow true (.ins C []) [] :: frs ps) with
  | .ok .non [q] => .ok q ρ1
  | .exc x _ => .exc x ρ1
  | _ => .bad
def putP (f : Str) (q : P) : List Str → List P → Option (List Str × List P)
  | [], [] => some ([f], [q])
  | n :: nm, x :: xs => if n = f then some (n :: nm, q :: xs) else (putP f q nm xs).map fun z => (n :: z.1, x :: z.2)
  | _, _ => none
def vFld (C f : Str) (j : Nat) (e : VE) : VS := fun ρ => (e ρ).st fun q ρ1 => match ρ1[j]? with
  | some (some (.ow k (.ins c nm) xs)) => if c = C ∧ nm.length < 1000 then (match putP f q nm xs with
    | some z => .nx (ρ1.set j (some (.ow k (.ins c z.1) z.2)))
    | none => .bad) else .bad
  | _ => .bad
theorem VRs.split {A : Nat → Prop} {lo : Nat} {S : Sto} {es : List D} : ∀ {ds : List D} {zs : List P} {hs : List Nat}, VRs A lo S zs (ds ++ es) hs → ∃ h1 h2, hs = h1 ++ h2 ∧ VRs A lo S (zs.take ds.length) ds h1 ∧ VRs A lo S (zs.drop ds.length) es h2
  | [], zs, hs, h => ⟨[], hs, rfl, by rw [List.length_nil, List.take_zero]; exact ⟨rfl, rfl⟩, by rw [List.length_nil, List.drop_zero]; exact h⟩
  | d :: ds, [], hs, h => by
    have := h.1
    cases this
  | d :: ds, z :: zs, hs, h => by
    obtain ⟨d', r, n1, n2, e, rfl, h1, h2⟩ := h
    cases e
    obtain ⟨m1, m2, rfl, q1, q2⟩ := VRs.split (ds := ds) h2
    exact ⟨n1 ++ m1, m2, by rw [List.append_assoc], ⟨d, ds, n1, m1, rfl, rfl, h1, q1⟩, q2⟩
def vFrM2 (j1 j2 x : Nat) (b : VS) : VS := fun ρ => match ρ[j1]?, ρ[j2]? with
  | some (some (.ow k1 .lst xs)), some (some (.ow k2 .lst ys)) => if xs.length + ys.length ≤ sizeLine then
      (vFrMGo x b (xs ++ ys) ((ρ.set j1 (some .hol)).set j2 (some .hol))).2.upd fun ρ' => some ((ρ'.set j1 (some (.ow k1 .lst ((vFrMGo x b (xs ++ ys) ((ρ.set j1 (some .hol)).set j2 (some .hol))).1.take xs.length)))).set j2
        (some (.ow k2 .lst ((vFrMGo x b (xs ++ ys) ((ρ.set j1 (some .hol)).set j2 (some .hol))).1.drop xs.length))))
    else .bad
  | _, _ => .bad
section
variable {k : List Nat}
end
def vCll1M (g : List P → Vf) (j : Nat) (a : VA) : VE := fun ρ => match ρ[j]? with
  | some (some _) => (a ρ).bind fun ps ρ1 => (match ρ1[j]? with
    | some (some q) => (match g (q :: ps) with
      | .ok p [q1] => .ok p (ρ1.set j (some q1))
      | .exc x [q1] => .exc x (ρ1.set j (some q1))
      | _ => .bad)
    | _ => .bad)
  | _ => .bad
def vTk (j : Nat) (e : VE) : VE := fun ρ => match ρ[j]? with
  | some (some _) => (e ρ).bind fun x ρ1 => (match x, ρ1[j]? with
    | .int i, some (some (.ow k .lst xs)) => (match ixN xs.length i with
      | some m => (match xs[m]? with
        | some q => .ok q (ρ1.set j (some (.ow k .lst (xs.set m .hol))))
        | none => .bad)
      | none => .bad)
    | _, _ => .bad)
  | _ => .bad
def vClr (j : Nat) : VE := fun ρ => match ρ[j]? with
  | some (some (.ow k .lst _)) => .ok .non (ρ.set j (some (.ow k .lst [])))
  | _ => .bad
theorem VRs.erase {A : Nat → Prop} {lo : Nat} {S : Sto} : ∀ {xs : List P} {ds : List D} {ns : List Nat} (m : Nat) {q : P}, VRs A lo S xs ds ns → xs[m]? = some q → ∃ d nq ks, ds[m]? = some d ∧ VR A lo S q d nq ∧ VRs A lo S (xs.eraseIdx m) (ds.eraseIdx m) ks ∧ ∀ x, nq.count x + ks.count x = ns.count x
  | [], _, _, _, _, _, e => nomatch e
  | y :: xs, _, _, 0, q, h, e => by
    obtain ⟨d, r, n1, n2, rfl, rfl, h1, h2⟩ := h
    cases e
    exact ⟨d, n1, n2, rfl, h1, h2, fun x => by rw [List.count_append]⟩
  | y :: xs, _, _, m + 1, q, h, e => by
    obtain ⟨d, r, n1, n2, rfl, rfl, h1, h2⟩ := h
    obtain ⟨d', nq, ks, q1, q2, q3, q4⟩ := VRs.erase m h2 (by simpa using e)
    refine ⟨d', nq, n1 ++ ks, by simpa using q1, q2, ⟨d, _, n1, ks, rfl, rfl, h1, q3⟩, fun x => ?_⟩
    have := q4 x
    simp only [List.count_append]
    omega
def vPopI (j : Nat) (e : VE) : VE := fun ρ => match ρ[j]? with
  | some (some (.ow _ .lst _)) => (e ρ).bind fun x ρ1 => (match x, ρ1[j]? with
    | .int i, some (some (.ow k .lst xs)) => (match (if xs.length ≤ sizeLine then ixN xs.length i else none) with
      | some m => (match xs[m]? with
        | some q => .ok q (ρ1.set j (some (.ow k .lst (xs.eraseIdx m))))
        | none => .bad)
      | none => .bad)
    | _, _ => .bad)
  | _ => .bad
def vFz (a : VE) : VE := fun ρ => (a ρ).bind fun x ρ1 => .ok (fr x) ρ1
def vChn (f g : Int → Int → Bool) (a b c : VE) : VT := fun ρ => (a ρ).bind fun x ρ1 => match x with
  | .int i => (b ρ1).bind fun y ρ2 => (match y with
    | .int j => if f i j then (c ρ2).bind fun z ρ3 => (match z with
      | .int k => .ok (g j k) ρ3
      | _ => .bad) else .ok false ρ2
    | _ => .bad)
  | _ => .bad
theorem sim_chn {f g : Int → Int → Bool} {a b c : DE} {va vb vc : VE} (ha : SimE a va) (hb : SimE b vb) (hc : SimE c vc) : SimT (chnD f g a b c) (vChn f g va vb vc) := fun A lo S ρ r T C =>
  sim_bind ha C fun A1 S1 ρ1 T1 p d ns C1 h1 nd1 _ => by
    cases p <;> first | trivial | skip
    rename_i i
    obtain ⟨rfl, rfl⟩ := h1
    refine sim_bind hb C1 fun A2 S2 ρ2 T2 q d2 ns2 C2 h2 nd2 _ => ?_
    cases q <;> first | trivial | skip
    rename_i j
    obtain ⟨rfl, rfl⟩ := h2
    dsimp only
    cases f i j with
    | false => exact ⟨_, S2, A2, T2, [], rfl, C2.env, ⟨rfl, rfl⟩, Out.drop (T := T) nd2 C2.bd⟩
    | true =>
      refine sim_bind hc C2 fun A3 S3 ρ3 T3 q3 d3 ns3 C3 h3 nd3 _ => ?_
      cases q3 <;> first | trivial | skip
      rename_i k
      obtain ⟨rfl, rfl⟩ := h3
      exact ⟨_, S3, A3, T3, [], rfl, C3.env, ⟨rfl, rfl⟩, Out.drop (T := T) nd3 C3.bd⟩
section
variable {k : List Nat}
end
def vRz0 (C : Str) : VS := fun ρ => .exc ⟨C, none⟩ ρ
def vRz1 (C f : Str) (v : VE) : VS := fun ρ => (v ρ).st fun p ρ1 => .exc ⟨C, some (f, fr p)⟩ ρ1
section
variable {k : List Nat}
end
def Vt.unset (i : Nat) (x : Vt) : Vt := match x with
  | .nx ρ => .nx (ρ.set i none)
  | .bk ρ => .bk (ρ.set i none)
  | .ct ρ => .ct (ρ.set i none)
  | .rt p ρ => .rt p ρ
  | _ => .bad
def vTryA (i : Nat) (t : List (Str × Bool)) (h : Str → Option Str → VS) (b : VS) : VS := fun ρ => match b ρ with
  | .exc x ρ1 => (match t.lookup x.cls with
    | some true => if i < ρ1.length then (h x.cls (x.fld.map (·.1)) (ρ1.set i (x.fld.map (·.2)))).unset i else .bad
    | some false => .exc x ρ1
    | none => .bad)
  | x => x
def vIsD (l : List (Str × Bool)) (c : Str) : VE := match l.lookup c with
  | some b => vC (.bl b)
  | none => fun _ => .bad
def vAnD (l : List (List (Str × Bool))) (c : Str) : VE := match anyT l c with
  | some b => vC (.bl b)
  | none => fun _ => .bad
def vXf (l : List Str) (c : Str) (g : Option Str) (n : Str) (i : Nat) : VE := if g = some n ∧ c ∈ l then vV i else fun _ => .bad
theorem EnvR.put {A : Nat → Prop} {lo : Nat} {S : Sto} {ρ : VEnv} {r : Ev} {T : List Nat} (i : Nat) (h : EnvR A lo S ρ r T) {o : Option P} {x : Option D} (hs : SlotR A lo S o x []) :
    ∃ T', EnvR A lo S (ρ.set i o) (r.set i x) T' ∧ (∀ n ∈ T', n ∈ T) ∧ (T.Nodup → T'.Nodup) := by
  cases e : ρ[i]? with
  | none =>
    have hl : ρ.length ≤ i := List.getElem?_eq_none_iff.mp e
    refine ⟨T, ?_, fun _ z => z, fun z => z⟩
    rw [List.set_eq_of_length_le hl, List.set_eq_of_length_le (by rw [h.length]; exact hl)]
    exact h
  | some o0 =>
    obtain ⟨a, b, c, x0, q1, q2, q3, q4⟩ := EnvR.focus i h e
    refine ⟨a ++ ([] ++ c), q4 o x [] hs, fun n hn => ?_, fun z => ?_⟩
    · rw [q1]
      simp only [List.mem_append, List.nil_append] at hn ⊢
      rcases hn with z | z
      · exact .inl z
      · exact .inr (.inr z)
    · rw [q1] at z
      obtain ⟨z1, z2, z3⟩ := List.nodup_append.mp z
      rw [List.nil_append]
      exact List.nodup_append.mpr ⟨z1, (List.nodup_append.mp z2).2.1, fun x hx y hy => z3 x hx y (List.mem_append_right _ hy)⟩
theorem Pin.set {k : List Nat} {r : Ev} {i : Nat} (hi : i ∉ k) (x : Option D) : Pin k r (r.set i x) := fun j hj => List.getElem?_set_ne fun z => hi (by rw [z]; exact hj)
def vDc : VE := fun ρ => .ok (.ow true (.dic []) []) ρ
abbrev Vcl := List (Str × Bool) × VS
def Vt.noexc (x : Vt) : Vt := match x with
  | .exc _ _ => .bad
  | x => x
def vClGo (x : Xv) (ρ : VEnv) : List Vcl → Vt
  | [] => .exc x ρ
  | q :: l => match q.1.lookup x.cls with
    | some true => (q.2 ρ).noexc
    | some false => vClGo x ρ l
    | none => .bad
def vTryM (cl : List Vcl) (b : VS) : VS := fun ρ => match b ρ with
  | .exc x ρ1 => vClGo x ρ1 cl
  | x => x
def LeS (a b : VS) : Prop := ∀ ρ, a ρ = .bad ∨ a ρ = b ρ
def LeF (f g : List P → Vf) : Prop := ∀ ps, f ps = .bad ∨ f ps = g ps
theorem LeF.ok {f g : List P → Vf} (h : LeF f g) {ps : List P} {p : P} {o : List P} (e : f ps = .ok p o) : g ps = .ok p o := by
  rcases h ps with z | z
  · rw [e] at z; cases z
  · rw [← z, e]
theorem le_refl {a : VS} : LeS a a := fun _ => .inr rfl
section
variable {k : List Nat}
end
def strP : List P → Option P
  | [.int i] => if wrC i = true then some (.str (Str.ofString (toString i))) else none
  | _ => none
theorem op_strP : OpN strD strP := opn_sc fun A lo S ps ds ns x hv e => by
  unfold strP at e
  split at e
  · obtain ⟨d, rfl, ⟨rfl, _⟩⟩ := VRs.inv1 hv
    split at e
    · rename_i i hi
      cases e
      exact ⟨_, if_pos hi, fun A lo => ⟨rfl, rfl⟩⟩
    · cases e
  · cases e
def intTP : List P → Option P
  | [.str a] => if a.length ≤ sizeLine then (PySem.intText? a).map P.int else none
  | _ => none
theorem op_intTP : OpN intTD intTP := opn_sc fun A lo S ps ds ns x hv e => by
  unfold intTP at e
  split at e
  · rename_i a
    obtain ⟨d, rfl, ⟨rfl, _⟩⟩ := VRs.inv1 hv
    split at e
    · rename_i hl
      obtain ⟨n, h1, rfl⟩ := Option.map_eq_some_iff.mp e
      refine ⟨.int n, ?_, fun A lo => ⟨rfl, rfl⟩⟩
      show ((if a.length ≤ sizeLine then (match PySem.intText? a with
        | some n => Rs.ok (D.int n) S
        | none => .bad) else .bad) : Rs D) = _
      rw [if_pos hl, h1]
    · cases e
  · cases e
def repSP : List P → Option P
  | [.str z, .int n] => if decide (0 ≤ n ∧ z.length * n.toNat ≤ 1000000 ∧ n < 1000000) = true then some (.str (repS z n.toNat)) else none
  | _ => none
theorem op_repSP : Op2 repSD repSP := opn_sc fun A lo S ps ds ns x hv e => by
  unfold repSP at e
  split at e
  · obtain ⟨d, e2, n1, n2, rfl, _, ⟨rfl, _⟩, ⟨rfl, _⟩⟩ := VRs.inv2 hv
    split at e
    · rename_i h
      cases e
      exact ⟨_, if_pos h, fun A lo => ⟨rfl, rfl⟩⟩
    · cases e
  · cases e
def inSP (neg : Bool) : List P → Option P
  | [.str y, .str z] => (match y.cps.toList with
    | [c] => some (.bl (if neg then !decide (c ∈ z.cps.toList) else decide (c ∈ z.cps.toList)))
    | _ => none)
  | _ => none
theorem op_inSP {neg : Bool} : Op2 (inSD neg) (inSP neg) := opn_sc fun A lo S ps ds ns x hv e => by
  unfold inSP at e
  split at e
  · rename_i y z
    obtain ⟨d, e2, n1, n2, rfl, _, ⟨rfl, _⟩, ⟨rfl, _⟩⟩ := VRs.inv2 hv
    split at e
    · rename_i c h
      cases e
      refine ⟨.bl (if neg then !decide (c ∈ z.cps.toList) else decide (c ∈ z.cps.toList)), ?_, fun A lo => ⟨rfl, rfl⟩⟩
      show (match y.cps.toList with
        | [c] => Rs.ok (D.bl (if neg then !decide (c ∈ z.cps.toList) else decide (c ∈ z.cps.toList))) S
        | _ => .bad) = _
      rw [h]
    · cases e
  · cases e
def fmtP : List P → Option P
  | [.int i] => if wrC i = true then some (.str (Str.ofString (toString i))) else none
  | [.str z] => if z.length ≤ sizeLine then some (.str z) else none
  | _ => none
theorem op_fmtP : Op1 fmtD fmtP := opn_sc fun A lo S ps ds ns x hv e => by
  unfold fmtP at e
  split at e
  · obtain ⟨d, rfl, ⟨rfl, _⟩⟩ := VRs.inv1 hv
    split at e
    · rename_i i hi
      cases e
      exact ⟨_, if_pos hi, fun A lo => ⟨rfl, rfl⟩⟩
    · cases e
  · obtain ⟨d, rfl, ⟨rfl, _⟩⟩ := VRs.inv1 hv
    split at e
    · rename_i i hi
      cases e
      exact ⟨_, if_pos hi, fun A lo => ⟨rfl, rfl⟩⟩
    · cases e
  · cases e
def vSme (op : List P → Option P) (a b : VE) : VE := fun ρ => (a ρ).bind fun x ρ1 => match x with
  | .str z => vBi op (vC (.str z)) b ρ1
  | _ => .bad
theorem sim_sme {g : D → D → Sto → Rs D} {op : List P → Option P} {a b : DE} {va vb : VE} (hg : Op2 g op) (ha : SimE a va) (hb : SimE b vb) : SimE (smet1 g a b) (vSme op va vb) := fun A lo S ρ r T C =>
  sim_bind ha C fun A1 S1 ρ1 T1 p d ns C1 h1 nd1 _ => by
    cases p <;> first | trivial | skip
    rename_i z
    obtain ⟨rfl, rfl⟩ := h1
    exact sim_bin hg sim_str hb A1 lo S1 ρ1 r T1 C1
def partP : List P → Option P
  | [.str a, .str b] => if decide ((b.length == 0) = false ∧ a.length ≤ sizeLine) = true then some (.tup [.str (Txt.partition a b).1, .str (Txt.partition a b).2.1, .str (Txt.partition a b).2.2]) else none
  | _ => none
theorem op_partP : Op2 partD partP := opn_sc fun A lo S ps ds ns x hv e => by
  unfold partP at e
  split at e
  · obtain ⟨d, e2, n1, n2, rfl, _, ⟨rfl, _⟩, ⟨rfl, _⟩⟩ := VRs.inv2 hv
    split at e
    · rename_i h
      cases e
      exact ⟨_, if_pos h, fun A lo => ⟨_, rfl, _, _, [], [], rfl, rfl, ⟨rfl, rfl⟩, _, _, [], [], rfl, rfl, ⟨rfl, rfl⟩, _, _, [], [], rfl, rfl, ⟨rfl, rfl⟩, ⟨rfl, rfl⟩⟩⟩
    · cases e
  · cases e
theorem vrs_strs {A : Nat → Prop} {lo : Nat} {S : Sto} : ∀ zs : List Str, VRs A lo S (zs.map P.str) (zs.map D.str) []
  | [] => ⟨rfl, rfl⟩
  | z :: zs => ⟨_, _, [], [], rfl, rfl, ⟨rfl, rfl⟩, vrs_strs zs⟩
def splP : List P → Option P
  | [.str a, .str b] => if decide ((b.length == 0) = false ∧ a.length + 2 ≤ sizeLine) = true then some (.own ((Txt.split a b).map P.str)) else none
  | _ => none
theorem op_splP : Op2 splD splP := by
  intro A lo S ps ds ns x hv hn hb hl e
  unfold splP at e
  split at e
  · rename_i a b
    obtain ⟨d, e2, n1, n2, rfl, rfl, ⟨rfl, rfl⟩, ⟨rfl, rfl⟩⟩ := VRs.inv2 hv
    split at e
    · rename_i h
      cases e
      obtain ⟨A2, h6, o, st⟩ := new_ow (sh := .lst) (vrs_strs (A := A) (lo := lo) (S := S) (Txt.split a b)) trivial (List.nil_sublist _) hn hb hl
      exact ⟨_, _, A2, _, if_pos h, h6, o, st⟩
    · cases e
  · cases e
def strsP : List P → Option (List Str)
  | [] => some []
  | .str z :: r => (strsP r).map (z :: ·)
  | _ :: _ => none
theorem strsP_ok {A : Nat → Prop} {lo : Nat} {S : Sto} : ∀ {xs : List P} {ds : List D} {n : List Nat} {v : List Str}, VRs A lo S xs ds n → strsP xs = some v → strsD ds = some v
  | [], ds, n, v, h, e => by
    obtain ⟨rfl, _⟩ := h
    exact e
  | x :: xs, ds, n, v, h, e => by
    obtain ⟨d, r, n1, n2, rfl, rfl, h1, h2⟩ := h
    cases x <;> first | exact nomatch (show none = some v from e) | skip
    rename_i z
    obtain ⟨rfl, _⟩ := h1
    obtain ⟨ys, h3, rfl⟩ := Option.map_eq_some_iff.mp (show (strsP xs).map (z :: ·) = some v from e)
    show (strsD r).map (z :: ·) = _
    rw [strsP_ok h2 h3]
    rfl
def joinP : List P → Option P
  | [.str a, y] => (match (seqP y).bind strsP with
    | some ys => if decide ((ys.map (·.length)).sum + ys.length * a.length ≤ 16777216) = true then some (.str (Txt.join a ys)) else none
    | none => none)
  | _ => none
theorem op_joinP : Op2 joinD joinP := opn_sc fun A lo S ps ds ns x hv e => by
  unfold joinP at e
  split at e
  · rename_i a y
    obtain ⟨d, e2, n1, n2, rfl, _, ⟨rfl, _⟩, h2⟩ := VRs.inv2 hv
    split at e
    · rename_i ys h
      split at e
      · rename_i hz
        cases e
        cases q : seqP y with
        | none => rw [q] at h; cases h
        | some xs =>
          rw [q] at h
          obtain ⟨es, ms, h3, h4, _⟩ := seq_vr h2 q
          refine ⟨.str (Txt.join a ys), ?_, fun A lo => ⟨rfl, rfl⟩⟩
          have z : (seqD e2 S).bind strsD = some ys := by rw [h3]; exact strsP_ok h4 h
          show joinD (.str a) e2 S = _
          unfold joinD
          rw [z]
          exact if_pos hz
      · cases e
    · cases e
  · cases e
def vSliS (a : VE) (lo hi : VEnv → Vr (Option Int)) : VE := fun ρ => (a ρ).bind fun x ρ1 => (lo ρ1).bind fun l ρ2 => (hi ρ2).bind fun h ρ3 => match x with
  | .str z => if z.length ≤ sizeLine then .ok (.str (cutS z l h)) ρ3 else .bad
  | _ => .bad
theorem sim_sliS {a : DE} {va : VE} {lo hi : Ev → Sto → Rs (Option Int)} {vl vh : VEnv → Vr (Option Int)} (ha : SimE a va) (hl : SimG VO lo vl) (hh : SimG VO hi vh) : SimE (sliS a lo hi) (vSliS va vl vh) := fun A l0 S ρ r T C =>
  sim_bind ha C fun A1 S1 ρ1 T1 p d ns C1 h1 nd1 _ =>
    PoE.held stP (hl A1 l0 S1 ρ1 r T1 C1) C1.rootsA h1 nd1 C1.lo fun A2 S2 ρ2 T2 l l' ms C2 h2 h3 nd2 _ => by
      obtain ⟨rfl, rfl⟩ := h2
      refine PoE.held stP (hh A2 l0 S2 ρ2 r T2 C2) C2.rootsA h3 nd2 C2.lo fun A3 S3 ρ3 T3 k k' ms C3 h4 h5 nd3 _ => ?_
      obtain ⟨rfl, rfl⟩ := h4
      cases p <;> first | trivial | skip
      rename_i z
      obtain ⟨rfl, rfl⟩ := h5
      dsimp only
      split
      · rename_i hz
        refine ⟨.str (cutS z l k), S3, A3, T3, [], ?_, C3.env, ⟨rfl, rfl⟩, Out.refl C3.nd C3.bd⟩
        show ((if z.length ≤ sizeLine then Rs.ok (D.str (cutS z l k)) S3 else .bad) : Rs D).nox = _
        rw [if_pos hz]
        rfl
      · trivial
def sgP (z : Str) : List P := z.cps.toList.map fun c => P.str ⟨#[c]⟩
theorem sg_vr {A : Nat → Prop} {lo : Nat} {S : Sto} {z : Str} : VRs A lo S (sgP z) (sgS z) [] := by
  have := vrs_strs (A := A) (lo := lo) (S := S) (z.cps.toList.map fun c => ⟨#[c]⟩)
  rw [List.map_map, List.map_map] at this
  exact this
def vWalkS (a : VE) : VI := fun ρ => (a ρ).bind fun p ρ1 => match p with
  | .str z => .ok (sgP z) ρ1
  | _ => .bad
theorem sim_walkS {a : DE} {va : VE} (ha : SimE a va) : SimI (walkS a) (vWalkS va) := fun A lo S ρ r T C =>
  sim_bind ha C fun A1 S1 ρ1 T1 p d ns C1 h1 nd1 _ => by
    cases p <;> first | trivial | skip
    rename_i z
    obtain ⟨rfl, rfl⟩ := h1
    exact ⟨(sgS z, fun _ => True), S1, A1, T1, [], rfl, C1.env, ⟨rfl, sg_vr, fun _ _ _ => trivial⟩, Out.refl C1.nd C1.bd⟩
def vgU (n : Nat) (h : VGs) : VG := fun p ρ => match lstP p with
  | some xs => if xs.length = n then h xs ρ else none
  | none => none
def VZ : Vl Str Str := fun _ _ _ a b ns => a = b ∧ ns = []
abbrev VJ := Str → VEnv → Vr Str
abbrev SimJ (j : DJ) (v : VJ) : Prop := ∀ acc, SimG VZ (j acc) (v acc)
def vjN : VJ := fun acc ρ => .ok acc ρ
def vjK (a : VE) (b : VJ) : VJ := fun acc ρ => (a ρ).bind fun x ρ1 => match x with
  | .str y => if (acc ++ y).length ≤ sizeLine then b (acc ++ y) ρ1 else .bad
  | _ => .bad
def vJo (j : VJ) : VE := fun ρ => (j Str.empty ρ).bind fun z ρ1 => .ok (.str z) ρ1
theorem sim_jN : SimJ jN vjN := fun acc A lo S ρ r T C => ⟨acc, S, A, T, [], rfl, C.env, ⟨rfl, rfl⟩, Out.refl C.nd C.bd⟩
theorem sim_jK {a : DE} {b : DJ} {va : VE} {vb : VJ} (ha : SimE a va) (hb : SimJ b vb) : SimJ (jK a b) (vjK va vb) := fun acc A lo S ρ r T C =>
  sim_bind ha C fun A1 S1 ρ1 T1 p d ns C1 h1 nd1 _ => by
    cases p <;> first | trivial | skip
    rename_i y
    obtain ⟨rfl, rfl⟩ := h1
    dsimp only
    split
    · exact hb _ A1 lo S1 ρ1 r T1 C1
    · trivial
theorem sim_Jo {j : DJ} {v : VJ} (h : SimJ j v) : SimE (joE j) (vJo v) := fun A lo S ρ r T C =>
  sim_bind (h _) C fun A1 S1 ρ1 T1 p d ns C1 h1 nd1 _ => by
    obtain ⟨rfl, rfl⟩ := h1
    exact ⟨_, S1, A1, T1, [], rfl, C1.env, ⟨rfl, rfl⟩, Out.refl C1.nd C1.bd⟩
noncomputable def b_common : DS := (sSq (sWh (tst (bin (neD) (dV 1) (dC (.int 0)))) (sPr 0 1 (dK (dV 1) (dK (bin modD (dV 0) (dV 1)) dN)))) (sRt (dV 0)))
noncomputable def f_common : List D → Sto → Rs D := fnD 2 2 b_common
noncomputable def w_common : VS := (vSq (vWh (vTst (vBor (vBi (neP) (vV 1) (vC (.int 0))))) (vPr 0 1 (vK (vV 1) (vK (vBor (vBi modP (vV 0) (vV 1))) vN)))) (vRt (vMv 0)))
noncomputable def g_common : List P → Vf := gnD 0 2 2 w_common
theorem sim_common : SimF 0 f_common g_common := sim_fn (by decide) (sim_sq (sim_wh (sim_tst (sim_bor (sim_bin op_neP (sim_var 1) sim_int))) (sim_pr 0 1 (by decide) (by decide) (sim_cons (sim_var 1) (sim_cons (sim_bor (sim_bin op_modP (sim_var 0) (sim_var 1))) sim_nil)))) (sim_rt (sim_mv 0)))
noncomputable def b_law_bag : DS := (sRt (dL (dK (dC (.int 0)) (dK (dC (.int 1234567891)) (dK (dC (.int 0)) (dK (dLc (walkD (sli (dV 0) dNoP (dP (dC (.int 63))))) (.nm 1) tYes0 (cal absD (dK (dV 1) dN)) [1]) dN))))))
noncomputable def f_law_bag : List D → Sto → Rs D := fnD 1 2 b_law_bag
noncomputable def w_law_bag : VS := (vRt (vL (vK (vC (.int 0)) (vK (vC (.int 1234567891)) (vK (vC (.int 0)) (vK (vBor (vLc (vWalk (vSli (vV 0) vNoP (vP (vC (.int 63))))) (.nm 1) vYes0 (vCal absP (vK (vV 1) vN)) [1])) vN))))))
noncomputable def g_law_bag : List P → Vf := gnD 0 1 2 w_law_bag
theorem sim_law_bag : SimF 0 f_law_bag g_law_bag := sim_fn (by decide) (sim_rt (sim_L (sim_cons sim_int (sim_cons sim_int (sim_cons sim_int (sim_cons (sim_bor (sim_lc (sim_walk (sim_sli (sim_var 0) sim_noP (sim_P sim_int))) sim_yes0 (sim_cal op_absP (sim_cons (sim_var 1) sim_nil)))) sim_nil))))))
noncomputable def b_law_take : DS := (sSq (sIf (tst (bin (eqD) (bin ixD (dV 0) (dC (.int 0))) (dC (.int 0)))) (sSq (sAs (dC (.int 12345)) (gV 4)) (sSq (sIf (tst (bin (ltD) (bin ixD (dV 0) (dC (.int 2))) (cal lenD (dK (bin ixD (dV 0) (dC (.int 3))) dN)))) (sSq (sAs (bin ixD (bin ixD (dV 0) (dC (.int 3))) (bin ixD (dV 0) (dC (.int 2)))) (gV 6)) (sSq (sAugI (dV 0) (dC (.int 2)) (dC (.int 1))) (sSq (sIf (tst (bin (geD) (dV 6) (dC (.int 1000000000000000000)))) (sAs (dV 6) (gS (dV 0) (dC (.int 0)))) sNx) (sAs (bin addD (bin modD (dV 6) (dC (.int 2147483647))) (dC (.int 1))) (gV 4))))) sNx) (sAs (bin modD (bin addD (bin mulD (bin ixD (dV 0) (dC (.int 1))) (dC (.int 48271))) (dV 4)) (dC (.int 2147483647))) (gS (dV 0) (dC (.int 1)))))) sNx) (sSq (sIf (tst (bin (gtD) (bin ixD (dV 0) (dC (.int 0))) (dC (.int 0)))) (sSq (sAs (bin modD (bin ixD (dV 0) (dC (.int 0))) (dV 1)) (gV 5)) (sSq (sAs (bin divD (bin ixD (dV 0) (dC (.int 0))) (dV 1)) (gS (dV 0) (dC (.int 0)))) (sRt (dV 5)))) sNx) (sSq (sAs (bin modD (bin mulD (bin ixD (dV 0) (dC (.int 1))) (dC (.int 39373))) (dC (.int 1000000007))) (gV 2)) (sSq (sAs (bin modD (bin mulD (dV 2) (dC (.int 30011))) (dC (.int 998244353))) (gV 3)) (sSq (sIf (tst (bin (gtD) (dV 1) (dC (.int 1000000)))) (sRt (bin modD (bin addD (bin mulD (dV 3) (dC (.int 1000000000))) (dV 2)) (dV 1))) sNx) (sRt (bin modD (bin divD (dV 3) (dC (.int 3))) (dV 1))))))))
noncomputable def f_law_take : List D → Sto → Rs D := fnD 2 7 b_law_take
noncomputable def w_law_take : VS := (vSq (vIf (vTst (vBor (vBi (eqP) (vBi ixP (vV 0) (vC (.int 0))) (vC (.int 0))))) (vSq (vAs (vC (.int 12345)) (vgV 4)) (vSq (vIf (vTst (vBor (vBi (ltP) (vBi ixP (vV 0) (vC (.int 2))) (vCal lenP (vK (vBi ixP (vV 0) (vC (.int 3))) vN))))) (vSq (vAs (vBor (vBi ixP (vBi ixP (vV 0) (vC (.int 3))) (vBi ixP (vV 0) (vC (.int 2))))) (vgV 6)) (vSq (vAugI 0 (vBor (vC (.int 2))) (vBor (vC (.int 1)))) (vSq (vIf (vTst (vBor (vBi (geP) (vV 6) (vC (.int 1000000000000000000))))) (vSet 0 pa0 (vBor (vC (.int 0))) (vV 6)) vNx) (vAs (vBor (vBi addP (vBi modP (vV 6) (vC (.int 2147483647))) (vC (.int 1)))) (vgV 4))))) vNx) (vSet 0 pa0 (vBor (vC (.int 1))) (vBor (vBi modP (vBi addP (vBi mulP (vBi ixP (vV 0) (vC (.int 1))) (vC (.int 48271))) (vV 4)) (vC (.int 2147483647))))))) vNx) (vSq (vIf (vTst (vBor (vBi (gtP) (vBi ixP (vV 0) (vC (.int 0))) (vC (.int 0))))) (vSq (vAs (vBor (vBi modP (vBi ixP (vV 0) (vC (.int 0))) (vV 1))) (vgV 5)) (vSq (vSet 0 pa0 (vBor (vC (.int 0))) (vBor (vBi divP (vBi ixP (vV 0) (vC (.int 0))) (vV 1)))) (vRt (vMv 5)))) vNx) (vSq (vAs (vBor (vBi modP (vBi mulP (vBi ixP (vV 0) (vC (.int 1))) (vC (.int 39373))) (vC (.int 1000000007)))) (vgV 2)) (vSq (vAs (vBor (vBi modP (vBi mulP (vV 2) (vC (.int 30011))) (vC (.int 998244353)))) (vgV 3)) (vSq (vIf (vTst (vBor (vBi (gtP) (vV 1) (vC (.int 1000000))))) (vRt (vBor (vBi modP (vBi addP (vBi mulP (vV 3) (vC (.int 1000000000))) (vV 2)) (vV 1)))) vNx) (vRt (vBor (vBi modP (vBi divP (vV 3) (vC (.int 3))) (vV 1)))))))))
noncomputable def g_law_take : List P → Vf := gnD 1 2 7 w_law_take
theorem sim_law_take : SimF 1 f_law_take g_law_take := sim_fn (by decide) (sim_sq (sim_if (sim_tst (sim_bor (sim_bin op_eqP (sim_bin op_ixP (sim_var 0) sim_int) sim_int))) (sim_sq (sim_as sim_int (sim_gV 4 (by decide))) (sim_sq (sim_if (sim_tst (sim_bor (sim_bin op_ltP (sim_bin op_ixP (sim_var 0) sim_int) (sim_cal op_lenP (sim_cons (sim_bin op_ixP (sim_var 0) sim_int) sim_nil))))) (sim_sq (sim_as (sim_bor (sim_bin op_ixP (sim_bin op_ixP (sim_var 0) sim_int) (sim_bin op_ixP (sim_var 0) sim_int))) (sim_gV 6 (by decide))) (sim_sq (sim_augI 0 (sim_borP sim_int) (sim_borP sim_int)) (sim_sq (sim_if (sim_tst (sim_bor (sim_bin op_geP (sim_var 6) sim_int))) (sim_set (sim_pa0 0) (sim_borP sim_int) (sim_var 6)) sim_nx) (sim_as (sim_bor (sim_bin op_addP (sim_bin op_modP (sim_var 6) sim_int) sim_int)) (sim_gV 4 (by decide)))))) sim_nx) (sim_set (sim_pa0 0) (sim_borP sim_int) (sim_bor (sim_bin op_modP (sim_bin op_addP (sim_bin op_mulP (sim_bin op_ixP (sim_var 0) sim_int) sim_int) (sim_var 4)) sim_int))))) sim_nx) (sim_sq (sim_if (sim_tst (sim_bor (sim_bin op_gtP (sim_bin op_ixP (sim_var 0) sim_int) sim_int))) (sim_sq (sim_as (sim_bor (sim_bin op_modP (sim_bin op_ixP (sim_var 0) sim_int) (sim_var 1))) (sim_gV 5 (by decide))) (sim_sq (sim_set (sim_pa0 0) (sim_borP sim_int) (sim_bor (sim_bin op_divP (sim_bin op_ixP (sim_var 0) sim_int) (sim_var 1)))) (sim_rt (sim_mv 5)))) sim_nx) (sim_sq (sim_as (sim_bor (sim_bin op_modP (sim_bin op_mulP (sim_bin op_ixP (sim_var 0) sim_int) sim_int) sim_int)) (sim_gV 2 (by decide))) (sim_sq (sim_as (sim_bor (sim_bin op_modP (sim_bin op_mulP (sim_var 2) sim_int) sim_int)) (sim_gV 3 (by decide))) (sim_sq (sim_if (sim_tst (sim_bor (sim_bin op_gtP (sim_var 1) sim_int))) (sim_rt (sim_bor (sim_bin op_modP (sim_bin op_addP (sim_bin op_mulP (sim_var 3) sim_int) (sim_var 2)) (sim_var 1)))) sim_nx) (sim_rt (sim_bor (sim_bin op_modP (sim_bin op_divP (sim_var 3) sim_int) (sim_var 1)))))))))
noncomputable def b_law_low : DS := (sSq (sAs (cal absD (dK (dV 0) dN)) (gV 2)) (sSq (sAs (dV 1) (gV 3)) (sSq (sWh (tst (bin (neD) (dV 2) (dC (.int 0)))) (sPr 2 3 (dK (bin modD (dV 3) (dV 2)) (dK (dV 2) dN)))) (sRt (dT (dK (bin divD (dV 0) (dV 3)) (dK (bin divD (dV 1) (dV 3)) dN)))))))
noncomputable def f_law_low : List D → Sto → Rs D := fnD 2 4 b_law_low
noncomputable def w_law_low : VS := (vSq (vAs (vBor (vCal absP (vK (vV 0) vN))) (vgV 2)) (vSq (vAs (vV 1) (vgV 3)) (vSq (vWh (vTst (vBor (vBi (neP) (vV 2) (vC (.int 0))))) (vPr 2 3 (vK (vBor (vBi modP (vV 3) (vV 2))) (vK (vV 2) vN)))) (vRt (vT (vK (vBor (vBi divP (vV 0) (vV 3))) (vK (vBor (vBi divP (vV 1) (vV 3))) vN)))))))
noncomputable def g_law_low : List P → Vf := gnD 0 2 4 w_law_low
theorem sim_law_low : SimF 0 f_law_low g_law_low := sim_fn (by decide) (sim_sq (sim_as (sim_bor (sim_cal op_absP (sim_cons (sim_var 0) sim_nil))) (sim_gV 2 (by decide))) (sim_sq (sim_as (sim_var 1) (sim_gV 3 (by decide))) (sim_sq (sim_wh (sim_tst (sim_bor (sim_bin op_neP (sim_var 2) sim_int))) (sim_pr 2 3 (by decide) (by decide) (sim_cons (sim_bor (sim_bin op_modP (sim_var 3) (sim_var 2))) (sim_cons (sim_var 2) sim_nil)))) (sim_rt (sim_T (sim_cons (sim_bor (sim_bin op_divP (sim_var 0) (sim_var 3))) (sim_cons (sim_bor (sim_bin op_divP (sim_var 1) (sim_var 3))) sim_nil)))))))
noncomputable def b_law_is_number : DS := (sSq (sIf (orB (notB (tru (una (isiD "tuple") (dV 0)))) (tst (bin (neD) (cal lenD (dK (dV 0) dN)) (dC (.int 2))))) (sRt (dC (.bl false))) sNx) (sSq (sFr (walkD (dV 0)) (gV 1) (sIf (orB (notB (tru (una (isiD "int") (dV 1)))) (tru (una (isiD "bool") (dV 1)))) (sRt (dC (.bl false))) sNx)) (sRt (andD (bin (gtD) (bin ixD (dV 0) (dC (.int 1))) (dC (.int 0))) (bin (eqD) (cll f_law_low (dK (bin ixD (dV 0) (dC (.int 0))) (dK (bin ixD (dV 0) (dC (.int 1))) dN))) (dV 0))))))
noncomputable def f_law_is_number : List D → Sto → Rs D := fnD 1 2 b_law_is_number
noncomputable def w_law_is_number : VS := (vSq (vIf (vOrB (vNotB (vTru (vBor (vUn (isiP "tuple") (vV 0))))) (vTst (vBor (vBi (neP) (vCal lenP (vK (vV 0) vN)) (vC (.int 2)))))) (vRt (vC (.bl false))) vNx) (vSq (vFr (vWalk (vV 0)) (vgV 1) (vIf (vOrB (vNotB (vTru (vBor (vUn (isiP "int") (vV 1))))) (vTru (vBor (vUn (isiP "bool") (vV 1))))) (vRt (vC (.bl false))) vNx)) (vRt (vBor (vAndD (vBi (gtP) (vBi ixP (vV 0) (vC (.int 1))) (vC (.int 0))) (vBi (eqP) (vCll0 g_law_low (vK (vBi ixP (vV 0) (vC (.int 0))) (vK (vBi ixP (vV 0) (vC (.int 1))) vN))) (vV 0)))))))
noncomputable def g_law_is_number : List P → Vf := gnD 0 1 2 w_law_is_number
theorem sim_law_is_number : SimF 0 f_law_is_number g_law_is_number := sim_fn (by decide) (sim_sq (sim_if (sim_orB (sim_notB (sim_tru (sim_bor (sim_una op_isiP (sim_var 0))))) (sim_tst (sim_bor (sim_bin op_neP (sim_cal op_lenP (sim_cons (sim_var 0) sim_nil)) sim_int)))) (sim_rt sim_bl) sim_nx) (sim_sq (sim_fr (sim_walk (sim_var 0)) (sim_gV 1 (by decide)) (sim_if (sim_orB (sim_notB (sim_tru (sim_bor (sim_una op_isiP (sim_var 1))))) (sim_tru (sim_bor (sim_una op_isiP (sim_var 1))))) (sim_rt sim_bl) sim_nx)) (sim_rt (sim_bor (sim_andD (sim_bin op_gtP (sim_bin op_ixP (sim_var 0) sim_int) sim_int) (sim_bin op_eqP (sim_cll0 sim_law_low (sim_cons (sim_bin op_ixP (sim_var 0) sim_int) (sim_cons (sim_bin op_ixP (sim_var 0) sim_int) sim_nil))) (sim_var 0)))))))
noncomputable def b_law_is_row : DS := (sSq (sIf (orB (notB (tru (una (isiD "list") (dV 0)))) (tst (bin (neD) (cal lenD (dK (dV 0) dN)) (dV 1)))) (sRt (dC (.bl false))) sNx) (sRt (cal allD (dK (dLc (walkD (dV 0)) (.nm 2) tYes0 (cll f_law_is_number (dK (dV 2) dN)) [2]) dN))))
noncomputable def f_law_is_row : List D → Sto → Rs D := fnD 2 3 b_law_is_row
noncomputable def w_law_is_row : VS := (vSq (vIf (vOrB (vNotB (vTru (vBor (vUn (isiP "list") (vV 0))))) (vTst (vBor (vBi (neP) (vCal lenP (vK (vV 0) vN)) (vV 1))))) (vRt (vC (.bl false))) vNx) (vRt (vBor (vCal allP (vK (vLc (vWalk (vV 0)) (.nm 2) vYes0 (vCll0 g_law_is_number (vK (vV 2) vN)) [2]) vN)))))
noncomputable def g_law_is_row : List P → Vf := gnD 0 2 3 w_law_is_row
theorem sim_law_is_row : SimF 0 f_law_is_row g_law_is_row := sim_fn (by decide) (sim_sq (sim_if (sim_orB (sim_notB (sim_tru (sim_bor (sim_una op_isiP (sim_var 0))))) (sim_tst (sim_bor (sim_bin op_neP (sim_cal op_lenP (sim_cons (sim_var 0) sim_nil)) (sim_var 1))))) (sim_rt sim_bl) sim_nx) (sim_rt (sim_bor (sim_cal op_allP (sim_cons (sim_lc (sim_walk (sim_var 0)) sim_yes0 (sim_cll0 sim_law_is_number (sim_cons (sim_var 2) sim_nil))) sim_nil)))))
noncomputable def b_law_number : DS := (sSq (sAs (cll f_law_take (dK (dV 0) (dK (dC (.int 8)) dN))) (gV 2)) (sSq (sIf (tst (bin (ltD) (dV 2) (dC (.int 2)))) (sRt (dT (dK (dC (.int 0)) (dK (dC (.int 1)) dN)))) sNx) (sSq (sIf (tst (bin (ltD) (dV 2) (dC (.int 6)))) (sRt (dT (dK (bin subD (cll f_law_take (dK (dV 0) (dK (dC (.int 7)) dN))) (dC (.int 3))) (dK (dC (.int 1)) dN)))) sNx) (sSq (sIf (tst (bin (eqD) (dV 2) (dC (.int 6)))) (sRt (cll f_law_low (dK (bin subD (cll f_law_take (dK (dV 0) (dK (dC (.int 13)) dN))) (dC (.int 6))) (dK (bin addD (dC (.int 1)) (cll f_law_take (dK (dV 0) (dK (dC (.int 6)) dN)))) dN)))) sNx) (sRt (cll f_law_low (dK (bin subD (cll f_law_take (dK (dV 0) (dK (bin addD (bin mulD (dC (.int 2)) (dV 1)) (dC (.int 1))) dN))) (dV 1)) (dK (bin addD (dC (.int 1)) (cll f_law_take (dK (dV 0) (dK (dV 1) dN)))) dN))))))))
noncomputable def f_law_number : List D → Sto → Rs D := fnD 2 3 b_law_number
noncomputable def w_law_number : VS := (vSq (vAs (vBor1 0 (vCll1 g_law_take 0 (vK (vC (.int 8)) vN))) (vgV 2)) (vSq (vIf (vTst (vBor (vBi (ltP) (vV 2) (vC (.int 2))))) (vRt (vT (vK (vC (.int 0)) (vK (vC (.int 1)) vN)))) vNx) (vSq (vIf (vTst (vBor (vBi (ltP) (vV 2) (vC (.int 6))))) (vRt (vT (vK (vBor1 0 (vBi subP (vCll1 g_law_take 0 (vK (vC (.int 7)) vN)) (vC (.int 3)))) (vK (vC (.int 1)) vN)))) vNx) (vSq (vIf (vTst (vBor (vBi (eqP) (vV 2) (vC (.int 6))))) (vRt (vBor1 0 (vCll0 g_law_low (vK (vBi subP (vCll1 g_law_take 0 (vK (vC (.int 13)) vN)) (vC (.int 6))) (vK (vBi addP (vC (.int 1)) (vCll1 g_law_take 0 (vK (vC (.int 6)) vN))) vN))))) vNx) (vRt (vBor1 0 (vCll0 g_law_low (vK (vBi subP (vCll1 g_law_take 0 (vK (vBi addP (vBi mulP (vC (.int 2)) (vV 1)) (vC (.int 1))) vN)) (vV 1)) (vK (vBi addP (vC (.int 1)) (vCll1 g_law_take 0 (vK (vV 1) vN))) vN)))))))))
noncomputable def g_law_number : List P → Vf := gnD 1 2 3 w_law_number
theorem sim_law_number : SimF 1 f_law_number g_law_number := sim_fn (by decide) (sim_sq (sim_as (sim_bor1 0 (sim_cll1 0 sim_law_take (sim_cons sim_int sim_nil))) (sim_gV 2 (by decide))) (sim_sq (sim_if (sim_tst (sim_bor (sim_bin op_ltP (sim_var 2) sim_int))) (sim_rt (sim_T (sim_cons sim_int (sim_cons sim_int sim_nil)))) sim_nx) (sim_sq (sim_if (sim_tst (sim_bor (sim_bin op_ltP (sim_var 2) sim_int))) (sim_rt (sim_T (sim_cons (sim_bor1 0 (sim_bin op_subP (sim_cll1 0 sim_law_take (sim_cons sim_int sim_nil)) sim_int)) (sim_cons sim_int sim_nil)))) sim_nx) (sim_sq (sim_if (sim_tst (sim_bor (sim_bin op_eqP (sim_var 2) sim_int))) (sim_rt (sim_bor1 0 (sim_cll0 sim_law_low (sim_cons (sim_bin op_subP (sim_cll1 0 sim_law_take (sim_cons sim_int sim_nil)) sim_int) (sim_cons (sim_bin op_addP sim_int (sim_cll1 0 sim_law_take (sim_cons sim_int sim_nil))) sim_nil))))) sim_nx) (sim_rt (sim_bor1 0 (sim_cll0 sim_law_low (sim_cons (sim_bin op_subP (sim_cll1 0 sim_law_take (sim_cons (sim_bin op_addP (sim_bin op_mulP sim_int (sim_var 1)) sim_int) sim_nil)) (sim_var 1)) (sim_cons (sim_bin op_addP sim_int (sim_cll1 0 sim_law_take (sim_cons (sim_var 1) sim_nil))) sim_nil)))))))))
noncomputable def b_is_whole : DS := (sRt (andD (una (isiD "int") (dV 0)) (notD (una (isiD "bool") (dV 0)))))
noncomputable def f_is_whole : List D → Sto → Rs D := fnD 1 1 b_is_whole
noncomputable def w_is_whole : VS := (vRt (vBor (vAndD (vUn (isiP "int") (vV 0)) (vNotD (vUn (isiP "bool") (vV 0))))))
noncomputable def g_is_whole : List P → Vf := gnD 0 1 1 w_is_whole
theorem sim_is_whole : SimF 0 f_is_whole g_is_whole := sim_fn (by decide) (sim_rt (sim_bor (sim_andD (sim_una op_isiP (sim_var 0)) (sim_notD (sim_una op_isiP (sim_var 0))))))
noncomputable def b_is_number : DS := (sSq (sIf (orB (notB (tru (una (isiD "tuple") (dV 0)))) (tst (bin (neD) (cal lenD (dK (dV 0) dN)) (dC (.int 2))))) (sRt (dC (.bl false))) sNx) (sSq (sAs (dV 0) (gT 2 (gC (gV 1) (gC (gV 2) gN)))) (sSq (sIf (orB (notB (tru (cll f_is_whole (dK (dV 1) dN)))) (orB (notB (tru (cll f_is_whole (dK (dV 2) dN)))) (tst (bin (ltD) (dV 2) (dC (.int 1)))))) (sRt (dC (.bl false))) sNx) (sRt (bin (eqD) (cll f_common (dK (dV 2) (dK (cal absD (dK (dV 1) dN)) dN))) (dC (.int 1)))))))
noncomputable def f_is_number : List D → Sto → Rs D := fnD 1 3 b_is_number
noncomputable def w_is_number : VS := (vSq (vIf (vOrB (vNotB (vTru (vBor (vUn (isiP "tuple") (vV 0))))) (vTst (vBor (vBi (neP) (vCal lenP (vK (vV 0) vN)) (vC (.int 2)))))) (vRt (vC (.bl false))) vNx) (vSq (vAs (vV 0) (vgT 2 (vgC (vgV 1) (vgC (vgV 2) vgN)))) (vSq (vIf (vOrB (vNotB (vTru (vBor (vCll0 g_is_whole (vK (vV 1) vN))))) (vOrB (vNotB (vTru (vBor (vCll0 g_is_whole (vK (vV 2) vN))))) (vTst (vBor (vBi (ltP) (vV 2) (vC (.int 1))))))) (vRt (vC (.bl false))) vNx) (vRt (vBor (vBi (eqP) (vCll0 g_common (vK (vV 2) (vK (vCal absP (vK (vV 1) vN)) vN))) (vC (.int 1))))))))
noncomputable def g_is_number : List P → Vf := gnD 0 1 3 w_is_number
theorem sim_is_number : SimF 0 f_is_number g_is_number := sim_fn (by decide) (sim_sq (sim_if (sim_orB (sim_notB (sim_tru (sim_bor (sim_una op_isiP (sim_var 0))))) (sim_tst (sim_bor (sim_bin op_neP (sim_cal op_lenP (sim_cons (sim_var 0) sim_nil)) sim_int)))) (sim_rt sim_bl) sim_nx) (sim_sq (sim_as (sim_var 0) (sim_gT (sim_gC (sim_gV 1 (by decide)) (sim_gC (sim_gV 2 (by decide)) sim_gN)))) (sim_sq (sim_if (sim_orB (sim_notB (sim_tru (sim_bor (sim_cll0 sim_is_whole (sim_cons (sim_var 1) sim_nil))))) (sim_orB (sim_notB (sim_tru (sim_bor (sim_cll0 sim_is_whole (sim_cons (sim_var 2) sim_nil))))) (sim_tst (sim_bor (sim_bin op_ltP (sim_var 2) sim_int))))) (sim_rt sim_bl) sim_nx) (sim_rt (sim_bor (sim_bin op_eqP (sim_cll0 sim_common (sim_cons (sim_var 2) (sim_cons (sim_cal op_absP (sim_cons (sim_var 1) sim_nil)) sim_nil))) sim_int))))))
noncomputable def w_is_row_f1 : VS := (vIf (vNotB (vTru (vBor (vCll0 g_is_number (vK (vV 2) vN))))) (vRt (vC (.bl false))) vNx)
noncomputable def w_is_row : VS := (vSq (vIf (vOrB (vNotB (vTru (vBor (vUn (isiP "list") (vV 0))))) (vTst (vBor (vBi (neP) (vCal lenP (vK (vV 0) vN)) (vV 1))))) (vRt (vC (.bl false))) vNx) (vSq (vFr (vWalk (vV 0)) (vgV 2) w_is_row_f1) (vRt (vC (.bl true)))))
noncomputable def g_is_row : List P → Vf := gnD 0 2 3 w_is_row
noncomputable def w_law_told : VS := (vSq (vAs (vBor (vCll0 g_is_row (vK (vV 0) (vK (vV 1) vN)))) (vgV 2)) (vRt (vBor (vAndD (vUn (isiP "bool") (vV 2)) (vBi (eqP) (vV 2) (vCll0 g_law_is_row (vK (vV 0) (vK (vV 1) vN))))))))
noncomputable def g_law_told : List P → Vf := gnD 0 2 3 w_law_told
noncomputable def b_show_number : DS := (sSq (sIf (tst (bin (eqD) (bin ixD (dV 0) (dC (.int 1))) (dC (.int 1)))) (sRt (cal strD (dK (bin ixD (dV 0) (dC (.int 0))) dN))) sNx) (sRt (joE (jK (una fmtD (bin ixD (dV 0) (dC (.int 0)))) (jK (dC (.str "/")) (jK (una fmtD (bin ixD (dV 0) (dC (.int 1)))) jN))))))
noncomputable def f_show_number : List D → Sto → Rs D := fnD 1 1 b_show_number
noncomputable def w_show_number : VS := (vSq (vIf (vTst (vBor (vBi (eqP) (vBi ixP (vV 0) (vC (.int 1))) (vC (.int 1))))) (vRt (vBor (vCal strP (vK (vBi ixP (vV 0) (vC (.int 0))) vN)))) vNx) (vRt (vBor (vJo (vjK (vUn fmtP (vBi ixP (vV 0) (vC (.int 0)))) (vjK (vC (.str "/")) (vjK (vUn fmtP (vBi ixP (vV 0) (vC (.int 1)))) vjN)))))))
noncomputable def g_show_number : List P → Vf := gnD 0 1 1 w_show_number
theorem sim_show_number : SimF 0 f_show_number g_show_number := sim_fn (by decide) (sim_sq (sim_if (sim_tst (sim_bor (sim_bin op_eqP (sim_bin op_ixP (sim_var 0) sim_int) sim_int))) (sim_rt (sim_bor (sim_cal op_strP (sim_cons (sim_bin op_ixP (sim_var 0) sim_int) sim_nil)))) sim_nx) (sim_rt (sim_bor (sim_Jo (sim_jK (sim_una op_fmtP (sim_bin op_ixP (sim_var 0) sim_int)) (sim_jK sim_str (sim_jK (sim_una op_fmtP (sim_bin op_ixP (sim_var 0) sim_int)) sim_jN)))))))
noncomputable def b_show_row : DS := (sRt (smet1 joinD (dC (.str " ")) (dLc (walkD (dV 0)) (.nm 1) tYes0 (cll f_show_number (dK (dV 1) dN)) [1])))
noncomputable def f_show_row : List D → Sto → Rs D := fnD 1 2 b_show_row
noncomputable def w_show_row_e1 : VE := (vCll0 g_show_number (vK (vV 1) vN))
noncomputable def w_show_row : VS := (vRt (vBor (vSme joinP (vC (.str " ")) (vLc (vWalk (vV 0)) (.nm 1) vYes0 w_show_row_e1 [1]))))
noncomputable def g_show_row : List P → Vf := gnD 0 1 2 w_show_row
theorem sim_show_row : SimF 0 f_show_row g_show_row := sim_fn (by decide) (sim_rt (sim_bor (sim_sme op_joinP sim_str (sim_lc (sim_walk (sim_var 0)) sim_yes0 (sim_cll0 sim_show_number (sim_cons (sim_var 1) sim_nil))))))
noncomputable def b_figures_of : DS := (sSq (sIf (orB (notB (chnD (fun i j => decide (i ≤ j)) (fun i j => decide (i ≤ j)) (dC (.int 1)) (cal lenD (dK (dV 0) dN)) (dC (.int 1000)))) (andB (tst (bin (eqD) (bin ixD (dV 0) (dC (.int 0))) (dC (.str "0")))) (tst (bin (gtD) (cal lenD (dK (dV 0) dN)) (dC (.int 1)))))) sBad sNx) (sSq (sFr (walkS (dV 0)) (gV 1) (sIf (tst (bin (inSD true) (dV 1) (dC (.str "0123456789")))) sBad sNx)) (sRt (cal intTD (dK (dV 0) dN)))))
noncomputable def f_figures_of : List D → Sto → Rs D := fnD 1 2 b_figures_of
noncomputable def w_figures_of_f1 : VS := (vIf (vTst (vBor (vBi (inSP true) (vV 1) (vC (.str "0123456789"))))) vBad vNx)
noncomputable def w_figures_of : VS := (vSq (vIf (vOrB (vNotB (vChn (fun i j => decide (i ≤ j)) (fun i j => decide (i ≤ j)) (vC (.int 1)) (vBor (vCal lenP (vK (vV 0) vN))) (vC (.int 1000)))) (vAndB (vTst (vBor (vBi (eqP) (vBi ixP (vV 0) (vC (.int 0))) (vC (.str "0"))))) (vTst (vBor (vBi (gtP) (vCal lenP (vK (vV 0) vN)) (vC (.int 1))))))) vBad vNx) (vSq (vFr (vWalkS (vV 0)) (vgV 1) w_figures_of_f1) (vRt (vBor (vCal intTP (vK (vV 0) vN))))))
noncomputable def g_figures_of : List P → Vf := gnD 0 1 2 w_figures_of
theorem sim_figures_of : SimF 0 f_figures_of g_figures_of := sim_fn (by decide) (sim_sq (sim_if (sim_orB (sim_notB (sim_chn sim_int (sim_bor (sim_cal op_lenP (sim_cons (sim_var 0) sim_nil))) sim_int)) (sim_andB (sim_tst (sim_bor (sim_bin op_eqP (sim_bin op_ixP (sim_var 0) sim_int) sim_str))) (sim_tst (sim_bor (sim_bin op_gtP (sim_cal op_lenP (sim_cons (sim_var 0) sim_nil)) sim_int))))) sim_bad sim_nx) (sim_sq (sim_fr (sim_walkS (sim_var 0)) (sim_gV 1 (by decide)) (sim_if (sim_tst (sim_bor (sim_bin op_inSP (sim_var 1) sim_str))) sim_bad sim_nx)) (sim_rt (sim_bor (sim_cal op_intTP (sim_cons (sim_var 0) sim_nil))))))
noncomputable def b_read_number : DS := (sSq (sIf (notB (tru (una (isiD "str") (dV 0)))) sBad sNx) (sSq (sAs (smet1 partD (dV 0) (dC (.str "/"))) (gT 3 (gC (gV 2) (gC (gV 3) (gC (gV 4) gN))))) (sSq (sAs (dC (.int 1)) (gV 1)) (sSq (sIf (tst (bin (eqD) (dV 3) (dC (.str "/")))) (sAs (cll f_figures_of (dK (dV 4) dN)) (gV 1)) sNx) (sSq (sIf (tst (bin (eqD) (sliS (dV 2) dNoP (dP (dC (.int 1)))) (dC (.str "-")))) (sAs (dT (dK (una negD (cll f_figures_of (dK (sliS (dV 2) (dP (dC (.int 1))) dNoP) dN))) (dK (dV 1) dN))) (gV 5)) (sAs (dT (dK (cll f_figures_of (dK (dV 2) dN)) (dK (dV 1) dN))) (gV 5))) (sSq (sIf (orB (notB (tru (cll f_is_number (dK (dV 5) dN)))) (tst (bin (neD) (cll f_show_number (dK (dV 5) dN)) (dV 0)))) sBad sNx) (sRt (dV 5))))))))
noncomputable def f_read_number : List D → Sto → Rs D := fnD 1 6 b_read_number
noncomputable def w_read_number : VS := (vSq (vIf (vNotB (vTru (vBor (vUn (isiP "str") (vV 0))))) vBad vNx) (vSq (vAs (vBor (vSme partP (vV 0) (vC (.str "/")))) (vgT 3 (vgC (vgV 2) (vgC (vgV 3) (vgC (vgV 4) vgN))))) (vSq (vAs (vC (.int 1)) (vgV 1)) (vSq (vIf (vTst (vBor (vBi (eqP) (vV 3) (vC (.str "/"))))) (vAs (vBor (vCll0 g_figures_of (vK (vV 4) vN))) (vgV 1)) vNx) (vSq (vIf (vTst (vBor (vBi (eqP) (vSliS (vV 2) vNoP (vP (vC (.int 1)))) (vC (.str "-"))))) (vAs (vT (vK (vBor (vUn negP (vCll0 g_figures_of (vK (vSliS (vV 2) (vP (vC (.int 1))) vNoP) vN)))) (vK (vV 1) vN))) (vgV 5)) (vAs (vT (vK (vBor (vCll0 g_figures_of (vK (vV 2) vN))) (vK (vV 1) vN))) (vgV 5))) (vSq (vIf (vOrB (vNotB (vTru (vBor (vCll0 g_is_number (vK (vV 5) vN))))) (vTst (vBor (vBi (neP) (vCll0 g_show_number (vK (vV 5) vN)) (vV 0))))) vBad vNx) (vRt (vMv 5))))))))
noncomputable def g_read_number : List P → Vf := gnD 0 1 6 w_read_number
theorem sim_read_number : SimF 0 f_read_number g_read_number := sim_fn (by decide) (sim_sq (sim_if (sim_notB (sim_tru (sim_bor (sim_una op_isiP (sim_var 0))))) sim_bad sim_nx) (sim_sq (sim_as (sim_bor (sim_sme op_partP (sim_var 0) sim_str)) (sim_gT (sim_gC (sim_gV 2 (by decide)) (sim_gC (sim_gV 3 (by decide)) (sim_gC (sim_gV 4 (by decide)) sim_gN))))) (sim_sq (sim_as sim_int (sim_gV 1 (by decide))) (sim_sq (sim_if (sim_tst (sim_bor (sim_bin op_eqP (sim_var 3) sim_str))) (sim_as (sim_bor (sim_cll0 sim_figures_of (sim_cons (sim_var 4) sim_nil))) (sim_gV 1 (by decide))) sim_nx) (sim_sq (sim_if (sim_tst (sim_bor (sim_bin op_eqP (sim_sliS (sim_var 2) sim_noP (sim_P sim_int)) sim_str))) (sim_as (sim_T (sim_cons (sim_bor (sim_una op_negP (sim_cll0 sim_figures_of (sim_cons (sim_sliS (sim_var 2) (sim_P sim_int) sim_noP) sim_nil)))) (sim_cons (sim_var 1) sim_nil))) (sim_gV 5 (by decide))) (sim_as (sim_T (sim_cons (sim_bor (sim_cll0 sim_figures_of (sim_cons (sim_var 2) sim_nil))) (sim_cons (sim_var 1) sim_nil))) (sim_gV 5 (by decide)))) (sim_sq (sim_if (sim_orB (sim_notB (sim_tru (sim_bor (sim_cll0 sim_is_number (sim_cons (sim_var 5) sim_nil))))) (sim_tst (sim_bor (sim_bin op_neP (sim_cll0 sim_show_number (sim_cons (sim_var 5) sim_nil)) (sim_var 0))))) sim_bad sim_nx) (sim_rt (sim_mv 5))))))))
noncomputable def b_read_row : DS := (sSq (sIf (notB (tru (una (isiD "str") (dV 0)))) sBad sNx) (sSq (sIf (tst (bin (eqD) (dV 0) (dC (.str "")))) (sRt (dL dN)) sNx) (sRt (dLc (walkD (smet1 splD (dV 0) (dC (.str " ")))) (.nm 1) tYes0 (cll f_read_number (dK (dV 1) dN)) [1]))))
noncomputable def f_read_row : List D → Sto → Rs D := fnD 1 2 b_read_row
noncomputable def w_read_row_e1 : VE := (vCll0 g_read_number (vK (vV 1) vN))
noncomputable def w_read_row : VS := (vSq (vIf (vNotB (vTru (vBor (vUn (isiP "str") (vV 0))))) vBad vNx) (vSq (vIf (vTst (vBor (vBi (eqP) (vV 0) (vC (.str ""))))) (vRt (vL vN)) vNx) (vRt (vBor (vLc (vWalk (vSme splP (vV 0) (vC (.str " ")))) (.nm 1) vYes0 w_read_row_e1 [1])))))
noncomputable def g_read_row : List P → Vf := gnD 0 1 2 w_read_row
theorem sim_read_row : SimF 0 f_read_row g_read_row := sim_fn (by decide) (sim_sq (sim_if (sim_notB (sim_tru (sim_bor (sim_una op_isiP (sim_var 0))))) sim_bad sim_nx) (sim_sq (sim_if (sim_tst (sim_bor (sim_bin op_eqP (sim_var 0) sim_str))) (sim_rt (sim_L sim_nil)) sim_nx) (sim_rt (sim_bor (sim_lc (sim_walk (sim_sme op_splP (sim_var 0) sim_str)) sim_yes0 (sim_cll0 sim_read_number (sim_cons (sim_var 1) sim_nil)))))))
noncomputable def b_law_number_text : DS := (sSq (sIf (tst (bin (eqD) (bin ixD (dV 0) (dC (.int 1))) (dC (.int 1)))) (sRt (cal strD (dK (bin ixD (dV 0) (dC (.int 0))) dN))) sNx) (sRt (bin addD (bin addD (cal strD (dK (bin ixD (dV 0) (dC (.int 0))) dN)) (dC (.str "/"))) (cal strD (dK (bin ixD (dV 0) (dC (.int 1))) dN)))))
noncomputable def f_law_number_text : List D → Sto → Rs D := fnD 1 1 b_law_number_text
noncomputable def w_law_number_text : VS := (vSq (vIf (vTst (vBor (vBi (eqP) (vBi ixP (vV 0) (vC (.int 1))) (vC (.int 1))))) (vRt (vBor (vCal strP (vK (vBi ixP (vV 0) (vC (.int 0))) vN)))) vNx) (vRt (vBor (vBi addP (vBi addP (vCal strP (vK (vBi ixP (vV 0) (vC (.int 0))) vN)) (vC (.str "/"))) (vCal strP (vK (vBi ixP (vV 0) (vC (.int 1))) vN))))))
noncomputable def g_law_number_text : List P → Vf := gnD 0 1 1 w_law_number_text
theorem sim_law_number_text : SimF 0 f_law_number_text g_law_number_text := sim_fn (by decide) (sim_sq (sim_if (sim_tst (sim_bor (sim_bin op_eqP (sim_bin op_ixP (sim_var 0) sim_int) sim_int))) (sim_rt (sim_bor (sim_cal op_strP (sim_cons (sim_bin op_ixP (sim_var 0) sim_int) sim_nil)))) sim_nx) (sim_rt (sim_bor (sim_bin op_addP (sim_bin op_addP (sim_cal op_strP (sim_cons (sim_bin op_ixP (sim_var 0) sim_int) sim_nil)) sim_str) (sim_cal op_strP (sim_cons (sim_bin op_ixP (sim_var 0) sim_int) sim_nil))))))
noncomputable def b_law_row_text : DS := (sRt (smet1 joinD (dC (.str " ")) (dLc (walkD (dV 0)) (.nm 1) tYes0 (cll f_law_number_text (dK (dV 1) dN)) [1])))
noncomputable def f_law_row_text : List D → Sto → Rs D := fnD 1 2 b_law_row_text
noncomputable def w_law_row_text_e1 : VE := (vCll0 g_law_number_text (vK (vV 1) vN))
noncomputable def w_law_row_text : VS := (vRt (vBor (vSme joinP (vC (.str " ")) (vLc (vWalk (vV 0)) (.nm 1) vYes0 w_law_row_text_e1 [1]))))
noncomputable def g_law_row_text : List P → Vf := gnD 0 1 2 w_law_row_text
theorem sim_law_row_text : SimF 0 f_law_row_text g_law_row_text := sim_fn (by decide) (sim_rt (sim_bor (sim_sme op_joinP sim_str (sim_lc (sim_walk (sim_var 0)) sim_yes0 (sim_cll0 sim_law_number_text (sim_cons (sim_var 1) sim_nil))))))
noncomputable def b_law_any_2 : DS := (sSq (sAs (cll f_law_take (dK (dV 0) (dK (dC (.int 4)) dN))) (gV 1)) (sSq (sIf (tst (bin (eqD) (dV 1) (dC (.int 0)))) (sRt (cll f_law_number (dK (dV 0) (dK (dC (.int 1000000)) dN)))) sNx) (sSq (sIf (tst (bin (eqD) (dV 1) (dC (.int 1)))) (sRt (cll f_law_number (dK (dV 0) (dK (dC (.int 9)) dN)))) sNx) (sSq (sAs (cal intTD (dK (bin addD (bin repSD (dC (.str "7")) (cll f_law_take (dK (dV 0) (dK (dC (.int 60)) dN)))) (cal strD (dK (cll f_law_take (dK (dV 0) (dK (dC (.int 1000)) dN))) dN))) dN)) (gV 2)) (sSq (sIf (tst (bin (eqD) (dV 1) (dC (.int 2)))) (sAs (cal intTD (dK (bin addD (bin repSD (dC (.str "9")) (cll f_law_take (dK (dV 0) (dK (dC (.int 1000)) dN)))) (dC (.str "1"))) dN)) (gV 2)) sNx) (sSq (sAs (cal intTD (dK (bin addD (bin addD (dC (.str "1")) (bin repSD (dC (.str "0")) (cll f_law_take (dK (dV 0) (dK (dC (.int 60)) dN))))) (cal strD (dK (cll f_law_take (dK (dV 0) (dK (dC (.int 1000)) dN))) dN))) dN)) (gV 3)) (sSq (sIf (tst (bin (eqD) (cll f_law_take (dK (dV 0) (dK (dC (.int 3)) dN))) (dC (.int 0)))) (sAs (cal intTD (dK (bin repSD (dC (.str "3")) (bin addD (dC (.int 1)) (cll f_law_take (dK (dV 0) (dK (dC (.int 1000)) dN))))) dN)) (gV 3)) sNx) (sRt (cll f_law_low (dK (bin ixD (dL (dK (dV 2) (dK (una negD (dV 2)) dN))) (cll f_law_take (dK (dV 0) (dK (dC (.int 2)) dN)))) (dK (bin ixD (dL (dK (dV 3) (dK (dC (.int 1)) dN))) (cal intD (dK (bin (eqD) (cll f_law_take (dK (dV 0) (dK (dC (.int 4)) dN))) (dC (.int 0))) dN))) dN)))))))))))
noncomputable def f_law_any_2 : List D → Sto → Rs D := fnD 1 4 b_law_any_2
noncomputable def w_law_any_2 : VS := (vSq (vAs (vBor1 0 (vCll1 g_law_take 0 (vK (vC (.int 4)) vN))) (vgV 1)) (vSq (vIf (vTst (vBor (vBi (eqP) (vV 1) (vC (.int 0))))) (vRt (vBor1 0 (vCll1 g_law_number 0 (vK (vC (.int 1000000)) vN)))) vNx) (vSq (vIf (vTst (vBor (vBi (eqP) (vV 1) (vC (.int 1))))) (vRt (vBor1 0 (vCll1 g_law_number 0 (vK (vC (.int 9)) vN)))) vNx) (vSq (vAs (vBor1 0 (vCal intTP (vK (vBi addP (vBi repSP (vC (.str "7")) (vCll1 g_law_take 0 (vK (vC (.int 60)) vN))) (vCal strP (vK (vCll1 g_law_take 0 (vK (vC (.int 1000)) vN)) vN))) vN))) (vgV 2)) (vSq (vIf (vTst (vBor (vBi (eqP) (vV 1) (vC (.int 2))))) (vAs (vBor1 0 (vCal intTP (vK (vBi addP (vBi repSP (vC (.str "9")) (vCll1 g_law_take 0 (vK (vC (.int 1000)) vN))) (vC (.str "1"))) vN))) (vgV 2)) vNx) (vSq (vAs (vBor1 0 (vCal intTP (vK (vBi addP (vBi addP (vC (.str "1")) (vBi repSP (vC (.str "0")) (vCll1 g_law_take 0 (vK (vC (.int 60)) vN)))) (vCal strP (vK (vCll1 g_law_take 0 (vK (vC (.int 1000)) vN)) vN))) vN))) (vgV 3)) (vSq (vIf (vTst (vBor1 0 (vBi (eqP) (vCll1 g_law_take 0 (vK (vC (.int 3)) vN)) (vC (.int 0))))) (vAs (vBor1 0 (vCal intTP (vK (vBi repSP (vC (.str "3")) (vBi addP (vC (.int 1)) (vCll1 g_law_take 0 (vK (vC (.int 1000)) vN)))) vN))) (vgV 3)) vNx) (vRt (vBor1 0 (vCll0 g_law_low (vK (vBi ixP (vL (vK (vV 2) (vK (vUn negP (vV 2)) vN))) (vCll1 g_law_take 0 (vK (vC (.int 2)) vN))) (vK (vBi ixP (vL (vK (vV 3) (vK (vC (.int 1)) vN))) (vCal intP (vK (vBi (eqP) (vCll1 g_law_take 0 (vK (vC (.int 4)) vN)) (vC (.int 0))) vN))) vN))))))))))))
noncomputable def g_law_any_2 : List P → Vf := gnD 1 1 4 w_law_any_2
theorem sim_law_any_2 : SimF 1 f_law_any_2 g_law_any_2 := sim_fn (by decide) (sim_sq (sim_as (sim_bor1 0 (sim_cll1 0 sim_law_take (sim_cons sim_int sim_nil))) (sim_gV 1 (by decide))) (sim_sq (sim_if (sim_tst (sim_bor (sim_bin op_eqP (sim_var 1) sim_int))) (sim_rt (sim_bor1 0 (sim_cll1 0 sim_law_number (sim_cons sim_int sim_nil)))) sim_nx) (sim_sq (sim_if (sim_tst (sim_bor (sim_bin op_eqP (sim_var 1) sim_int))) (sim_rt (sim_bor1 0 (sim_cll1 0 sim_law_number (sim_cons sim_int sim_nil)))) sim_nx) (sim_sq (sim_as (sim_bor1 0 (sim_cal op_intTP (sim_cons (sim_bin op_addP (sim_bin op_repSP sim_str (sim_cll1 0 sim_law_take (sim_cons sim_int sim_nil))) (sim_cal op_strP (sim_cons (sim_cll1 0 sim_law_take (sim_cons sim_int sim_nil)) sim_nil))) sim_nil))) (sim_gV 2 (by decide))) (sim_sq (sim_if (sim_tst (sim_bor (sim_bin op_eqP (sim_var 1) sim_int))) (sim_as (sim_bor1 0 (sim_cal op_intTP (sim_cons (sim_bin op_addP (sim_bin op_repSP sim_str (sim_cll1 0 sim_law_take (sim_cons sim_int sim_nil))) sim_str) sim_nil))) (sim_gV 2 (by decide))) sim_nx) (sim_sq (sim_as (sim_bor1 0 (sim_cal op_intTP (sim_cons (sim_bin op_addP (sim_bin op_addP sim_str (sim_bin op_repSP sim_str (sim_cll1 0 sim_law_take (sim_cons sim_int sim_nil)))) (sim_cal op_strP (sim_cons (sim_cll1 0 sim_law_take (sim_cons sim_int sim_nil)) sim_nil))) sim_nil))) (sim_gV 3 (by decide))) (sim_sq (sim_if (sim_tst (sim_bor1 0 (sim_bin op_eqP (sim_cll1 0 sim_law_take (sim_cons sim_int sim_nil)) sim_int))) (sim_as (sim_bor1 0 (sim_cal op_intTP (sim_cons (sim_bin op_repSP sim_str (sim_bin op_addP sim_int (sim_cll1 0 sim_law_take (sim_cons sim_int sim_nil)))) sim_nil))) (sim_gV 3 (by decide))) sim_nx) (sim_rt (sim_bor1 0 (sim_cll0 sim_law_low (sim_cons (sim_bin op_ixP (sim_L (sim_cons (sim_var 2) (sim_cons (sim_una op_negP (sim_var 2)) sim_nil))) (sim_cll1 0 sim_law_take (sim_cons sim_int sim_nil))) (sim_cons (sim_bin op_ixP (sim_L (sim_cons (sim_var 3) (sim_cons sim_int sim_nil))) (sim_cal op_intP (sim_cons (sim_bin op_eqP (sim_cll1 0 sim_law_take (sim_cons sim_int sim_nil)) sim_int) sim_nil))) sim_nil))))))))))))
noncomputable def b_law_number_right : DS := (sSq (sAs (cll f_law_number_text (dK (dV 0) dN)) (gV 1)) (sSq (sAs (cll f_show_number (dK (dV 0) dN)) (gV 2)) (sSq (sIf (orB (notB (tru (una (isiD "str") (dV 2)))) (tst (bin (neD) (dV 2) (dV 1)))) (sRt (dC (.bl false))) sNx) (sSq (sAs (cll f_read_number (dK (dV 1) dN)) (gV 3)) (sRt (andD (cll f_law_is_number (dK (dV 3) dN)) (bin (eqD) (dV 3) (dV 0))))))))
noncomputable def f_law_number_right : List D → Sto → Rs D := fnD 1 4 b_law_number_right
noncomputable def w_law_number_right : VS := (vSq (vAs (vBor (vCll0 g_law_number_text (vK (vV 0) vN))) (vgV 1)) (vSq (vAs (vBor (vCll0 g_show_number (vK (vV 0) vN))) (vgV 2)) (vSq (vIf (vOrB (vNotB (vTru (vBor (vUn (isiP "str") (vV 2))))) (vTst (vBor (vBi (neP) (vV 2) (vV 1))))) (vRt (vC (.bl false))) vNx) (vSq (vAs (vBor (vCll0 g_read_number (vK (vV 1) vN))) (vgV 3)) (vRt (vBor (vAndD (vCll0 g_law_is_number (vK (vV 3) vN)) (vBi (eqP) (vV 3) (vV 0)))))))))
noncomputable def g_law_number_right : List P → Vf := gnD 0 1 4 w_law_number_right
theorem sim_law_number_right : SimF 0 f_law_number_right g_law_number_right := sim_fn (by decide) (sim_sq (sim_as (sim_bor (sim_cll0 sim_law_number_text (sim_cons (sim_var 0) sim_nil))) (sim_gV 1 (by decide))) (sim_sq (sim_as (sim_bor (sim_cll0 sim_show_number (sim_cons (sim_var 0) sim_nil))) (sim_gV 2 (by decide))) (sim_sq (sim_if (sim_orB (sim_notB (sim_tru (sim_bor (sim_una op_isiP (sim_var 2))))) (sim_tst (sim_bor (sim_bin op_neP (sim_var 2) (sim_var 1))))) (sim_rt sim_bl) sim_nx) (sim_sq (sim_as (sim_bor (sim_cll0 sim_read_number (sim_cons (sim_var 1) sim_nil))) (sim_gV 3 (by decide))) (sim_rt (sim_bor (sim_andD (sim_cll0 sim_law_is_number (sim_cons (sim_var 3) sim_nil)) (sim_bin op_eqP (sim_var 3) (sim_var 0)))))))))
noncomputable def b_law_row_right : DS := (sSq (sAs (cal listD (dK (dV 0) dN)) (gV 1)) (sSq (sAs (cll f_law_row_text (dK (dV 0) dN)) (gV 2)) (sSq (sAs (cll f_show_row (dK (dV 0) dN)) (gV 3)) (sSq (sIf (orB (notB (tru (una (isiD "str") (dV 3)))) (orB (tst (bin (neD) (dV 3) (dV 2))) (tst (bin (neD) (dV 0) (dV 1))))) (sRt (dC (.bl false))) sNx) (sSq (sAs (cll f_read_row (dK (dV 2) dN)) (gV 4)) (sSq (sIf (orB (notB (tru (cll f_law_is_row (dK (dV 4) (dK (cal lenD (dK (dV 0) dN)) dN))))) (tst (bin (neD) (dV 4) (dV 0)))) (sRt (dC (.bl false))) sNx) (sSq (sEx (met1 apD (dV 4) (dC .non))) (sRt (dC (.bl true))))))))))
noncomputable def f_law_row_right : List D → Sto → Rs D := fnD 1 5 b_law_row_right
noncomputable def w_law_row_right : VS := (vSq (vAs (vBor (vCal listP (vK (vV 0) vN))) (vgV 1)) (vSq (vAs (vBor (vCll0 g_law_row_text (vK (vV 0) vN))) (vgV 2)) (vSq (vAs (vBor (vCll0 g_show_row (vK (vV 0) vN))) (vgV 3)) (vSq (vIf (vOrB (vNotB (vTru (vBor (vUn (isiP "str") (vV 3))))) (vOrB (vTst (vBor (vBi (neP) (vV 3) (vV 2)))) (vTst (vBor (vBi (neP) (vV 0) (vV 1)))))) (vRt (vC (.bl false))) vNx) (vSq (vAs (vBor (vCll0 g_read_row (vK (vV 2) vN))) (vgV 4)) (vSq (vIf (vOrB (vNotB (vTru (vBor (vCll0 g_law_is_row (vK (vV 4) (vK (vCal lenP (vK (vV 0) vN)) vN)))))) (vTst (vBor (vBi (neP) (vV 4) (vV 0))))) (vRt (vC (.bl false))) vNx) (vSq (vMeN apF 4 (vC .non)) (vRt (vC (.bl true))))))))))
noncomputable def g_law_row_right : List P → Vf := gnD 0 1 5 w_law_row_right
theorem sim_law_row_right : SimF 0 f_law_row_right g_law_row_right := sim_fn (by decide) (sim_sq (sim_as (sim_bor (sim_cal op_listP (sim_cons (sim_var 0) sim_nil))) (sim_gV 1 (by decide))) (sim_sq (sim_as (sim_bor (sim_cll0 sim_law_row_text (sim_cons (sim_var 0) sim_nil))) (sim_gV 2 (by decide))) (sim_sq (sim_as (sim_bor (sim_cll0 sim_show_row (sim_cons (sim_var 0) sim_nil))) (sim_gV 3 (by decide))) (sim_sq (sim_if (sim_orB (sim_notB (sim_tru (sim_bor (sim_una op_isiP (sim_var 3))))) (sim_orB (sim_tst (sim_bor (sim_bin op_neP (sim_var 3) (sim_var 2)))) (sim_tst (sim_bor (sim_bin op_neP (sim_var 0) (sim_var 1)))))) (sim_rt sim_bl) sim_nx) (sim_sq (sim_as (sim_bor (sim_cll0 sim_read_row (sim_cons (sim_var 2) sim_nil))) (sim_gV 4 (by decide))) (sim_sq (sim_if (sim_orB (sim_notB (sim_tru (sim_bor (sim_cll0 sim_law_is_row (sim_cons (sim_var 4) (sim_cons (sim_cal op_lenP (sim_cons (sim_var 0) sim_nil)) sim_nil)))))) (sim_tst (sim_bor (sim_bin op_neP (sim_var 4) (sim_var 0))))) (sim_rt sim_bl) sim_nx) (sim_sq (sim_meN 4 met_ap sim_non) (sim_rt sim_bl))))))))
noncomputable def b_law : DS := (sSq (sAs (cll f_law_bag (dK (dV 0) dN)) (gV 1)) (sSq (sAs (dL (dK (dL dN) (dK (dLc (rng1 (dK (cll f_law_take (dK (dV 1) (dK (dC (.int 13)) dN))) dN)) (.nm 5) tYes0 (cll f_law_any_2 (dK (dV 1) dN)) [5]) dN))) (gV 2)) (sSq (sEx (met1 apD (dV 2) (dLc (rng1 (dK (cll f_law_take (dK (dV 1) (dK (dC (.int 4)) dN))) dN)) (.nm 5) tYes0 (cll f_law_number (dK (dV 1) (dK (dC (.int 9)) dN))) [5]))) (sSq (sFr (walkD (dL (dK (bin ixD (dV 2) (dC (.int 1))) (dK (bin ixD (dV 2) (dC (.int 0))) (dK (bin ixD (dV 2) (dC (.int 2))) (dK (bin ixD (dV 2) (dC (.int 1))) dN)))))) (gV 3) (sIf (notB (tru (cll f_law_row_right (dK (dV 3) dN)))) (sRt (dC (.bl false))) sNx)) (sSq (sFr (walkD (bin addD (bin addD (bin ixD (dV 2) (dC (.int 1))) (bin ixD (dV 2) (dC (.int 2)))) (bin ixD (dV 2) (dC (.int 1))))) (gV 4) (sIf (notB (tru (cll f_law_number_right (dK (dV 4) dN)))) (sRt (dC (.bl false))) sNx)) (sRt (dC (.bl true))))))))
noncomputable def f_law : List D → Sto → Rs D := fnD 1 6 b_law
noncomputable def w_law_f1 : VS := (vIf (vNotB (vTru (vBor (vCll0 g_law_number_right (vK (vV 4) vN))))) (vRt (vC (.bl false))) vNx)
noncomputable def w_law_f2 : VS := (vIf (vNotB (vTru (vBor (vCll0 g_law_row_right (vK (vV 3) vN))))) (vRt (vC (.bl false))) vNx)
noncomputable def w_law_e1 : VE := (vCll1 g_law_number 1 (vK (vC (.int 9)) vN))
noncomputable def w_law_e2 : VE := (vCll1 g_law_any_2 1 vN)
noncomputable def w_law : VS := (vSq (vAs (vBor (vCll0 g_law_bag (vK (vV 0) vN))) (vgV 1)) (vSq (vAs (vL (vK (vL vN) (vK (vBor1 1 (vLc (vRng1 (vK (vCll1 g_law_take 1 (vK (vC (.int 13)) vN)) vN)) (.nm 5) vYes0 w_law_e2 [5])) vN))) (vgV 2)) (vSq (vMeN apF 2 (vBor1 1 (vLc (vRng1 (vK (vCll1 g_law_take 1 (vK (vC (.int 4)) vN)) vN)) (.nm 5) vYes0 w_law_e1 [5]))) (vSq (vFr (vWalk (vL (vK (vAt 2 (vC (.int 1))) (vK (vAt 2 (vC (.int 0))) (vK (vAt 2 (vC (.int 2))) (vK (vAt 2 (vC (.int 1))) vN)))))) (vgV 3) w_law_f2) (vSq (vFr (vWalk (vBor (vBi addP (vBi addP (vBi ixP (vV 2) (vC (.int 1))) (vBi ixP (vV 2) (vC (.int 2)))) (vBi ixP (vV 2) (vC (.int 1)))))) (vgV 4) w_law_f1) (vRt (vC (.bl true))))))))
noncomputable def g_law : List P → Vf := gnD 0 1 6 w_law
theorem sim_law : SimF 0 f_law g_law := sim_fn (by decide) (sim_sq (sim_as (sim_bor (sim_cll0 sim_law_bag (sim_cons (sim_var 0) sim_nil))) (sim_gV 1 (by decide))) (sim_sq (sim_as (sim_L (sim_cons (sim_L sim_nil) (sim_cons (sim_bor1 1 (sim_lc (sim_rng1 (sim_cons (sim_cll1 1 sim_law_take (sim_cons sim_int sim_nil)) sim_nil)) sim_yes0 (sim_cll1 1 sim_law_any_2 sim_nil))) sim_nil))) (sim_gV 2 (by decide))) (sim_sq (sim_meN 2 met_ap (sim_bor1 1 (sim_lc (sim_rng1 (sim_cons (sim_cll1 1 sim_law_take (sim_cons sim_int sim_nil)) sim_nil)) sim_yes0 (sim_cll1 1 sim_law_number (sim_cons sim_int sim_nil))))) (sim_sq (sim_fr (sim_walk (sim_L (sim_cons (sim_at 2 sim_int) (sim_cons (sim_at 2 sim_int) (sim_cons (sim_at 2 sim_int) (sim_cons (sim_at 2 sim_int) sim_nil)))))) (sim_gV 3 (by decide)) (sim_if (sim_notB (sim_tru (sim_bor (sim_cll0 sim_law_row_right (sim_cons (sim_var 3) sim_nil))))) (sim_rt sim_bl) sim_nx)) (sim_sq (sim_fr (sim_walk (sim_bor (sim_bin op_addP (sim_bin op_addP (sim_bin op_ixP (sim_var 2) sim_int) (sim_bin op_ixP (sim_var 2) sim_int)) (sim_bin op_ixP (sim_var 2) sim_int)))) (sim_gV 4 (by decide)) (sim_if (sim_notB (sim_tru (sim_bor (sim_cll0 sim_law_number_right (sim_cons (sim_var 4) sim_nil))))) (sim_rt sim_bl) sim_nx)) (sim_rt sim_bl))))))
section
variable {w : World} {K : PySem.W.Frag} {mg : Str → Option Value} {base : Heap}
theorem sc_is_whole : FnScope ["thing"] ["thing"] (defScope s_is_whole) := ⟨rfl, rfl, rfl, by decide +kernel, rfl, by decide +kernel, by decide +kernel⟩
theorem ok_is_whole (Z : Wd FA FN TB K mg) : FnG PR w K mg base 33 "is_whole" 1 f_is_whole := by
  have sc := sc_is_whole
  refine fng_of (d := b_is_whole) Z.c 0 rfl (Z.gl 12 rfl) sc (k := 32) (by decide) rfl (fun _ _ _ _ _ _ us hl => match us, hl with | [_], _ => rfl) fun f cdv A outer s H E hr hx => ?_
  have tk := tk_of (P := PR) (w := w) (K := K) (mg := mg) (base := base) (N := ["thing"]) (qual := "is_whole") (scope := defScope s_is_whole) (f := f) (cdv := cdv) (A := A) (outer := outer) (s := s) (H := H) (E := E)
  exact (gs_one (gs_ret (ge_and (ge_isi rfl (Z.fr 0 rfl) rfl (Z.fr 1 rfl) (by decide +kernel) (ge_var 0)) (ge_one (ge_not (ge_isi rfl (Z.fr 0 rfl) rfl (Z.fr 2 rfl) (by decide +kernel) (ge_var 0)))))))
theorem sc_common : FnScope ["one", "other"] ["one", "other"] (defScope s_common) := ⟨rfl, rfl, rfl, by decide +kernel, rfl, by decide +kernel, by decide +kernel⟩
theorem ok_common (Z : Wd FA FN TB K mg) : FnG PR w K mg base 33 "common" 2 f_common := by
  have sc := sc_common
  refine fng_of (d := b_common) Z.c 1 rfl (Z.gl 13 rfl) sc (k := 32) (by decide) rfl (fun _ _ _ _ _ _ us hl => match us, hl with | [_, _], _ => rfl) fun f cdv A outer s H E hr hx => ?_
  have tk := tk_of (P := PR) (w := w) (K := K) (mg := mg) (base := base) (N := ["one", "other"]) (qual := "common") (scope := defScope s_common) (f := f) (cdv := cdv) (A := A) (outer := outer) (s := s) (H := H) (E := E)
  exact (gs_cons (gs_while po_of (gt_ne hr.units (ge_var 1) ge_int) (gs_one (gs_par 0 1 rfl sc.nd rfl rfl (by decide) rfl rfl (ga_cons (ge_var 1) (ga_cons (ge_mod (ge_var 0) (ge_var 1)) ga_nil)) (by rfl)))) (gs_one (gs_ret (ge_var 0))))
theorem sc_show_number : FnScope ["number"] ["number"] (defScope s_show_number) := ⟨rfl, rfl, rfl, by decide +kernel, rfl, by decide +kernel, by decide +kernel⟩
theorem ok_show_number (Z : Wd FA FN TB K mg) : FnG PR w K mg base 33 "show_number" 1 f_show_number := by
  have sc := sc_show_number
  refine fng_of (d := b_show_number) Z.c 3 rfl (Z.gl 15 rfl) sc (k := 32) (by decide) rfl (fun _ _ _ _ _ _ us hl => match us, hl with | [_], _ => rfl) fun f cdv A outer s H E hr hx => ?_
  have tk := tk_of (P := PR) (w := w) (K := K) (mg := mg) (base := base) (N := ["number"]) (qual := "show_number") (scope := defScope s_show_number) (f := f) (cdv := cdv) (A := A) (outer := outer) (s := s) (H := H) (E := E)
  exact (gs_cons (gs_if (gt_eq hr.units (ge_item (ge_var 0) ge_int) ge_int) (gs_one (gs_ret (ge_str1 hx rfl (Z.fr 6 rfl) (ge_item (ge_var 0) ge_int)))) gs_nil) (gs_one (gs_ret (ge_joined (gj_cons (ge_fmt hx (ge_item (ge_var 0) ge_int)) (gj_cons ge_str (gj_cons (ge_fmt hx (ge_item (ge_var 0) ge_int)) gj_nil)))))))
theorem sc_figures_of : FnScope ["word", "sign"] ["word"] (defScope s_figures_of) := ⟨rfl, rfl, rfl, by decide +kernel, rfl, by decide +kernel, by decide +kernel⟩
theorem ok_figures_of (Z : Wd FA FN TB K mg) : FnG PR w K mg base 33 "figures_of" 1 f_figures_of := by
  have sc := sc_figures_of
  refine fng_of (d := b_figures_of) Z.c 5 rfl (Z.gl 17 rfl) sc (k := 32) (by decide) rfl (fun _ _ _ _ _ _ us hl => match us, hl with | [_], _ => rfl) fun f cdv A outer s H E hr hx => ?_
  have tk := tk_of (P := PR) (w := w) (K := K) (mg := mg) (base := base) (N := ["word", "sign"]) (qual := "figures_of") (scope := defScope s_figures_of) (f := f) (cdv := cdv) (A := A) (outer := outer) (s := s) (H := H) (E := E)
  exact (gs_cons (gs_if (gt_w (gw_or (gt_not (gt_chain op_le op_le ge_int (ge_callB call_len len_d (by decide +kernel) rfl (Z.fr 5 rfl) (ga_cons (ge_var 0) ga_nil)) (ge_gint (Z.it 8 rfl) rfl))) (gw_or1 (gt_w (gw_and (gt_eq hr.units (ge_item (ge_var 0) ge_int) ge_str) (gw_and1 (gt_gt (ge_callB call_len len_d (by decide +kernel) rfl (Z.fr 5 rfl) (ga_cons (ge_var 0) ga_nil)) ge_int))))))) (gs_one gs_bad) gs_nil) (gs_cons (gs_for po_of rfl (gi_walkS (ge_var 0)) (gg_name 1 sc.nd rfl (.inl rfl)) (gs_one (gs_if (gt_ninS (ge_var 1) (ge_gstr (Z.sr 7 rfl) rfl)) (gs_one gs_bad) gs_nil))) (gs_one (gs_ret (ge_intT hx rfl (Z.fr 1 rfl) (ge_var 0))))))
theorem sc_law_bag : FnScope ["_law_script", "_law_cell"] ["_law_script"] (defScope s_law_bag) := ⟨rfl, rfl, rfl, by decide +kernel, rfl, by decide +kernel, by decide +kernel⟩
theorem ok_law_bag (Z : Wd FA FN TB K mg) : FnG PR w K mg base 33 "_law_bag" 1 f_law_bag := by
  have sc := sc_law_bag
  refine fng_of (d := b_law_bag) Z.c 8 rfl (Z.gl 20 rfl) sc (k := 32) (by decide) rfl (fun _ _ _ _ _ _ us hl => match us, hl with | [_], _ => rfl) fun f cdv A outer s H E hr hx => ?_
  have tk := tk_of (P := PR) (w := w) (K := K) (mg := mg) (base := base) (N := ["_law_script", "_law_cell"]) (qual := "_law_bag") (scope := defScope s_law_bag) (f := f) (cdv := cdv) (A := A) (outer := outer) (s := s) (H := H) (E := E)
  exact (gs_one (gs_ret (ge_lst (ga_cons ge_int (ga_cons ge_int (ga_cons ge_int (ga_cons (ge_lc (own := [("_law_cell", 1)]) rfl sc.nd (gi_walk (ge_slice (ge_var 0) go_none (go_some ge_int))) (blkOk_by (by kernel_rfl)) (fun _ _ _ _ _ => (gp_name 1 sc.nd rfl (.inl rfl))) (fun s1 H1 C1 cl1 fp1 => have tk := @takes0; gts_nil) (fun s1 H1 C1 cl1 fp1 => have tk := @takes0; (ge_callB call_abs abs_d (by decide +kernel) rfl (Z.fr 3 rfl) (ga_cons (ge_var 1) ga_nil)))) ga_nil)))))))
theorem sc_law_take : FnScope ["_law_bag_here", "_law_many", "_law_first", "_law_second", "_law_more", "_law_value", "_law_cell"] ["_law_bag_here", "_law_many"] (defScope s_law_take) := ⟨rfl, rfl, rfl, by decide +kernel, rfl, by decide +kernel, by decide +kernel⟩
theorem ok_law_take (Z : Wd FA FN TB K mg) : FnG PR w K mg base 33 "_law_take" 2 f_law_take := by
  have sc := sc_law_take
  refine fng_of (d := b_law_take) Z.c 9 rfl (Z.gl 21 rfl) sc (k := 32) (by decide) rfl (fun _ _ _ _ _ _ us hl => match us, hl with | [_, _], _ => rfl) fun f cdv A outer s H E hr hx => ?_
  have tk := tk_of (P := PR) (w := w) (K := K) (mg := mg) (base := base) (N := ["_law_bag_here", "_law_many", "_law_first", "_law_second", "_law_more", "_law_value", "_law_cell"]) (qual := "_law_take") (scope := defScope s_law_take) (f := f) (cdv := cdv) (A := A) (outer := outer) (s := s) (H := H) (E := E)
  exact (gs_cons (gs_if (gt_eq hr.units (ge_item (ge_var 0) ge_int) ge_int) (gs_cons (gs_set 4 sc.nd rfl (.inl rfl) ge_int) (gs_cons (gs_if (gt_lt (ge_item (ge_var 0) ge_int) (ge_callB call_len len_d (by decide +kernel) rfl (Z.fr 5 rfl) (ga_cons (ge_item (ge_var 0) ge_int) ga_nil))) (gs_cons (gs_set 6 sc.nd rfl (.inl rfl) (ge_item (ge_item (ge_var 0) ge_int) (ge_item (ge_var 0) ge_int))) (gs_cons (gs_augI (ge_var 0) ge_int ge_int) (gs_cons (gs_if (gt_ge (ge_var 6) ge_int) (gs_one (gs_asg (ge_var 6) (gg_sub (W := WN) (have tk := @takes0; (ge_var 0)) (have tk := @takes0; ge_int)))) gs_nil) (gs_one (gs_set 4 sc.nd rfl (.inl rfl) (ge_add (ge_mod (ge_var 6) ge_int) ge_int)))))) gs_nil) (gs_one (gs_asg (ge_mod (ge_add (ge_mul (ge_item (ge_var 0) ge_int) ge_int) (ge_var 4)) ge_int) (gg_sub (W := WN) (have tk := @takes0; (ge_var 0)) (have tk := @takes0; ge_int)))))) gs_nil) (gs_cons (gs_if (gt_gt (ge_item (ge_var 0) ge_int) ge_int) (gs_cons (gs_set 5 sc.nd rfl (.inl rfl) (ge_mod (ge_item (ge_var 0) ge_int) (ge_var 1))) (gs_cons (gs_asg (ge_div hx (ge_item (ge_var 0) ge_int) (ge_var 1)) (gg_sub (W := WN) (have tk := @takes0; (ge_var 0)) (have tk := @takes0; ge_int))) (gs_one (gs_ret (ge_var 5))))) gs_nil) (gs_cons (gs_set 2 sc.nd rfl (.inl rfl) (ge_mod (ge_mul (ge_item (ge_var 0) ge_int) ge_int) ge_int)) (gs_cons (gs_set 3 sc.nd rfl (.inl rfl) (ge_mod (ge_mul (ge_var 2) ge_int) ge_int)) (gs_cons (gs_if (gt_gt (ge_var 1) ge_int) (gs_one (gs_ret (ge_mod (ge_add (ge_mul (ge_var 3) ge_int) (ge_var 2)) (ge_var 1)))) gs_nil) (gs_one (gs_ret (ge_mod (ge_div hx (ge_var 3) ge_int) (ge_var 1)))))))))
theorem sc_law_low : FnScope ["_law_top", "_law_bottom", "_law_one", "_law_other"] ["_law_top", "_law_bottom"] (defScope s_law_low) := ⟨rfl, rfl, rfl, by decide +kernel, rfl, by decide +kernel, by decide +kernel⟩
theorem ok_law_low (Z : Wd FA FN TB K mg) : FnG PR w K mg base 33 "_law_low" 2 f_law_low := by
  have sc := sc_law_low
  refine fng_of (d := b_law_low) Z.c 10 rfl (Z.gl 22 rfl) sc (k := 32) (by decide) rfl (fun _ _ _ _ _ _ us hl => match us, hl with | [_, _], _ => rfl) fun f cdv A outer s H E hr hx => ?_
  have tk := tk_of (P := PR) (w := w) (K := K) (mg := mg) (base := base) (N := ["_law_top", "_law_bottom", "_law_one", "_law_other"]) (qual := "_law_low") (scope := defScope s_law_low) (f := f) (cdv := cdv) (A := A) (outer := outer) (s := s) (H := H) (E := E)
  exact (gs_cons (gs_set 2 sc.nd rfl (.inl rfl) (ge_callB call_abs abs_d (by decide +kernel) rfl (Z.fr 3 rfl) (ga_cons (ge_var 0) ga_nil))) (gs_cons (gs_set 3 sc.nd rfl (.inl rfl) (ge_var 1)) (gs_cons (gs_while po_of (gt_ne hr.units (ge_var 2) ge_int) (gs_one (gs_par 2 3 rfl sc.nd rfl rfl (by decide) rfl rfl (ga_cons (ge_mod (ge_var 3) (ge_var 2)) (ga_cons (ge_var 2) ga_nil)) (by rfl)))) (gs_one (gs_ret (ge_tup (ga_cons (ge_div hx (ge_var 0) (ge_var 3)) (ga_cons (ge_div hx (ge_var 1) (ge_var 3)) ga_nil))))))))
theorem sc_law_number_text : FnScope ["_law_one"] ["_law_one"] (defScope s_law_number_text) := ⟨rfl, rfl, rfl, by decide +kernel, rfl, by decide +kernel, by decide +kernel⟩
theorem ok_law_number_text (Z : Wd FA FN TB K mg) : FnG PR w K mg base 33 "_law_number_text" 1 f_law_number_text := by
  have sc := sc_law_number_text
  refine fng_of (d := b_law_number_text) Z.c 14 rfl (Z.gl 26 rfl) sc (k := 32) (by decide) rfl (fun _ _ _ _ _ _ us hl => match us, hl with | [_], _ => rfl) fun f cdv A outer s H E hr hx => ?_
  have tk := tk_of (P := PR) (w := w) (K := K) (mg := mg) (base := base) (N := ["_law_one"]) (qual := "_law_number_text") (scope := defScope s_law_number_text) (f := f) (cdv := cdv) (A := A) (outer := outer) (s := s) (H := H) (E := E)
  exact (gs_cons (gs_if (gt_eq hr.units (ge_item (ge_var 0) ge_int) ge_int) (gs_one (gs_ret (ge_str1 hx rfl (Z.fr 6 rfl) (ge_item (ge_var 0) ge_int)))) gs_nil) (gs_one (gs_ret (ge_add (ge_add (ge_str1 hx rfl (Z.fr 6 rfl) (ge_item (ge_var 0) ge_int)) ge_str) (ge_str1 hx rfl (Z.fr 6 rfl) (ge_item (ge_var 0) ge_int))))))
theorem sc_is_number : FnScope ["thing", "top", "bottom"] ["thing"] (defScope s_is_number) := ⟨rfl, rfl, rfl, by decide +kernel, rfl, by decide +kernel, by decide +kernel⟩
theorem ok_is_number (Z : Wd FA FN TB K mg) : FnG PR w K mg base 34 "is_number" 1 f_is_number := by
  have sc := sc_is_number
  refine fng_of (d := b_is_number) Z.c 2 rfl (Z.gl 14 rfl) sc (k := 33) (by decide) rfl (fun _ _ _ _ _ _ us hl => match us, hl with | [_], _ => rfl) fun f cdv A outer s H E hr hx => ?_
  have tk := tk_of (P := PR) (w := w) (K := K) (mg := mg) (base := base) (N := ["thing", "top", "bottom"]) (qual := "is_number") (scope := defScope s_is_number) (f := f) (cdv := cdv) (A := A) (outer := outer) (s := s) (H := H) (E := E)
  exact (gs_cons (gs_if (gt_w (gw_or (gt_not (gt_val (ge_isi rfl (Z.fr 0 rfl) rfl (Z.fr 4 rfl) (by decide +kernel) (ge_var 0)))) (gw_or1 (gt_ne hr.units (ge_callB call_len len_d (by decide +kernel) rfl (Z.fr 5 rfl) (ga_cons (ge_var 0) ga_nil)) ge_int)))) (gs_one (gs_ret ge_bl)) gs_nil) (gs_cons (gs_asg (ge_var 0) (gg_tup rfl (ggs_cons (gg_name 1 sc.nd rfl (.inl rfl)) (ggs_cons (gg_name 2 sc.nd rfl (.inl rfl)) ggs_nil)))) (gs_cons (gs_if (gt_w (gw_or (gt_not (gt_val (ge_call (ok_is_whole Z) rfl (dK_len dN_len) (hr.mono (by decide)) rfl tk (ga_cons (ge_var 1) ga_nil)))) (gw_or (gt_not (gt_val (ge_call (ok_is_whole Z) rfl (dK_len dN_len) (hr.mono (by decide)) rfl tk (ga_cons (ge_var 2) ga_nil)))) (gw_or1 (gt_lt (ge_var 2) ge_int))))) (gs_one (gs_ret ge_bl)) gs_nil) (gs_one (gs_ret (ge_eq hr.units (ge_call (ok_common Z) rfl (dK_len (dK_len dN_len)) (hr.mono (by decide)) rfl tk (ga_cons (ge_var 2) (ga_cons (ge_callB call_abs abs_d (by decide +kernel) rfl (Z.fr 3 rfl) (ga_cons (ge_var 1) ga_nil)) ga_nil))) ge_int))))))
theorem sc_show_row : FnScope ["row", "one"] ["row"] (defScope s_show_row) := ⟨rfl, rfl, rfl, by decide +kernel, rfl, by decide +kernel, by decide +kernel⟩
theorem ok_show_row (Z : Wd FA FN TB K mg) : FnG PR w K mg base 34 "show_row" 1 f_show_row := by
  have sc := sc_show_row
  refine fng_of (d := b_show_row) Z.c 4 rfl (Z.gl 16 rfl) sc (k := 33) (by decide) rfl (fun _ _ _ _ _ _ us hl => match us, hl with | [_], _ => rfl) fun f cdv A outer s H E hr hx => ?_
  have tk := tk_of (P := PR) (w := w) (K := K) (mg := mg) (base := base) (N := ["row", "one"]) (qual := "show_row") (scope := defScope s_show_row) (f := f) (cdv := cdv) (A := A) (outer := outer) (s := s) (H := H) (E := E)
  exact (gs_one (gs_ret (ge_join ge_str (ge_lc (own := [("one", 1)]) rfl sc.nd (gi_walk (ge_var 0)) (blkOk_by (by kernel_rfl)) (fun _ _ _ _ _ => (gp_name 1 sc.nd rfl (.inl rfl))) (fun s1 H1 C1 cl1 fp1 => have tk := @takes0; gts_nil) (fun s1 H1 C1 cl1 fp1 => have tk := @takes0; (ge_call (ok_show_number Z) rfl (dK_len dN_len) (hr.mono (by decide)) rfl tk (ga_cons (ge_var 1) ga_nil)))))))
theorem sc_law_number : FnScope ["_law_bag_here", "_law_wide", "_law_way"] ["_law_bag_here", "_law_wide"] (defScope s_law_number) := ⟨rfl, rfl, rfl, by decide +kernel, rfl, by decide +kernel, by decide +kernel⟩
theorem ok_law_number (Z : Wd FA FN TB K mg) : FnG PR w K mg base 34 "_law_number" 2 f_law_number := by
  have sc := sc_law_number
  refine fng_of (d := b_law_number) Z.c 11 rfl (Z.gl 23 rfl) sc (k := 33) (by decide) rfl (fun _ _ _ _ _ _ us hl => match us, hl with | [_, _], _ => rfl) fun f cdv A outer s H E hr hx => ?_
  have tk := tk_of (P := PR) (w := w) (K := K) (mg := mg) (base := base) (N := ["_law_bag_here", "_law_wide", "_law_way"]) (qual := "_law_number") (scope := defScope s_law_number) (f := f) (cdv := cdv) (A := A) (outer := outer) (s := s) (H := H) (E := E)
  exact (gs_cons (gs_set 2 sc.nd rfl (.inl rfl) (ge_call (ok_law_take Z) rfl (dK_len (dK_len dN_len)) (hr.mono (by decide)) rfl tk (ga_cons (ge_var 0) (ga_cons ge_int ga_nil)))) (gs_cons (gs_if (gt_lt (ge_var 2) ge_int) (gs_one (gs_ret (ge_tup (ga_cons ge_int (ga_cons ge_int ga_nil))))) gs_nil) (gs_cons (gs_if (gt_lt (ge_var 2) ge_int) (gs_one (gs_ret (ge_tup (ga_cons (ge_sub (ge_call (ok_law_take Z) rfl (dK_len (dK_len dN_len)) (hr.mono (by decide)) rfl tk (ga_cons (ge_var 0) (ga_cons ge_int ga_nil))) ge_int) (ga_cons ge_int ga_nil))))) gs_nil) (gs_cons (gs_if (gt_eq hr.units (ge_var 2) ge_int) (gs_one (gs_ret (ge_call (ok_law_low Z) rfl (dK_len (dK_len dN_len)) (hr.mono (by decide)) rfl tk (ga_cons (ge_sub (ge_call (ok_law_take Z) rfl (dK_len (dK_len dN_len)) (hr.mono (by decide)) rfl tk (ga_cons (ge_var 0) (ga_cons ge_int ga_nil))) ge_int) (ga_cons (ge_add ge_int (ge_call (ok_law_take Z) rfl (dK_len (dK_len dN_len)) (hr.mono (by decide)) rfl tk (ga_cons (ge_var 0) (ga_cons ge_int ga_nil)))) ga_nil))))) gs_nil) (gs_one (gs_ret (ge_call (ok_law_low Z) rfl (dK_len (dK_len dN_len)) (hr.mono (by decide)) rfl tk (ga_cons (ge_sub (ge_call (ok_law_take Z) rfl (dK_len (dK_len dN_len)) (hr.mono (by decide)) rfl tk (ga_cons (ge_var 0) (ga_cons (ge_add (ge_mul ge_int (ge_var 1)) ge_int) ga_nil))) (ge_var 1)) (ga_cons (ge_add ge_int (ge_call (ok_law_take Z) rfl (dK_len (dK_len dN_len)) (hr.mono (by decide)) rfl tk (ga_cons (ge_var 0) (ga_cons (ge_var 1) ga_nil)))) ga_nil)))))))))
theorem sc_law_is_number : FnScope ["_law_thing", "_law_part"] ["_law_thing"] (defScope s_law_is_number) := ⟨rfl, rfl, rfl, by decide +kernel, rfl, by decide +kernel, by decide +kernel⟩
theorem ok_law_is_number (Z : Wd FA FN TB K mg) : FnG PR w K mg base 34 "_law_is_number" 1 f_law_is_number := by
  have sc := sc_law_is_number
  refine fng_of (d := b_law_is_number) Z.c 12 rfl (Z.gl 24 rfl) sc (k := 33) (by decide) rfl (fun _ _ _ _ _ _ us hl => match us, hl with | [_], _ => rfl) fun f cdv A outer s H E hr hx => ?_
  have tk := tk_of (P := PR) (w := w) (K := K) (mg := mg) (base := base) (N := ["_law_thing", "_law_part"]) (qual := "_law_is_number") (scope := defScope s_law_is_number) (f := f) (cdv := cdv) (A := A) (outer := outer) (s := s) (H := H) (E := E)
  exact (gs_cons (gs_if (gt_w (gw_or (gt_not (gt_val (ge_isi rfl (Z.fr 0 rfl) rfl (Z.fr 4 rfl) (by decide +kernel) (ge_var 0)))) (gw_or1 (gt_ne hr.units (ge_callB call_len len_d (by decide +kernel) rfl (Z.fr 5 rfl) (ga_cons (ge_var 0) ga_nil)) ge_int)))) (gs_one (gs_ret ge_bl)) gs_nil) (gs_cons (gs_for po_of rfl (gi_walk (ge_var 0)) (gg_name 1 sc.nd rfl (.inl rfl)) (gs_one (gs_if (gt_w (gw_or (gt_not (gt_val (ge_isi rfl (Z.fr 0 rfl) rfl (Z.fr 1 rfl) (by decide +kernel) (ge_var 1)))) (gw_or1 (gt_val (ge_isi rfl (Z.fr 0 rfl) rfl (Z.fr 2 rfl) (by decide +kernel) (ge_var 1)))))) (gs_one (gs_ret ge_bl)) gs_nil))) (gs_one (gs_ret (ge_and (ge_gt (ge_item (ge_var 0) ge_int) ge_int) (ge_one (ge_eq hr.units (ge_call (ok_law_low Z) rfl (dK_len (dK_len dN_len)) (hr.mono (by decide)) rfl tk (ga_cons (ge_item (ge_var 0) ge_int) (ga_cons (ge_item (ge_var 0) ge_int) ga_nil))) (ge_var 0))))))))
theorem sc_law_row_text : FnScope ["_law_row", "_law_one"] ["_law_row"] (defScope s_law_row_text) := ⟨rfl, rfl, rfl, by decide +kernel, rfl, by decide +kernel, by decide +kernel⟩
theorem ok_law_row_text (Z : Wd FA FN TB K mg) : FnG PR w K mg base 34 "_law_row_text" 1 f_law_row_text := by
  have sc := sc_law_row_text
  refine fng_of (d := b_law_row_text) Z.c 15 rfl (Z.gl 27 rfl) sc (k := 33) (by decide) rfl (fun _ _ _ _ _ _ us hl => match us, hl with | [_], _ => rfl) fun f cdv A outer s H E hr hx => ?_
  have tk := tk_of (P := PR) (w := w) (K := K) (mg := mg) (base := base) (N := ["_law_row", "_law_one"]) (qual := "_law_row_text") (scope := defScope s_law_row_text) (f := f) (cdv := cdv) (A := A) (outer := outer) (s := s) (H := H) (E := E)
  exact (gs_one (gs_ret (ge_join ge_str (ge_lc (own := [("_law_one", 1)]) rfl sc.nd (gi_walk (ge_var 0)) (blkOk_by (by kernel_rfl)) (fun _ _ _ _ _ => (gp_name 1 sc.nd rfl (.inl rfl))) (fun s1 H1 C1 cl1 fp1 => have tk := @takes0; gts_nil) (fun s1 H1 C1 cl1 fp1 => have tk := @takes0; (ge_call (ok_law_number_text Z) rfl (dK_len dN_len) (hr.mono (by decide)) rfl tk (ga_cons (ge_var 1) ga_nil)))))))
theorem sc_read_number : FnScope ["text", "below", "top", "middle", "bottom", "found"] ["text"] (defScope s_read_number) := ⟨rfl, rfl, rfl, by decide +kernel, rfl, by decide +kernel, by decide +kernel⟩
theorem ok_read_number (Z : Wd FA FN TB K mg) : FnG PR w K mg base 35 "read_number" 1 f_read_number := by
  have sc := sc_read_number
  refine fng_of (d := b_read_number) Z.c 6 rfl (Z.gl 18 rfl) sc (k := 34) (by decide) rfl (fun _ _ _ _ _ _ us hl => match us, hl with | [_], _ => rfl) fun f cdv A outer s H E hr hx => ?_
  have tk := tk_of (P := PR) (w := w) (K := K) (mg := mg) (base := base) (N := ["text", "below", "top", "middle", "bottom", "found"]) (qual := "read_number") (scope := defScope s_read_number) (f := f) (cdv := cdv) (A := A) (outer := outer) (s := s) (H := H) (E := E)
  exact (gs_cons (gs_if (gt_not (gt_val (ge_isi rfl (Z.fr 0 rfl) rfl (Z.fr 6 rfl) (by decide +kernel) (ge_var 0)))) (gs_one gs_bad) gs_nil) (gs_cons (gs_asg (ge_partition (ge_var 0) ge_str) (gg_tup rfl (ggs_cons (gg_name 2 sc.nd rfl (.inl rfl)) (ggs_cons (gg_name 3 sc.nd rfl (.inl rfl)) (ggs_cons (gg_name 4 sc.nd rfl (.inl rfl)) ggs_nil))))) (gs_cons (gs_set 1 sc.nd rfl (.inl rfl) ge_int) (gs_cons (gs_if (gt_eq hr.units (ge_var 3) ge_str) (gs_one (gs_set 1 sc.nd rfl (.inl rfl) (ge_call (ok_figures_of Z) rfl (dK_len dN_len) (hr.mono (by decide)) rfl tk (ga_cons (ge_var 4) ga_nil)))) gs_nil) (gs_cons (gs_if (gt_eq hr.units (ge_sliceS (ge_var 2) go_none (go_some ge_int)) ge_str) (gs_one (gs_set 5 sc.nd rfl (.inl rfl) (ge_tup (ga_cons (ge_neg (ge_call (ok_figures_of Z) rfl (dK_len dN_len) (hr.mono (by decide)) rfl tk (ga_cons (ge_sliceS (ge_var 2) (go_some ge_int) go_none) ga_nil))) (ga_cons (ge_var 1) ga_nil))))) (gs_one (gs_set 5 sc.nd rfl (.inl rfl) (ge_tup (ga_cons (ge_call (ok_figures_of Z) rfl (dK_len dN_len) (hr.mono (by decide)) rfl tk (ga_cons (ge_var 2) ga_nil)) (ga_cons (ge_var 1) ga_nil)))))) (gs_cons (gs_if (gt_w (gw_or (gt_not (gt_val (ge_call (ok_is_number Z) rfl (dK_len dN_len) (hr.mono (by decide)) rfl tk (ga_cons (ge_var 5) ga_nil)))) (gw_or1 (gt_ne hr.units (ge_call (ok_show_number Z) rfl (dK_len dN_len) (hr.mono (by decide)) rfl tk (ga_cons (ge_var 5) ga_nil)) (ge_var 0))))) (gs_one gs_bad) gs_nil) (gs_one (gs_ret (ge_var 5)))))))))
theorem sc_law_is_row : FnScope ["_law_thing", "_law_many", "_law_one"] ["_law_thing", "_law_many"] (defScope s_law_is_row) := ⟨rfl, rfl, rfl, by decide +kernel, rfl, by decide +kernel, by decide +kernel⟩
theorem ok_law_is_row (Z : Wd FA FN TB K mg) : FnG PR w K mg base 35 "_law_is_row" 2 f_law_is_row := by
  have sc := sc_law_is_row
  refine fng_of (d := b_law_is_row) Z.c 13 rfl (Z.gl 25 rfl) sc (k := 34) (by decide) rfl (fun _ _ _ _ _ _ us hl => match us, hl with | [_, _], _ => rfl) fun f cdv A outer s H E hr hx => ?_
  have tk := tk_of (P := PR) (w := w) (K := K) (mg := mg) (base := base) (N := ["_law_thing", "_law_many", "_law_one"]) (qual := "_law_is_row") (scope := defScope s_law_is_row) (f := f) (cdv := cdv) (A := A) (outer := outer) (s := s) (H := H) (E := E)
  exact (gs_cons (gs_if (gt_w (gw_or (gt_not (gt_val (ge_isi rfl (Z.fr 0 rfl) rfl (Z.fr 10 rfl) (by decide +kernel) (ge_var 0)))) (gw_or1 (gt_ne hr.units (ge_callB call_len len_d (by decide +kernel) rfl (Z.fr 5 rfl) (ga_cons (ge_var 0) ga_nil)) (ge_var 1))))) (gs_one (gs_ret ge_bl)) gs_nil) (gs_one (gs_ret (ge_callB (cr_all rfl) all_d (by decide +kernel) rfl (Z.fr 9 rfl) (ga_cons (ge_lc (own := [("_law_one", 2)]) rfl sc.nd (gi_walk (ge_var 0)) (blkOk_by (by kernel_rfl)) (fun _ _ _ _ _ => (gp_name 2 sc.nd rfl (.inl rfl))) (fun s1 H1 C1 cl1 fp1 => have tk := @takes0; gts_nil) (fun s1 H1 C1 cl1 fp1 => have tk := @takes0; (ge_call (ok_law_is_number Z) rfl (dK_len dN_len) (hr.mono (by decide)) rfl tk (ga_cons (ge_var 2) ga_nil)))) ga_nil)))))
theorem sc_law_any_2 : FnScope ["_law_bag_here", "_law_way", "_law_top", "_law_bottom"] ["_law_bag_here"] (defScope s_law_any_2) := ⟨rfl, rfl, rfl, by decide +kernel, rfl, by decide +kernel, by decide +kernel⟩
theorem ok_law_any_2 (Z : Wd FA FN TB K mg) : FnG PR w K mg base 35 "_law_any" 1 f_law_any_2 := by
  have sc := sc_law_any_2
  refine fng_of (d := b_law_any_2) Z.c 16 rfl (Z.gl 28 rfl) sc (k := 34) (by decide) rfl (fun _ _ _ _ _ _ us hl => match us, hl with | [_], _ => rfl) fun f cdv A outer s H E hr hx => ?_
  have tk := tk_of (P := PR) (w := w) (K := K) (mg := mg) (base := base) (N := ["_law_bag_here", "_law_way", "_law_top", "_law_bottom"]) (qual := "_law_any") (scope := defScope s_law_any_2) (f := f) (cdv := cdv) (A := A) (outer := outer) (s := s) (H := H) (E := E)
  exact (gs_cons (gs_set 1 sc.nd rfl (.inl rfl) (ge_call (ok_law_take Z) rfl (dK_len (dK_len dN_len)) (hr.mono (by decide)) rfl tk (ga_cons (ge_var 0) (ga_cons ge_int ga_nil)))) (gs_cons (gs_if (gt_eq hr.units (ge_var 1) ge_int) (gs_one (gs_ret (ge_call (ok_law_number Z) rfl (dK_len (dK_len dN_len)) (hr.mono (by decide)) rfl tk (ga_cons (ge_var 0) (ga_cons ge_int ga_nil))))) gs_nil) (gs_cons (gs_if (gt_eq hr.units (ge_var 1) ge_int) (gs_one (gs_ret (ge_call (ok_law_number Z) rfl (dK_len (dK_len dN_len)) (hr.mono (by decide)) rfl tk (ga_cons (ge_var 0) (ga_cons ge_int ga_nil))))) gs_nil) (gs_cons (gs_set 2 sc.nd rfl (.inl rfl) (ge_intT hx rfl (Z.fr 1 rfl) (ge_add (ge_repS ge_str (ge_call (ok_law_take Z) rfl (dK_len (dK_len dN_len)) (hr.mono (by decide)) rfl tk (ga_cons (ge_var 0) (ga_cons ge_int ga_nil)))) (ge_str1 hx rfl (Z.fr 6 rfl) (ge_call (ok_law_take Z) rfl (dK_len (dK_len dN_len)) (hr.mono (by decide)) rfl tk (ga_cons (ge_var 0) (ga_cons ge_int ga_nil))))))) (gs_cons (gs_if (gt_eq hr.units (ge_var 1) ge_int) (gs_one (gs_set 2 sc.nd rfl (.inl rfl) (ge_intT hx rfl (Z.fr 1 rfl) (ge_add (ge_repS ge_str (ge_call (ok_law_take Z) rfl (dK_len (dK_len dN_len)) (hr.mono (by decide)) rfl tk (ga_cons (ge_var 0) (ga_cons ge_int ga_nil)))) ge_str)))) gs_nil) (gs_cons (gs_set 3 sc.nd rfl (.inl rfl) (ge_intT hx rfl (Z.fr 1 rfl) (ge_add (ge_add ge_str (ge_repS ge_str (ge_call (ok_law_take Z) rfl (dK_len (dK_len dN_len)) (hr.mono (by decide)) rfl tk (ga_cons (ge_var 0) (ga_cons ge_int ga_nil))))) (ge_str1 hx rfl (Z.fr 6 rfl) (ge_call (ok_law_take Z) rfl (dK_len (dK_len dN_len)) (hr.mono (by decide)) rfl tk (ga_cons (ge_var 0) (ga_cons ge_int ga_nil))))))) (gs_cons (gs_if (gt_eq hr.units (ge_call (ok_law_take Z) rfl (dK_len (dK_len dN_len)) (hr.mono (by decide)) rfl tk (ga_cons (ge_var 0) (ga_cons ge_int ga_nil))) ge_int) (gs_one (gs_set 3 sc.nd rfl (.inl rfl) (ge_intT hx rfl (Z.fr 1 rfl) (ge_repS ge_str (ge_add ge_int (ge_call (ok_law_take Z) rfl (dK_len (dK_len dN_len)) (hr.mono (by decide)) rfl tk (ga_cons (ge_var 0) (ga_cons ge_int ga_nil)))))))) gs_nil) (gs_one (gs_ret (ge_call (ok_law_low Z) rfl (dK_len (dK_len dN_len)) (hr.mono (by decide)) rfl tk (ga_cons (ge_item (ge_lst (ga_cons (ge_var 2) (ga_cons (ge_neg (ge_var 2)) ga_nil))) (ge_call (ok_law_take Z) rfl (dK_len (dK_len dN_len)) (hr.mono (by decide)) rfl tk (ga_cons (ge_var 0) (ga_cons ge_int ga_nil)))) (ga_cons (ge_item (ge_lst (ga_cons (ge_var 3) (ga_cons ge_int ga_nil))) (ge_callTy call_int1 int_d (by decide +kernel) rfl (Z.fr 1 rfl) (ga_cons (ge_eq hr.units (ge_call (ok_law_take Z) rfl (dK_len (dK_len dN_len)) (hr.mono (by decide)) rfl tk (ga_cons (ge_var 0) (ga_cons ge_int ga_nil))) ge_int) ga_nil))) ga_nil))))))))))))
theorem sc_read_row : FnScope ["text", "word"] ["text"] (defScope s_read_row) := ⟨rfl, rfl, rfl, by decide +kernel, rfl, by decide +kernel, by decide +kernel⟩
theorem ok_read_row (Z : Wd FA FN TB K mg) : FnG PR w K mg base 36 "read_row" 1 f_read_row := by
  have sc := sc_read_row
  refine fng_of (d := b_read_row) Z.c 7 rfl (Z.gl 19 rfl) sc (k := 35) (by decide) rfl (fun _ _ _ _ _ _ us hl => match us, hl with | [_], _ => rfl) fun f cdv A outer s H E hr hx => ?_
  have tk := tk_of (P := PR) (w := w) (K := K) (mg := mg) (base := base) (N := ["text", "word"]) (qual := "read_row") (scope := defScope s_read_row) (f := f) (cdv := cdv) (A := A) (outer := outer) (s := s) (H := H) (E := E)
  exact (gs_cons (gs_if (gt_not (gt_val (ge_isi rfl (Z.fr 0 rfl) rfl (Z.fr 6 rfl) (by decide +kernel) (ge_var 0)))) (gs_one gs_bad) gs_nil) (gs_cons (gs_if (gt_eq hr.units (ge_var 0) ge_str) (gs_one (gs_ret (ge_lst ga_nil))) gs_nil) (gs_one (gs_ret (ge_lc (own := [("word", 1)]) rfl sc.nd (gi_walk (ge_split (ge_var 0) ge_str)) (blkOk_by (by kernel_rfl)) (fun _ _ _ _ _ => (gp_name 1 sc.nd rfl (.inl rfl))) (fun s1 H1 C1 cl1 fp1 => have tk := @takes0; gts_nil) (fun s1 H1 C1 cl1 fp1 => have tk := @takes0; (ge_call (ok_read_number Z) rfl (dK_len dN_len) (hr.mono (by decide)) rfl tk (ga_cons (ge_var 1) ga_nil))))))))
theorem sc_law_number_right : FnScope ["_law_one", "_law_text", "_law_told", "_law_found"] ["_law_one"] (defScope s_law_number_right) := ⟨rfl, rfl, rfl, by decide +kernel, rfl, by decide +kernel, by decide +kernel⟩
theorem ok_law_number_right (Z : Wd FA FN TB K mg) : FnG PR w K mg base 36 "_law_number_right" 1 f_law_number_right := by
  have sc := sc_law_number_right
  refine fng_of (d := b_law_number_right) Z.c 17 rfl (Z.gl 29 rfl) sc (k := 35) (by decide) rfl (fun _ _ _ _ _ _ us hl => match us, hl with | [_], _ => rfl) fun f cdv A outer s H E hr hx => ?_
  have tk := tk_of (P := PR) (w := w) (K := K) (mg := mg) (base := base) (N := ["_law_one", "_law_text", "_law_told", "_law_found"]) (qual := "_law_number_right") (scope := defScope s_law_number_right) (f := f) (cdv := cdv) (A := A) (outer := outer) (s := s) (H := H) (E := E)
  exact (gs_cons (gs_set 1 sc.nd rfl (.inl rfl) (ge_call (ok_law_number_text Z) rfl (dK_len dN_len) (hr.mono (by decide)) rfl tk (ga_cons (ge_var 0) ga_nil))) (gs_cons (gs_set 2 sc.nd rfl (.inl rfl) (ge_call (ok_show_number Z) rfl (dK_len dN_len) (hr.mono (by decide)) rfl tk (ga_cons (ge_var 0) ga_nil))) (gs_cons (gs_if (gt_w (gw_or (gt_not (gt_val (ge_isi rfl (Z.fr 0 rfl) rfl (Z.fr 6 rfl) (by decide +kernel) (ge_var 2)))) (gw_or1 (gt_ne hr.units (ge_var 2) (ge_var 1))))) (gs_one (gs_ret ge_bl)) gs_nil) (gs_cons (gs_set 3 sc.nd rfl (.inl rfl) (ge_call (ok_read_number Z) rfl (dK_len dN_len) (hr.mono (by decide)) rfl tk (ga_cons (ge_var 1) ga_nil))) (gs_one (gs_ret (ge_and (ge_call (ok_law_is_number Z) rfl (dK_len dN_len) (hr.mono (by decide)) rfl tk (ga_cons (ge_var 3) ga_nil)) (ge_one (ge_eq hr.units (ge_var 3) (ge_var 0))))))))))
theorem sc_law_row_right : FnScope ["_law_row", "_law_kept", "_law_text", "_law_told", "_law_found"] ["_law_row"] (defScope s_law_row_right) := ⟨rfl, rfl, rfl, by decide +kernel, rfl, by decide +kernel, by decide +kernel⟩
theorem ok_law_row_right (Z : Wd FA FN TB K mg) : FnG PR w K mg base 37 "_law_row_right" 1 f_law_row_right := by
  have sc := sc_law_row_right
  refine fng_of (d := b_law_row_right) Z.c 18 rfl (Z.gl 30 rfl) sc (k := 36) (by decide) rfl (fun _ _ _ _ _ _ us hl => match us, hl with | [_], _ => rfl) fun f cdv A outer s H E hr hx => ?_
  have tk := tk_of (P := PR) (w := w) (K := K) (mg := mg) (base := base) (N := ["_law_row", "_law_kept", "_law_text", "_law_told", "_law_found"]) (qual := "_law_row_right") (scope := defScope s_law_row_right) (f := f) (cdv := cdv) (A := A) (outer := outer) (s := s) (H := H) (E := E)
  exact (gs_cons (gs_set 1 sc.nd rfl (.inl rfl) (ge_callTy call_list_of list_d (by decide +kernel) rfl (Z.fr 10 rfl) (ga_cons (ge_var 0) ga_nil))) (gs_cons (gs_set 2 sc.nd rfl (.inl rfl) (ge_call (ok_law_row_text Z) rfl (dK_len dN_len) (hr.mono (by decide)) rfl tk (ga_cons (ge_var 0) ga_nil))) (gs_cons (gs_set 3 sc.nd rfl (.inl rfl) (ge_call (ok_show_row Z) rfl (dK_len dN_len) (hr.mono (by decide)) rfl tk (ga_cons (ge_var 0) ga_nil))) (gs_cons (gs_if (gt_w (gw_or (gt_not (gt_val (ge_isi rfl (Z.fr 0 rfl) rfl (Z.fr 6 rfl) (by decide +kernel) (ge_var 3)))) (gw_or (gt_ne hr.units (ge_var 3) (ge_var 2)) (gw_or1 (gt_ne hr.units (ge_var 0) (ge_var 1)))))) (gs_one (gs_ret ge_bl)) gs_nil) (gs_cons (gs_set 4 sc.nd rfl (.inl rfl) (ge_call (ok_read_row Z) rfl (dK_len dN_len) (hr.mono (by decide)) rfl tk (ga_cons (ge_var 2) ga_nil))) (gs_cons (gs_if (gt_w (gw_or (gt_not (gt_val (ge_call (ok_law_is_row Z) rfl (dK_len (dK_len dN_len)) (hr.mono (by decide)) rfl tk (ga_cons (ge_var 4) (ga_cons (ge_callB call_len len_d (by decide +kernel) rfl (Z.fr 5 rfl) (ga_cons (ge_var 0) ga_nil)) ga_nil))))) (gw_or1 (gt_ne hr.units (ge_var 4) (ge_var 0))))) (gs_one (gs_ret ge_bl)) gs_nil) (gs_cons (gs_expr (ge_met1 PySem.F.slot_list_append PySem.F.type_list_append mt_append ap_d (ge_var 4) ge_non)) (gs_one (gs_ret ge_bl)))))))))
theorem sc_law : FnScope ["_law_script", "_law_bag_here", "_law_rows", "_law_row", "_law_one", "_law_k"] ["_law_script"] (defScope s_law) := ⟨rfl, rfl, rfl, by decide +kernel, rfl, by decide +kernel, by decide +kernel⟩
theorem ok_law (Z : Wd FA FN TB K mg) (f : Addr) (fd : FuncData) (FD : FunD K "law" "law" (defArgs s_law) (defBody s_law) (defScope s_law) [] [] f fd) : FnOk PR w K mg base (L2.CX PR w) 38 f fd ["_law_script"] (spF K 1 f_law) := by
  have sc := sc_law
  refine fn_body (N := ["_law_script", "_law_bag_here", "_law_rows", "_law_row", "_law_one", "_law_k"]) (ps := ["_law_script"]) (d := b_law) FD sc (k := 37) (by decide) Z.c.s rfl fun cdv A outer s H E hr hx => ?_
  have tk := tk_of (P := PR) (w := w) (K := K) (mg := mg) (base := base) (N := ["_law_script", "_law_bag_here", "_law_rows", "_law_row", "_law_one", "_law_k"]) (qual := "law") (scope := defScope s_law) (f := f) (cdv := cdv) (A := A) (outer := outer) (s := s) (H := H) (E := E)
  exact (gs_cons (gs_set 1 sc.nd rfl (.inr rfl) (ge_call (ok_law_bag Z) rfl (dK_len dN_len) (hr.mono (by decide)) rfl tk (ga_cons (ge_var 0) ga_nil))) (gs_cons (gs_set 2 sc.nd rfl (.inl rfl) (ge_lst (ga_cons (ge_lst ga_nil) (ga_cons (ge_lc (own := [("_law_k", 5)]) rfl sc.nd (gi_rng1 rfl (Z.fr 11 rfl) (ga_cons (ge_call (ok_law_take Z) rfl (dK_len (dK_len dN_len)) (hr.mono (by decide)) rfl tk (ga_cons (ge_var 1) (ga_cons ge_int ga_nil))) ga_nil)) (blkOk_by (by kernel_rfl)) (fun _ _ _ _ _ => (gp_name 5 sc.nd rfl (.inl rfl))) (fun s1 H1 C1 cl1 fp1 => have tk := @takes0; gts_nil) (fun s1 H1 C1 cl1 fp1 => have tk := @takes0; (ge_call (ok_law_any_2 Z) rfl (dK_len dN_len) (hr.mono (by decide)) rfl tk (ga_cons (ge_var 1) ga_nil)))) ga_nil)))) (gs_cons (gs_expr (ge_met1 PySem.F.slot_list_append PySem.F.type_list_append mt_append ap_d (ge_var 2) (ge_lc (own := [("_law_k", 5)]) rfl sc.nd (gi_rng1 rfl (Z.fr 11 rfl) (ga_cons (ge_call (ok_law_take Z) rfl (dK_len (dK_len dN_len)) (hr.mono (by decide)) rfl tk (ga_cons (ge_var 1) (ga_cons ge_int ga_nil))) ga_nil)) (blkOk_by (by kernel_rfl)) (fun _ _ _ _ _ => (gp_name 5 sc.nd rfl (.inl rfl))) (fun s1 H1 C1 cl1 fp1 => have tk := @takes0; gts_nil) (fun s1 H1 C1 cl1 fp1 => have tk := @takes0; (ge_call (ok_law_number Z) rfl (dK_len (dK_len dN_len)) (hr.mono (by decide)) rfl tk (ga_cons (ge_var 1) (ga_cons ge_int ga_nil))))))) (gs_cons (gs_for po_of rfl (gi_walk (ge_lst (ga_cons (ge_item (ge_var 2) ge_int) (ga_cons (ge_item (ge_var 2) ge_int) (ga_cons (ge_item (ge_var 2) ge_int) (ga_cons (ge_item (ge_var 2) ge_int) ga_nil)))))) (gg_name 3 sc.nd rfl (.inl rfl)) (gs_one (gs_if (gt_not (gt_val (ge_call (ok_law_row_right Z) rfl (dK_len dN_len) (hr.mono (by decide)) rfl tk (ga_cons (ge_var 3) ga_nil)))) (gs_one (gs_ret ge_bl)) gs_nil))) (gs_cons (gs_for po_of rfl (gi_walk (ge_add (ge_add (ge_item (ge_var 2) ge_int) (ge_item (ge_var 2) ge_int)) (ge_item (ge_var 2) ge_int))) (gg_name 4 sc.nd rfl (.inl rfl)) (gs_one (gs_if (gt_not (gt_val (ge_call (ok_law_number_right Z) rfl (dK_len dN_len) (hr.mono (by decide)) rfl tk (ga_cons (ge_var 4) ga_nil)))) (gs_one (gs_ret ge_bl)) gs_nil))) (gs_one (gs_ret ge_bl)))))))
end
mutual
def dtt : Nat → P → Bool
  | _, .non => true
  | _, .int _ => true
  | _, .str x => PyData.strOk x
  | n + 1, .tup xs => dtts n xs
  | n + 1, .nd _ .lst xs => dtts n xs
  | n + 1, .ow _ .lst xs => dtts n xs
  | _, _ => false
def dtts : Nat → List P → Bool
  | _, [] => true
  | n, x :: xs => dtt n x && dtts n xs
end
mutual
theorem dtt_py : ∀ (n : Nat) (p : P), dtt n p = true → ∃ d, pyP n p = some d ∧ PyData.canLay0 d = true ∧ d.depth ≤ n
  | n, .non, _ => ⟨.none, by rw [pyP], by rw [PyData.canLay0], by simp [PyData.depth]⟩
  | n, .int i, _ => ⟨.int i, by rw [pyP], by rw [PyData.canLay0], by simp [PyData.depth]⟩
  | n, .str x, h => ⟨.str x, by rw [pyP], by rw [PyData.canLay0]; rw [dtt] at h; exact h, by simp [PyData.depth]⟩
  | 0, .tup xs, h => by rw [dtt] at h <;> first | cases h | (intros; contradiction)
  | n + 1, .tup xs, h => by
    rw [dtt] at h
    obtain ⟨ds, h1, h2, h3⟩ := dtts_py (n + 1) n xs h (Nat.le_succ n)
    exact ⟨.tuple ds, by rw [pyP, h1]; rfl, by rw [PyData.canLay0]; exact h2, by rw [PyData.depth]; omega⟩
  | n, .nd k sh xs, h => by
    cases n <;> cases sh <;> rw [dtt] at h <;> first | (cases h; done) | (intros; contradiction) | skip
    rename_i n
    obtain ⟨ds, h1, h2, h3⟩ := dtts_py n n xs h (Nat.le_refl n)
    exact ⟨.list ds, by rw [pyP, h1]; rfl, by rw [PyData.canLay0]; exact h2, by rw [PyData.depth]; omega⟩
  | n, .ow k sh xs, h => by
    cases n <;> cases sh <;> rw [dtt] at h <;> first | (cases h; done) | (intros; contradiction) | skip
    rename_i n
    obtain ⟨ds, h1, h2, h3⟩ := dtts_py n n xs h (Nat.le_refl n)
    exact ⟨.list ds, by rw [pyP, h1]; rfl, by rw [PyData.canLay0]; exact h2, by rw [PyData.depth]; omega⟩
  | n, .bl b, h => by rw [dtt] at h <;> first | cases h | (intros; contradiction)
  | n, .scr b, h => by rw [dtt] at h <;> first | cases h | (intros; contradiction)
  | n, .hol, h => by rw [dtt] at h <;> first | cases h | (intros; contradiction)
theorem dtts_py : ∀ (m n : Nat) (p : List P), dtts n p = true → n ≤ m → ∃ d, pyPs m p = some d ∧ PyData.canLayAll0 d = true ∧ PyData.depthAll d ≤ n
  | m, n, [], _, _ => ⟨[], by rw [pyPs], by rw [PyData.canLayAll0], by simp [PyData.depthAll]⟩
  | m, n, x :: xs, h, hm => by
    rw [dtts] at h
    obtain ⟨h1, h2⟩ := Bool.and_eq_true_iff.mp h
    obtain ⟨d, q1, q2, q3⟩ := dtt_py n x h1
    obtain ⟨ds, q4, q5, q6⟩ := dtts_py m n xs h2 hm
    refine ⟨d :: ds, ?_, by rw [PyData.canLayAll0, q2, q5]; rfl, by rw [PyData.depthAll]; omega⟩
    rw [pyPs, pyP_up n x q1 m hm, q4]
theorem pyP_up : ∀ (n : Nat) (p : P) {d : PyData}, pyP n p = some d → ∀ m, n ≤ m → pyP m p = some d
  | n, .non, d, h, m, _ => by rw [pyP] at h ⊢; exact h
  | n, .bl b, d, h, m, _ => by rw [pyP] at h ⊢; exact h
  | n, .int b, d, h, m, _ => by rw [pyP] at h ⊢; exact h
  | n, .str b, d, h, m, _ => by rw [pyP] at h ⊢; exact h
  | n, .scr b, d, h, m, _ => by rw [pyP] at h ⊢; exact h
  | n, .hol, d, h, m, _ => by rw [pyP] at h <;> first | cases h | (intros; contradiction)
  | n, .tup xs, d, h, m, hm => by
    rw [pyP] at h ⊢
    obtain ⟨ds, h1, rfl⟩ := Option.map_eq_some_iff.mp h
    rw [pyPs_up n xs h1 m hm]
    rfl
  | n, .nd k sh xs, d, h, m, hm => by
    cases n <;> cases sh <;> rw [pyP] at h <;> first | (cases h; done) | (intros; contradiction) | skip
    rename_i n
    obtain ⟨ds, h1, rfl⟩ := Option.map_eq_some_iff.mp h
    obtain ⟨m, rfl⟩ : ∃ k, m = k + 1 := ⟨m - 1, by omega⟩
    rw [pyP, pyPs_up n xs h1 m (by omega)]
    rfl
  | n, .ow k sh xs, d, h, m, hm => by
    cases n <;> cases sh <;> rw [pyP] at h <;> first | (cases h; done) | (intros; contradiction) | skip
    rename_i n
    obtain ⟨ds, h1, rfl⟩ := Option.map_eq_some_iff.mp h
    obtain ⟨m, rfl⟩ : ∃ k, m = k + 1 := ⟨m - 1, by omega⟩
    rw [pyP, pyPs_up n xs h1 m (by omega)]
    rfl
theorem pyPs_up : ∀ (n : Nat) (p : List P) {d : List PyData}, pyPs n p = some d → ∀ m, n ≤ m → pyPs m p = some d
  | n, [], d, h, m, _ => by rw [pyPs] at h ⊢; exact h
  | n, x :: xs, d, h, m, hm => by
    rw [pyPs] at h ⊢
    cases e1 : pyP n x with
    | none => rw [e1] at h; cases h
    | some y =>
      cases e2 : pyPs n xs with
      | none => rw [e1, e2] at h; cases h
      | some ys =>
        rw [e1, e2] at h
        rw [pyP_up n x e1 m hm, pyPs_up n xs e2 m hm]
        exact h
end
mutual
def nbl : PyData → Bool
  | .none => true
  | .int _ => true
  | .str _ => true
  | .list xs => nbls xs
  | .tuple xs => nbls xs
  | .bool _ => false
  | .dict _ => false
def nbls : List PyData → Bool
  | [] => true
  | x :: xs => nbl x && nbls xs
end
mutual
theorem eqv_eq : ∀ (d e : PyData), nbl d = true → nbl e = true → (PyData.eqv d e = true ↔ d = e)
  | .none, e, _, h => by cases e <;> simp [PyData.eqv]
  | .int i, e, _, h => by cases e <;> first | (rw [nbl] at h; cases h; done) | simp [PyData.eqv]
  | .str i, e, _, h => by cases e <;> simp [PyData.eqv]
  | .bool i, e, h, _ => by rw [nbl] at h; cases h
  | .dict i, e, h, _ => by rw [nbl] at h; cases h
  | .list xs, e, h, h' => by
    rw [nbl] at h
    cases e <;> first | (simp [PyData.eqv]; done) | skip
    rename_i ys
    rw [nbl] at h'
    rw [PyData.eqv, eqvs_eq xs ys h h']
    simp
  | .tuple xs, e, h, h' => by
    rw [nbl] at h
    cases e <;> first | (simp [PyData.eqv]; done) | skip
    rename_i ys
    rw [nbl] at h'
    rw [PyData.eqv, eqvs_eq xs ys h h']
    simp
theorem eqvs_eq : ∀ (d e : List PyData), nbls d = true → nbls e = true → (PyData.eqvAll d e = true ↔ d = e)
  | [], e, _, h => by cases e <;> simp [PyData.eqvAll]
  | x :: xs, e, h, h' => by
    cases e with
    | nil => simp [PyData.eqvAll]
    | cons y ys =>
      rw [nbls] at h h'
      obtain ⟨h1, h2⟩ := Bool.and_eq_true_iff.mp h
      obtain ⟨h3, h4⟩ := Bool.and_eq_true_iff.mp h'
      rw [PyData.eqvAll, Bool.and_eq_true, eqv_eq x y h1 h3, eqvs_eq xs ys h2 h4, List.cons.injEq]
end
mutual
def dec : PyData → P
  | .none => .non
  | .int i => .int i
  | .str x => .str x
  | .list xs => .nd false .lst (decs xs)
  | .tuple xs => .tup (decs xs)
  | .bool b => .bl b
  | .dict _ => .non
def decs : List PyData → List P
  | [] => []
  | x :: xs => dec x :: decs xs
end
mutual
def enc : P → PyData
  | .non => .none
  | .int i => .int i
  | .str x => .str x
  | .nd _ _ xs => .list (encs xs)
  | .ow _ _ xs => .list (encs xs)
  | .tup xs => .tuple (encs xs)
  | .bl b => .bool b
  | .scr _ => .none
  | .hol => .none
def encs : List P → List PyData
  | [] => []
  | x :: xs => enc x :: encs xs
end
mutual
theorem dtt_enc : ∀ (n : Nat) (p : P) {d : PyData}, dtt n p = true → ∀ m, pyP m p = some d → nbl d = true ∧ dec d = vw p ∧ enc (vw p) = d
  | n, .non, d, h, m, e => by rw [pyP] at e; cases e; exact ⟨rfl, rfl, rfl⟩
  | n, .int i, d, h, m, e => by rw [pyP] at e; cases e; exact ⟨rfl, rfl, rfl⟩
  | n, .str i, d, h, m, e => by rw [pyP] at e; cases e; exact ⟨rfl, rfl, rfl⟩
  | n, .bl b, d, h, m, e => by rw [dtt] at h <;> first | cases h | (intros; contradiction)
  | n, .scr b, d, h, m, e => by rw [dtt] at h <;> first | cases h | (intros; contradiction)
  | n, .hol, d, h, m, e => by rw [dtt] at h <;> first | cases h | (intros; contradiction)
  | n, .tup xs, d, h, m, e => by
    cases n <;> rw [dtt] at h <;> first | (cases h; done) | (intros; contradiction) | skip
    rename_i n
    rw [pyP] at e
    obtain ⟨ds, h1, rfl⟩ := Option.map_eq_some_iff.mp e
    obtain ⟨q1, q2, q3⟩ := dtts_enc n xs h m h1
    exact ⟨by rw [nbl]; exact q1, by rw [dec, vw, q2], by rw [vw, enc, q3]⟩
  | n, .nd k sh xs, d, h, m, e => by
    cases n <;> cases sh <;> rw [dtt] at h <;> first | (cases h; done) | (intros; contradiction) | skip
    rename_i n
    cases m <;> rw [pyP] at e <;> first | (cases e; done) | (intros; contradiction) | skip
    rename_i m
    obtain ⟨ds, h1, rfl⟩ := Option.map_eq_some_iff.mp e
    obtain ⟨q1, q2, q3⟩ := dtts_enc n xs h m h1
    exact ⟨by rw [nbl]; exact q1, by rw [dec, vw, q2], by rw [vw, enc, q3]⟩
  | n, .ow k sh xs, d, h, m, e => by
    cases n <;> cases sh <;> rw [dtt] at h <;> first | (cases h; done) | (intros; contradiction) | skip
    rename_i n
    cases m <;> rw [pyP] at e <;> first | (cases e; done) | (intros; contradiction) | skip
    rename_i m
    obtain ⟨ds, h1, rfl⟩ := Option.map_eq_some_iff.mp e
    obtain ⟨q1, q2, q3⟩ := dtts_enc n xs h m h1
    exact ⟨by rw [nbl]; exact q1, by rw [dec, vw, q2], by rw [vw, enc, q3]⟩
theorem dtts_enc : ∀ (n : Nat) (p : List P) {d : List PyData}, dtts n p = true → ∀ m, pyPs m p = some d → nbls d = true ∧ decs d = vws p ∧ encs (vws p) = d
  | n, [], d, h, m, e => by rw [pyPs] at e; cases e; exact ⟨rfl, rfl, rfl⟩
  | n, x :: xs, d, h, m, e => by
    rw [dtts] at h
    obtain ⟨h1, h2⟩ := Bool.and_eq_true_iff.mp h
    rw [pyPs] at e
    cases e1 : pyP m x with
    | none => rw [e1] at e; cases e
    | some y =>
      cases e2 : pyPs m xs with
      | none => rw [e1, e2] at e; cases e
      | some ys =>
        rw [e1, e2] at e
        cases e
        obtain ⟨q1, q2, q3⟩ := dtt_enc n x h1 m e1
        obtain ⟨q4, q5, q6⟩ := dtts_enc n xs h2 m e2
        exact ⟨by rw [nbls, q1, q4]; rfl, by rw [decs, vws, q2, q5], by rw [vws, encs, q3, q6]⟩
end
open Classical in
theorem eqQ_dtt {p q : P} (hp : dtt 8 p = true) (hq : dtt 8 q = true) : eqQ p q = some (decide (vw p = vw q)) := by
  obtain ⟨d, h1, h2, h3⟩ := dtt_py 8 p hp
  obtain ⟨e, h4, h5, h6⟩ := dtt_py 8 q hq
  obtain ⟨q1, q2, q3⟩ := dtt_enc 8 p hp 8 h1
  obtain ⟨q4, q5, q6⟩ := dtt_enc 8 q hq 8 h4
  unfold eqQ
  rw [h1, h4]
  have s1 : SeqAt.shaped d = true := by
    unfold SeqAt.shaped
    rw [h2, decide_eq_true (by omega)]
    rfl
  have s2 : SeqAt.shaped e = true := by
    unfold SeqAt.shaped
    rw [h5, decide_eq_true (by omega)]
    rfl
  dsimp only
  rw [s1, s2]
  show some (PyData.eqv d e) = _
  congr 1
  have i := eqv_eq d e q1 q4
  by_cases h : vw p = vw q
  · rw [decide_eq_true h]
    exact i.mpr (by rw [← q3, ← q6, h])
  · rw [decide_eq_false h]
    cases z : PyData.eqv d e with
    | false => rfl
    | true =>
      exfalso
      apply h
      rw [← q2, ← q5, i.mp z]
def nP (q : Rat) : P := .tup [.int q.num, .int (q.den : Int)]
def nPs (qs : List Rat) : List P := qs.map nP
def gPs (k : Bool) (g : List (List Rat)) : List P := g.map fun r => .nd k .lst (nPs r)
def oPs (k : Bool) (g : List (List Rat)) : List P := g.map fun r => .ow k .lst (nPs r)
theorem noo_nP (q : Rat) : noo (nP q) = true := rfl
theorem nob_nP (q : Rat) : nob (nP q) = true := rfl
theorem noN_nP (q : Rat) : noN (nP q) = true := rfl
theorem fr_nP (q : Rat) : fr (nP q) = nP q := rfl
theorem vw_nP (q : Rat) : vw (nP q) = nP q := rfl
theorem vi_nP (q : Rat) : vi (nP q) = nP q := rfl
theorem nP_inj {p q : Rat} (h : nP p = nP q) : p = q := by
  have h' : P.tup [.int p.num, .int (p.den : Int)] = .tup [.int q.num, .int (q.den : Int)] := h
  injection h' with h1
  injection h1 with h2 h3
  injection h3 with h4 _
  injection h2 with h5
  injection h4 with h6
  exact Rat.ext h5 (by omega)
section
variable (k k2 : Bool)
theorem noos_nPs : ∀ qs, noos (nPs qs) = true
  | [] => rfl
  | _ :: qs => noos_nPs qs
theorem nobs_nPs : ∀ qs, nobs (nPs qs) = true
  | [] => rfl
  | _ :: qs => nobs_nPs qs
theorem noNs_nPs : ∀ qs, noNs (nPs qs) = true
  | [] => rfl
  | _ :: qs => noNs_nPs qs
theorem frs_nPs : ∀ qs, frs (nPs qs) = nPs qs
  | [] => rfl
  | q :: qs => congrArg (nP q :: ·) (frs_nPs qs)
theorem vws_nPs : ∀ qs, vws (nPs qs) = nPs qs
  | [] => rfl
  | q :: qs => congrArg (nP q :: ·) (vws_nPs qs)
theorem vis_nPs : ∀ qs, vis (nPs qs) = nPs qs
  | [] => rfl
  | q :: qs => congrArg (nP q :: ·) (vis_nPs qs)
theorem noos_gPs : ∀ g, noos (gPs k g) = true
  | [] => rfl
  | r :: g => by
    show (noos (nPs r) && noos (gPs k g)) = true
    rw [noos_nPs, noos_gPs g]
    rfl
theorem nobs_oPs : ∀ g, nobs (oPs true g) = true
  | [] => rfl
  | r :: g => by
    show ((true && nobs (nPs r)) && nobs (oPs true g)) = true
    rw [nobs_nPs, nobs_oPs g]
    rfl
theorem nobs_gPs : ∀ g, nobs (gPs true g) = true
  | [] => rfl
  | r :: g => by
    show ((true && nobs (nPs r)) && nobs (gPs true g)) = true
    rw [nobs_nPs, nobs_gPs g]
    rfl
theorem frs_oPs : ∀ g, frs (oPs k g) = gPs k g
  | [] => rfl
  | r :: g => by
    show P.nd k .lst (frs (nPs r)) :: frs (oPs k g) = _
    rw [frs_nPs, frs_oPs g]
    rfl
theorem frs_gPs : ∀ g, frs (gPs k g) = gPs k g
  | [] => rfl
  | r :: g => by
    show P.nd k .lst (frs (nPs r)) :: frs (gPs k g) = _
    rw [frs_nPs, frs_gPs g]
    rfl
theorem vws_oPs : ∀ g, vws (oPs k g) = gPs false g
  | [] => rfl
  | r :: g => by
    show P.nd false .lst (vws (nPs r)) :: vws (oPs k g) = _
    rw [vws_nPs, vws_oPs g]
    rfl
theorem vws_gPs : ∀ g, vws (gPs k g) = gPs false g
  | [] => rfl
  | r :: g => by
    show P.nd false .lst (vws (nPs r)) :: vws (gPs k g) = _
    rw [vws_nPs, vws_gPs g]
    rfl
theorem nPs_len (qs) : (nPs qs).length = qs.length := List.length_map ..
theorem gPs_len (g) : (gPs k g).length = g.length := List.length_map ..
theorem oPs_len (g) : (oPs k g).length = g.length := List.length_map ..
end
theorem nPs_inj : ∀ {a b : List Rat}, nPs a = nPs b → a = b
  | [], [], _ => rfl
  | [], _ :: _, h => nomatch h
  | _ :: _, [], h => nomatch h
  | p :: a, q :: b, h => by
    injection h with h1 h2
    rw [nP_inj h1, nPs_inj h2]
theorem gPs_inj : ∀ {a b : List (List Rat)}, gPs false a = gPs false b → a = b
  | [], [], _ => rfl
  | [], _ :: _, h => nomatch h
  | _ :: _, [], h => nomatch h
  | p :: a, q :: b, h => by
    injection h with h1 h2
    injection h1 with _ _ h3
    rw [nPs_inj h3, gPs_inj h2]
theorem dtt_nP {n : Nat} (q : Rat) : dtt (n + 1) (nP q) = true := by
  show dtt (n + 1) (.tup [.int q.num, .int (q.den : Int)]) = true
  rw [dtt, dtts, dtts, dtts, dtt, dtt]
  rfl
theorem dtts_nPs {n : Nat} : ∀ qs : List Rat, dtts (n + 1) (nPs qs) = true
  | [] => rfl
  | q :: qs => by
    show dtts (n + 1) (nP q :: nPs qs) = true
    rw [dtts, dtt_nP, dtts_nPs qs]
    rfl
theorem dtts_gPs {n : Nat} {k : Bool} : ∀ g : List (List Rat), dtts (n + 2) (gPs k g) = true
  | [] => rfl
  | r :: g => by
    show dtts (n + 2) (.nd k .lst (nPs r) :: gPs k g) = true
    rw [dtts, dtts_gPs g, dtt, dtts_nPs]
    rfl
theorem dtts_oPs {n : Nat} {k : Bool} : ∀ g : List (List Rat), dtts (n + 2) (oPs k g) = true
  | [] => rfl
  | r :: g => by
    show dtts (n + 2) (.ow k .lst (nPs r) :: oPs k g) = true
    rw [dtts, dtts_oPs g, dtt, dtts_nPs]
    rfl
theorem eqQ_num (p q : Rat) : eqQ (nP p) (nP q) = some (decide (p = q)) := by
  rw [eqQ_dtt (dtt_nP p) (dtt_nP q)]
  congr 1
  rw [decide_eq_decide]
  exact ⟨nP_inj, fun h => by rw [h]⟩
theorem eqQ_row (k k2 : Bool) (a b : List Rat) : eqQ (.nd k .lst (nPs a)) (.nd k2 .lst (nPs b)) = some (decide (a = b)) := by
  rw [eqQ_dtt (by rw [dtt, dtts_nPs]) (by rw [dtt, dtts_nPs])]
  congr 1
  rw [decide_eq_decide, vw, vw, vws_nPs, vws_nPs]
  constructor
  · intro h
    injection h with _ _ h
    exact nPs_inj h
  · exact fun h => by rw [h]
theorem eqQ_grid (k k2 k3 k4 : Bool) (a b : List (List Rat)) : eqQ (.nd k .lst (gPs k2 a)) (.nd k3 .lst (gPs k4 b)) = some (decide (a = b)) := by
  rw [eqQ_dtt (by rw [dtt, dtts_gPs]) (by rw [dtt, dtts_gPs])]
  congr 1
  rw [decide_eq_decide, vw, vw, vws_gPs, vws_gPs]
  constructor
  · intro h
    injection h with _ _ h
    exact gPs_inj h
  · exact fun h => by rw [h]
theorem eqQ_int (i j : Int) : eqQ (.int i) (.int j) = some (decide (i = j)) := rfl
theorem nobX_none (c : Str) : nobX ⟨c, none⟩ = true := rfl
theorem nobX_some (c f : Str) (p : P) : nobX ⟨c, some (f, p)⟩ = nob p := rfl
theorem ixN_nat {n j : Nat} (h : j < n) : ixN n (j : Int) = some j := by
  unfold ixN
  rw [if_pos (by omega), if_pos (by omega)]
  simp
theorem atP_nat {ds : List P} {j : Nat} {d : P} (h : ds[j]? = some d) : atP ds (j : Int) = some d := by
  unfold atP
  rw [ixN_nat (List.getElem?_eq_some_iff.mp h).1]
  exact h
theorem atP_0 (a : P) (r : List P) : atP (a :: r) 0 = some a := atP_nat (ds := a :: r) (j := 0) rfl
theorem atP_1 (a b : P) (r : List P) : atP (a :: b :: r) 1 = some b := atP_nat (ds := a :: b :: r) (j := 1) rfl
theorem atP_2 (a b c : P) (r : List P) : atP (a :: b :: c :: r) 2 = some c := atP_nat (ds := a :: b :: c :: r) (j := 2) rfl
theorem atP_3 (a b c d : P) (r : List P) : atP (a :: b :: c :: d :: r) 3 = some d := atP_nat (ds := a :: b :: c :: d :: r) (j := 3) rfl
theorem ixP_t0 (a : P) (r : List P) : ixP [.tup (a :: r), .int 0] = some a := atP_nat (ds := a :: r) (j := 0) rfl
theorem ixP_t1 (a b : P) (r : List P) : ixP [.tup (a :: b :: r), .int 1] = some b := atP_nat (ds := a :: b :: r) (j := 1) rfl
theorem ixP_t2 (a b c : P) (r : List P) : ixP [.tup (a :: b :: c :: r), .int 2] = some c := atP_nat (ds := a :: b :: c :: r) (j := 2) rfl
theorem ixP_n0 (q : Rat) : ixP [nP q, .int 0] = some (.int q.num) := ixP_t0 _ _
theorem ixP_n1 (q : Rat) : ixP [nP q, .int 1] = some (.int (q.den : Int)) := ixP_t1 _ _ _
theorem ixP_l0 (k : Bool) (a : P) (r : List P) : ixP [.nd k .lst (a :: r), .int 0] = some a := atP_nat (ds := a :: r) (j := 0) rfl
theorem ixP_l1 (k : Bool) (a b : P) (r : List P) : ixP [.nd k .lst (a :: b :: r), .int 1] = some b := atP_nat (ds := a :: b :: r) (j := 1) rfl
theorem ixP_l2 (k : Bool) (a b c : P) (r : List P) : ixP [.nd k .lst (a :: b :: c :: r), .int 2] = some c := atP_nat (ds := a :: b :: c :: r) (j := 2) rfl
theorem ixP_l3 (k : Bool) (a b c d : P) (r : List P) : ixP [.nd k .lst (a :: b :: c :: d :: r), .int 3] = some d := atP_nat (ds := a :: b :: c :: d :: r) (j := 3) rfl
theorem atP_n0 (q : Rat) : (seqP (nP q)).bind (fun xs => atP xs 0) = some (.int q.num) := atP_nat (ds := [.int q.num, .int (q.den : Int)]) (j := 0) rfl
theorem atP_n1 (q : Rat) : (seqP (nP q)).bind (fun xs => atP xs 1) = some (.int (q.den : Int)) := atP_nat (ds := [.int q.num, .int (q.den : Int)]) (j := 1) rfl
theorem lenP_l (k : Bool) (xs : List P) : lenP [.nd k .lst xs] = some (.int xs.length) := rfl
theorem lenP_o (k : Bool) (xs : List P) : lenP [.ow k .lst xs] = some (.int xs.length) := rfl
theorem lenP_t (xs : List P) : lenP [.tup xs] = some (.int xs.length) := rfl
theorem lenP_n (q : Rat) : lenP [nP q] = some (.int 2) := rfl
theorem addP_ii (i j : Int) : addP [.int i, .int j] = some (.int (i + j)) := rfl
theorem truP_bl (b : Bool) : truP (.bl b) = some b := rfl
theorem isi_tn (q : Rat) : isiP "tuple" [nP q] = some (.bl true) := rfl
theorem isi_tt (xs : List P) : isiP "tuple" [.tup xs] = some (.bl true) := rfl
theorem isi_ll (k : Bool) (xs : List P) : isiP "list" [.nd k .lst xs] = some (.bl true) := rfl
theorem isi_lo (k : Bool) (xs : List P) : isiP "list" [.ow k .lst xs] = some (.bl true) := rfl
theorem isi_lt (xs : List P) : isiP "list" [.tup xs] = some (.bl false) := rfl
theorem isi_int (i : Int) : isiP "int" [.int i] = some (.bl true) := rfl
theorem isi_bool (i : Int) : isiP "bool" [.int i] = some (.bl false) := rfl
theorem seqP_n (q : Rat) : seqP (nP q) = some [.int q.num, .int (q.den : Int)] := rfl
theorem seqP_l (k : Bool) (xs : List P) : seqP (.nd k .lst xs) = some xs := rfl
theorem seqP_o (k : Bool) (xs : List P) : seqP (.ow k .lst xs) = some xs := rfl
theorem seqP_t (xs : List P) : seqP (.tup xs) = some xs := rfl
theorem lstP_l (k : Bool) (xs : List P) : lstP (.nd k .lst xs) = some xs := rfl
theorem lstP_o (k : Bool) (xs : List P) : lstP (.ow k .lst xs) = some xs := rfl
theorem lsP_l (k : Bool) (xs : List P) : lsP (.nd k .lst xs) = some xs := rfl
theorem lsP_o (k : Bool) (xs : List P) : lsP (.ow k .lst xs) = some xs := rfl
theorem listP_l (k : Bool) (xs : List P) : listP [.nd k .lst xs] = some (.own xs) := rfl
theorem setF_nat {q : P} {j : Nat} {xs : List P} (h : j < xs.length) : setF (j : Int) q xs = some (xs.set j q) := by
  unfold setF
  rw [ixN_nat h]
  rfl
theorem setF_0 {q z : P} {r : List P} : setF 0 q (z :: r) = some (q :: r) := setF_nat (j := 0) (by simp)
theorem setF_1 {q z s : P} {r : List P} : setF 1 q (z :: s :: r) = some (z :: q :: r) := setF_nat (j := 1) (by simp)
theorem setF_2 {q z s i : P} {r : List P} : setF 2 q (z :: s :: i :: r) = some (z :: s :: q :: r) := setF_nat (j := 2) (by simp)
theorem sz1 : ((1 : Nat) ≤ sizeLine) = True := eq_true (by decide)
theorem sz2 : ((2 : Nat) ≤ sizeLine) = True := eq_true (by decide)
theorem sz3 : ((3 : Nat) ≤ sizeLine) = True := eq_true (by decide)
theorem sz4 : ((4 : Nat) ≤ sizeLine) = True := eq_true (by decide)
theorem sz5 : ((5 : Nat) ≤ sizeLine) = True := eq_true (by decide)
theorem sz0 : ((0 : Nat) ≤ sizeLine) = True := eq_true (Nat.zero_le _)
theorem noos_ints : ∀ cs : List Int, noos (cs.map P.int) = true
  | [] => rfl
  | c :: cs => noos_ints cs
theorem nobs_ints : ∀ cs : List Int, nobs (cs.map P.int) = true
  | [] => rfl
  | c :: cs => nobs_ints cs
theorem noNs_ints : ∀ cs : List Int, noNs (cs.map P.int) = true
  | [] => rfl
  | c :: cs => noNs_ints cs
theorem vws_ints : ∀ cs : List Int, vws (cs.map P.int) = cs.map P.int
  | [] => rfl
  | c :: cs => congrArg (P.int c :: ·) (vws_ints cs)
theorem vis_ints : ∀ cs : List Int, vis (cs.map P.int) = cs.map P.int
  | [] => rfl
  | c :: cs => congrArg (P.int c :: ·) (vis_ints cs)
theorem frs_ints : ∀ cs : List Int, frs (cs.map P.int) = cs.map P.int
  | [] => rfl
  | c :: cs => congrArg (P.int c :: ·) (frs_ints cs)
local macro_rules | `(tactic| trivial) => `(tactic| simp only [gnD, endV, outsV, vSq, Vt.andThen, vIf, vAs, vRt, vRn, vEx, vNx, vBad, vBk, vCt, Vr.st, Vr.bind, vBor, vBor1, vwE, vV, vMv, vFrM1, Vt.upd, vLc, wipeV, atP_0, atP_1, atP_2, atP_3, vC, vBi, vUn, vCal, vK, vN, vCll0, vCll1, vCllT, vT, vL, vTst, vTru, vNotB, vAndB, vOrB, vNotD, vAndD, vOrD, vIfD, vPr, vgV, vgC, vgT, vgN, vFr, vRng1, vRng2, vEnu, vZp, vWalk, vSet, vMeN, vMe, vAugI, vAugV, updL, subT, repT, apF, exF, isLst, pa0, paI, vSli, vNoP, vP, vYes0, subP, mulP, modP, divP, ltP, leP, gtP, geP, iiP, tr2, negP, absP, maxP, minP, intP, eqP, neP, isP, isnP, isbP, isnbP, noo, noos, nob, nobs, fr, frs, vw, vws, vi, vis, noN, noNs, nobX_none, nobX_some, Option.map_some, Option.map_none, Option.bind_some, Option.bind_none, Option.isSome_some, List.length_cons, List.length_nil, List.map_cons, List.map_nil, List.getElem?_cons_zero, List.getElem?_cons_succ, List.getElem?_nil, List.set_cons_zero, List.set_cons_succ, List.cons_append, List.nil_append, List.replicate_succ, List.replicate_zero, Nat.sub_self, Nat.reduceSub, Nat.reduceAdd, Nat.reduceLT, Nat.reduceLeDiff, Nat.zero_lt_succ, Nat.lt_add_one, Nat.zero_add, Int.reduceEq, Int.reduceLT, Int.reduceLE, if_true, if_false, Bool.false_eq_true, reduceCtorEq, ite_true, ite_false, decide_true, decide_false, not_true_eq_false, not_false_eq_true, Bool.not_true, Bool.not_false, Bool.and_true, Bool.true_and, Bool.and_self, Bool.and_false, Bool.false_and, eq_self, and_self, and_true, true_and, isNonP, noo_nP, nob_nP, noN_nP, fr_nP, vw_nP, vi_nP, noos_nPs, nobs_nPs, noNs_nPs, frs_nPs, vws_nPs, vis_nPs, noos_gPs, nobs_oPs, nobs_gPs, frs_oPs, frs_gPs, vws_oPs, vws_gPs, nPs_len, gPs_len, oPs_len, eqQ_num, eqQ_row, eqQ_grid, eqQ_int, ixP_t0, ixP_t1, ixP_t2, ixP_n0, ixP_n1, ixP_l0, ixP_l1, ixP_l2, ixP_l3, atP_n0, atP_n1, lenP_l, lenP_o, lenP_t, lenP_n, addP_ii, truP_bl, isi_tn, isi_tt, isi_ll, isi_lo, isi_lt, isi_int, isi_bool, seqP_n, seqP_l, seqP_o, seqP_t, lstP_l, lstP_o, lsP_l, lsP_o, listP_l, setF_0, setF_1, setF_2, sz0, sz1, sz2, sz3, sz4, sz5, noos_ints, nobs_ints, noNs_ints, vws_ints, vis_ints, frs_ints])
local macro_rules | `(tactic| walk_at "go") => `(tactic| simp only [gnD, endV, outsV, vSq, Vt.andThen, vIf, vAs, vRt, vRn, vEx, vNx, vBad, vBk, vCt, Vr.st, Vr.bind, vBor, vBor1, vwE, vV, vMv, vFrM1, Vt.upd, vLc, wipeV, atP_0, atP_1, atP_2, atP_3, vC, vBi, vUn, vCal, vK, vN, vCll0, vCll1, vCllT, vT, vL, vTst, vTru, vNotB, vAndB, vOrB, vNotD, vAndD, vOrD, vIfD, vPr, vgV, vgC, vgT, vgN, vFr, vRng1, vRng2, vEnu, vZp, vWalk, vSet, vMeN, vMe, vAugI, vAugV, updL, subT, repT, apF, exF, isLst, pa0, paI, vSli, vNoP, vP, vYes0, subP, mulP, modP, divP, ltP, leP, gtP, geP, iiP, tr2, negP, absP, maxP, minP, intP, eqP, neP, isP, isnP, isbP, isnbP, noo, noos, nob, nobs, fr, frs, vw, vws, vi, vis, noN, noNs, nobX_none, nobX_some, Option.map_some, Option.map_none, Option.bind_some, Option.bind_none, Option.isSome_some, List.length_cons, List.length_nil, List.map_cons, List.map_nil, List.getElem?_cons_zero, List.getElem?_cons_succ, List.getElem?_nil, List.set_cons_zero, List.set_cons_succ, List.cons_append, List.nil_append, List.replicate_succ, List.replicate_zero, Nat.sub_self, Nat.reduceSub, Nat.reduceAdd, Nat.reduceLT, Nat.reduceLeDiff, Nat.zero_lt_succ, Nat.lt_add_one, Nat.zero_add, Int.reduceEq, Int.reduceLT, Int.reduceLE, if_true, if_false, Bool.false_eq_true, reduceCtorEq, ite_true, ite_false, decide_true, decide_false, not_true_eq_false, not_false_eq_true, Bool.not_true, Bool.not_false, Bool.and_true, Bool.true_and, Bool.and_self, Bool.and_false, Bool.false_and, eq_self, and_self, and_true, true_and, isNonP, noo_nP, nob_nP, noN_nP, fr_nP, vw_nP, vi_nP, noos_nPs, nobs_nPs, noNs_nPs, frs_nPs, vws_nPs, vis_nPs, noos_gPs, nobs_oPs, nobs_gPs, frs_oPs, frs_gPs, vws_oPs, vws_gPs, nPs_len, gPs_len, oPs_len, eqQ_num, eqQ_row, eqQ_grid, eqQ_int, ixP_t0, ixP_t1, ixP_t2, ixP_n0, ixP_n1, ixP_l0, ixP_l1, ixP_l2, ixP_l3, atP_n0, atP_n1, lenP_l, lenP_o, lenP_t, lenP_n, addP_ii, truP_bl, isi_tn, isi_tt, isi_ll, isi_lo, isi_lt, isi_int, isi_bool, seqP_n, seqP_l, seqP_o, seqP_t, lstP_l, lstP_o, lsP_l, lsP_o, listP_l, setF_0, setF_1, setF_2, sz0, sz1, sz2, sz3, sz4, sz5, noos_ints, nobs_ints, noNs_ints, vws_ints, vis_ints, frs_ints, *])
local macro_rules | `(tactic| walk_at "un") => `(tactic| simp only [gnD, endV, outsV, vSq, Vt.andThen, vIf, vAs, vRt, vRn, vEx, vNx, vBad, vBk, vCt, Vr.st, Vr.bind, vBor, vBor1, vwE, vV, vMv, vFrM1, Vt.upd, vLc, wipeV, atP_0, atP_1, atP_2, atP_3, vC, vBi, vUn, vCal, vK, vN, vCll0, vCll1, vCllT, vT, vL, vTst, vTru, vNotB, vAndB, vOrB, vNotD, vAndD, vOrD, vIfD, vPr, vgV, vgC, vgT, vgN, vFr, vRng1, vRng2, vEnu, vZp, vWalk, vSet, vMeN, vMe, vAugI, vAugV, updL, subT, repT, apF, exF, isLst, pa0, paI, vSli, vNoP, vP, vYes0, subP, mulP, modP, divP, ltP, leP, gtP, geP, iiP, tr2, negP, absP, maxP, minP, intP, eqP, neP, isP, isnP, isbP, isnbP, noo, noos, nob, nobs, fr, frs, vw, vws, vi, vis, noN, noNs, nobX_none, nobX_some, Option.map_some, Option.map_none, Option.bind_some, Option.bind_none, Option.isSome_some, List.length_cons, List.length_nil, List.map_cons, List.map_nil, List.getElem?_cons_zero, List.getElem?_cons_succ, List.getElem?_nil, List.set_cons_zero, List.set_cons_succ, List.cons_append, List.nil_append, List.replicate_succ, List.replicate_zero, Nat.sub_self, Nat.reduceSub, Nat.reduceAdd, Nat.reduceLT, Nat.reduceLeDiff, Nat.zero_lt_succ, Nat.lt_add_one, Nat.zero_add, Int.reduceEq, Int.reduceLT, Int.reduceLE, if_true, if_false, Bool.false_eq_true, reduceCtorEq, ite_true, ite_false, decide_true, decide_false, not_true_eq_false, not_false_eq_true, Bool.not_true, Bool.not_false, Bool.and_true, Bool.true_and, Bool.and_self, Bool.and_false, Bool.false_and, eq_self, and_self, and_true, true_and, isNonP, noo_nP, nob_nP, noN_nP, fr_nP, vw_nP, vi_nP, noos_nPs, nobs_nPs, noNs_nPs, frs_nPs, vws_nPs, vis_nPs, noos_gPs, nobs_oPs, nobs_gPs, frs_oPs, frs_gPs, vws_oPs, vws_gPs, nPs_len, gPs_len, oPs_len, eqQ_num, eqQ_row, eqQ_grid, eqQ_int, ixP_t0, ixP_t1, ixP_t2, ixP_n0, ixP_n1, ixP_l0, ixP_l1, ixP_l2, ixP_l3, atP_n0, atP_n1, lenP_l, lenP_o, lenP_t, lenP_n, addP_ii, truP_bl, isi_tn, isi_tt, isi_ll, isi_lo, isi_lt, isi_int, isi_bool, seqP_n, seqP_l, seqP_o, seqP_t, lstP_l, lstP_o, lsP_l, lsP_o, listP_l, setF_0, setF_1, setF_2, sz0, sz1, sz2, sz3, sz4, sz5, noos_ints, nobs_ints, noNs_ints, vws_ints, vis_ints, frs_ints, vlcGo, vFrGo, ptV, setAllV, *])
local macro_rules | `(tactic| walk_at "at") => `(tactic| simp only [gnD, endV, outsV, vSq, Vt.andThen, vIf, vAs, vRt, vRn, vEx, vNx, vBad, vBk, vCt, Vr.st, Vr.bind, vBor, vBor1, vwE, vV, vMv, vFrM1, Vt.upd, vLc, wipeV, atP_0, atP_1, atP_2, atP_3, vC, vBi, vUn, vCal, vK, vN, vCll0, vCll1, vCllT, vT, vL, vTst, vTru, vNotB, vAndB, vOrB, vNotD, vAndD, vOrD, vIfD, vPr, vgV, vgC, vgT, vgN, vFr, vRng1, vRng2, vEnu, vZp, vWalk, vSet, vMeN, vMe, vAugI, vAugV, updL, subT, repT, apF, exF, isLst, pa0, paI, vSli, vNoP, vP, vYes0, subP, mulP, modP, divP, ltP, leP, gtP, geP, iiP, tr2, negP, absP, maxP, minP, intP, eqP, neP, isP, isnP, isbP, isnbP, noo, noos, nob, nobs, fr, frs, vw, vws, vi, vis, noN, noNs, nobX_none, nobX_some, Option.map_some, Option.map_none, Option.bind_some, Option.bind_none, Option.isSome_some, List.length_cons, List.length_nil, List.map_cons, List.map_nil, List.getElem?_cons_zero, List.getElem?_cons_succ, List.getElem?_nil, List.set_cons_zero, List.set_cons_succ, List.cons_append, List.nil_append, List.replicate_succ, List.replicate_zero, Nat.sub_self, Nat.reduceSub, Nat.reduceAdd, Nat.reduceLT, Nat.reduceLeDiff, Nat.zero_lt_succ, Nat.lt_add_one, Nat.zero_add, Int.reduceEq, Int.reduceLT, Int.reduceLE, if_true, if_false, Bool.false_eq_true, reduceCtorEq, ite_true, ite_false, decide_true, decide_false, not_true_eq_false, not_false_eq_true, Bool.not_true, Bool.not_false, Bool.and_true, Bool.true_and, Bool.and_self, Bool.and_false, Bool.false_and, eq_self, and_self, and_true, true_and, isNonP, noo_nP, nob_nP, noN_nP, fr_nP, vw_nP, vi_nP, noos_nPs, nobs_nPs, noNs_nPs, frs_nPs, vws_nPs, vis_nPs, noos_gPs, nobs_oPs, nobs_gPs, frs_oPs, frs_gPs, vws_oPs, vws_gPs, nPs_len, gPs_len, oPs_len, eqQ_num, eqQ_row, eqQ_grid, eqQ_int, ixP_t0, ixP_t1, ixP_t2, ixP_n0, ixP_n1, ixP_l0, ixP_l1, ixP_l2, ixP_l3, atP_n0, atP_n1, lenP_l, lenP_o, lenP_t, lenP_n, addP_ii, truP_bl, isi_tn, isi_tt, isi_ll, isi_lo, isi_lt, isi_int, isi_bool, seqP_n, seqP_l, seqP_o, seqP_t, lstP_l, lstP_o, lsP_l, lsP_o, listP_l, setF_0, setF_1, setF_2, sz0, sz1, sz2, sz3, sz4, sz5, noos_ints, nobs_ints, noNs_ints, vws_ints, vis_ints, frs_ints, vAt, *])
theorem posC_of {i j : Int} (h : 0 < j) : posC i j = true := decide_eq_true h
theorem common_go : ∀ (b a : Nat), ∃ n, vwhN n (vTst (vBor (vBi (neP) (vV 1) (vC (.int 0))))) (vPr 0 1 (vK (vV 1) (vK (vBor (vBi modP (vV 0) (vV 1))) vN))) [some (.int (a : Int)), some (.int (b : Int))] = some (.nx [some (.int ((Nat.gcd a b : Nat) : Int)), some (.int 0)]) := by
  intro b
  induction b using Nat.strongRecOn with
  | ind b ih =>
    intro a
    by_cases hb : b = 0
    · subst hb
      refine ⟨1, ?_⟩
      unfold vwhN
      walk_at "go"
      simp
    · obtain ⟨n, e⟩ := ih (a % b) (Nat.mod_lt _ (Nat.pos_of_ne_zero hb)) b
      refine ⟨n + 1, ?_⟩
      unfold vwhN
      have hp : posC (a : Int) (b : Int) = true := decide_eq_true (by omega)
      have hz : decide ((b : Int) = 0) = false := decide_eq_false (by omega)
      clear ih
      walk_at "go"
      rw [← Int.natCast_emod, e, Nat.gcd_comm b (a % b), ← Nat.gcd_rec b a, Nat.gcd_comm]
theorem common_ok (a b : Nat) : g_common [.int (a : Int), .int (b : Int)] = .ok (.int ((Nat.gcd a b : Nat) : Int)) [] := by
  obtain ⟨n, e⟩ := common_go b a
  unfold g_common w_common
  trivial
  rw [vWh_of e]
  trivial
theorem abs_nat (i : Int) : (if i < 0 then -i else i) = ((i.natAbs : Nat) : Int) := by
  split <;> omega
theorem nP_mk {t : Int} {b : Nat} (hb : b ≠ 0) : nP (mkRat t b) = .tup [.int (t / ((Nat.gcd t.natAbs b : Nat) : Int)), .int (((b / Nat.gcd t.natAbs b : Nat)) : Int)] := by
  rw [Rat.mkRat_def, dif_neg hb, Rat.normalize_eq]
  rfl
theorem low_go (t b : P) (ht : noo t = true) (hb : noo b = true) (ft : vw t = t) (fb : vw b = b) : ∀ (x y : Nat), ∃ n, vwhN n (vTst (vBor (vBi (neP) (vV 2) (vC (.int 0))))) (vPr 2 3 (vK (vBor (vBi modP (vV 3) (vV 2))) (vK (vV 2) vN))) [some t, some b, some (.int (x : Int)), some (.int (y : Int))] =
    some (.nx [some t, some b, some (.int 0), some (.int ((Nat.gcd x y : Nat) : Int))]) := by
  intro x
  induction x using Nat.strongRecOn with
  | ind x ih =>
    intro y
    by_cases hx : x = 0
    · subst hx
      refine ⟨1, ?_⟩
      unfold vwhN
      clear ih
      walk_at "go"
      simp
    · obtain ⟨n, e⟩ := ih (y % x) (Nat.mod_lt _ (Nat.pos_of_ne_zero hx)) x
      refine ⟨n + 1, ?_⟩
      unfold vwhN
      have hp : posC (y : Int) (x : Int) = true := decide_eq_true (by omega)
      have hz : decide ((x : Int) = 0) = false := decide_eq_false (by omega)
      clear ih
      walk_at "go"
      rw [← Int.natCast_emod, e, ← Nat.gcd_rec x y]
theorem law_low_ok (t : Int) {b : Nat} (hb : b ≠ 0) : g_law_low [.int t, .int (b : Int)] = .ok (nP (mkRat t b)) [] := by
  have g : 0 < Nat.gcd t.natAbs b := Nat.gcd_pos_of_pos_right _ (Nat.pos_of_ne_zero hb)
  have hp : ∀ i : Int, posC i ((Nat.gcd t.natAbs b : Nat) : Int) = true := fun i => posC_of (by omega)
  obtain ⟨n, e⟩ := low_go (.int t) (.int b) rfl rfl rfl rfl t.natAbs b
  have e2 := abs_nat t
  rw [nP_mk hb]
  have e3 := vWh_of e
  clear g hb e
  unfold g_law_low w_law_low
  walk_at "go"
  rfl
abbrev LIM : Nat := 134217000
def Hb (B : Nat) (q : Rat) : Prop := q.num.natAbs < 2 ^ B ∧ q.den < 2 ^ B
theorem Hb.pos {B : Nat} {q : Rat} (h : Hb B q) : 0 < B := by
  rcases Nat.eq_zero_or_pos B with e | e
  · subst e
    have := h.2
    have := q.den_pos
    omega
  · exact e
theorem Hb.mono {A B : Nat} {q : Rat} (h : Hb A q) (e : A ≤ B) : Hb B q :=
  ⟨Nat.lt_of_lt_of_le h.1 (Nat.pow_le_pow_right (by decide) e), Nat.lt_of_lt_of_le h.2 (Nat.pow_le_pow_right (by decide) e)⟩
theorem mulC_of {i j : Int} {A B : Nat} (hi : i.natAbs < 2 ^ A) (hj : j.natAbs < 2 ^ B) (h0 : 0 < A) (h : A + B ≤ LIM) : mulC i j = true := by
  have h1 : i.natAbs.log2 < A := by
    rcases Nat.eq_zero_or_pos i.natAbs with e | e
    · rw [e]
      exact h0
    · exact (Nat.log2_lt (by omega)).mpr hi
  have h2 : j.natAbs.log2 ≤ B := by
    rcases Nat.eq_zero_or_pos j.natAbs with e | e
    · rw [e]
      exact Nat.zero_le _
    · exact Nat.le_of_lt ((Nat.log2_lt (by omega)).mpr hj)
  exact decide_eq_true (by unfold LIM at h; omega)
theorem hb_mk {t : Int} {b B : Nat} (h1 : t.natAbs < 2 ^ B) (h2 : b < 2 ^ B) (hb : b ≠ 0) : Hb B (mkRat t b) := by
  rw [Rat.mkRat_def, dif_neg hb, Rat.normalize_eq]
  constructor
  · show (t / ((Nat.gcd t.natAbs b : Nat) : Int)).natAbs < 2 ^ B
    refine Nat.lt_of_le_of_lt ?_ h1
    exact Int.natAbs_ediv_le_natAbs _ _
  · show b / Nat.gcd t.natAbs b < 2 ^ B
    exact Nat.lt_of_le_of_lt (Nat.div_le_self _ _) h2
theorem abs_mul_lt {i j : Int} {A B : Nat} (hi : i.natAbs < 2 ^ A) (hj : j.natAbs < 2 ^ B) : (i * j).natAbs < 2 ^ (A + B) := by
  rw [Int.natAbs_mul, Nat.pow_add]
  exact Nat.mul_lt_mul'' hi hj
theorem Hb.mul {A B : Nat} {p q : Rat} (hp : Hb A p) (hq : Hb B q) : Hb (A + B) (p * q) := by
  rw [Rat.mul_def']
  refine hb_mk (abs_mul_lt hp.1 hq.1) ?_ (Nat.mul_ne_zero p.den_nz q.den_nz)
  rw [Nat.pow_add]
  exact Nat.mul_lt_mul'' hp.2 hq.2
theorem two_lt {x y : Int} {C : Nat} (hx : x.natAbs < 2 ^ C) (hy : y.natAbs < 2 ^ C) : (x + y).natAbs < 2 ^ (C + 1) ∧ (x - y).natAbs < 2 ^ (C + 1) := by
  have e : 2 ^ (C + 1) = 2 ^ C + 2 ^ C := by rw [Nat.pow_succ]; omega
  omega
theorem den_lt {n B : Nat} (h : n < 2 ^ B) : ((n : Nat) : Int).natAbs < 2 ^ B := by
  rw [Int.natAbs_natCast]
  exact h
theorem Hb.add {A B : Nat} {p q : Rat} (hp : Hb A p) (hq : Hb B q) : Hb (A + B + 1) (p + q) := by
  rw [Rat.add_def']
  refine hb_mk ?_ ?_ (Nat.mul_ne_zero p.den_nz q.den_nz)
  · exact (two_lt (abs_mul_lt hp.1 (den_lt hq.2)) (by rw [Nat.add_comm A B]; exact abs_mul_lt hq.1 (den_lt hp.2))).1
  · refine Nat.lt_of_lt_of_le (m := 2 ^ (A + B)) ?_ (Nat.pow_le_pow_right (by decide) (by omega))
    rw [Nat.pow_add]
    exact Nat.mul_lt_mul'' hp.2 hq.2
theorem Hb.sub {A B : Nat} {p q : Rat} (hp : Hb A p) (hq : Hb B q) : Hb (A + B + 1) (p - q) := by
  rw [Rat.sub_def']
  refine hb_mk ?_ ?_ (Nat.mul_ne_zero p.den_nz q.den_nz)
  · exact (two_lt (abs_mul_lt hp.1 (den_lt hq.2)) (by rw [Nat.add_comm A B]; exact abs_mul_lt hq.1 (den_lt hp.2))).2
  · refine Nat.lt_of_lt_of_le (m := 2 ^ (A + B)) ?_ (Nat.pow_le_pow_right (by decide) (by omega))
    rw [Nat.pow_add]
    exact Nat.mul_lt_mul'' hp.2 hq.2
theorem Hb.neg {A : Nat} {p : Rat} (hp : Hb A p) : Hb A (-p) := by
  constructor
  · rw [Rat.neg_num, Int.natAbs_neg]
    exact hp.1
  · rw [Rat.neg_den]
    exact hp.2
section
variable {A B : Nat} {p q : Rat} (hp : Hb A p) (hq : Hb B q) (hl : A + B ≤ LIM)
include hp hq hl
end
def bagV (k k2 : Bool) (z s i : Int) (cs : List Int) : P := .ow k .lst [.int z, .int s, .int i, .ow k2 .lst (cs.map P.int)]
structure Bag (p : P) : Prop where
  ex : ∃ k k2 z s i cs, p = bagV k k2 z s i cs ∧ 0 ≤ z ∧ 0 ≤ s ∧ s < 2147483647 ∧ 0 ≤ i ∧ ∀ x ∈ cs, 0 ≤ x
theorem Bag.noN {p : P} (h : Bag p) : noN p = true := by
  obtain ⟨k, k2, z, s, i, cs, rfl, _⟩ := h.ex
  show (true && (true && (true && (noNs (cs.map P.int) && true)))) = true
  rw [noNs_ints]
  rfl
theorem Bag.vi {p : P} (h : Bag p) : Bag (vi p) := by
  obtain ⟨k, k2, z, s, i, cs, rfl, q⟩ := h.ex
  refine ⟨false, false, z, s, i, cs, ?_, q⟩
  show P.ow false .lst [.int z, .int s, .int i, .ow false .lst (vis (cs.map P.int))] = _
  rw [vis_ints]
  rfl
theorem emod_in (a : Int) {m : Int} (h : 0 < m) : 0 ≤ a % m ∧ a % m < m := ⟨Int.emod_nonneg _ (by omega), Int.emod_lt_of_pos _ h⟩
theorem mulC_small {i j : Int} (h0 : 0 ≤ i) (h1 : i < 2147483648) (k0 : 0 ≤ j) (k1 : j < 2147483648) : mulC i j = true :=
  mulC_of (A := 31) (B := 31) (by omega) (by omega) (by decide) (by decide)
theorem ixP_cell {k : Bool} {cs : List Int} {n : Nat} (h : n < cs.length) : ixP [.nd k .lst (cs.map P.int), .int (n : Int)] = some (.int cs[n]) := atP_nat (j := n) (by rw [List.getElem?_map, List.getElem?_eq_getElem h]; rfl)
theorem atP_b2 {z s i c : P} : atP [z, s, i, c] 2 = some i := atP_nat (j := 2) rfl
theorem bag_of {k k2 : Bool} {z s i : Int} {cs : List Int} (h : 0 ≤ z) (h0 : 0 ≤ s) (h1 : s < 2147483647) (hi : 0 ≤ i) (hc : ∀ x ∈ cs, 0 ≤ x) : Bag (bagV k k2 z s i cs) := ⟨k, k2, z, s, i, cs, rfl, h, h0, h1, hi, hc⟩
theorem take_parts : ∃ t1 t2, w_law_take = vSq t1 t2 ∧
    (∀ p m, Bag p → ∃ x4 x6 p', t1 [some p, some (.int m), none, none, none, none, none] = .nx [some p', some (.int m), none, none, x4, none, x6] ∧ Bag p') ∧
    (∀ p m x4 x6, 0 < m → Bag p → ∃ v ρ p', t2 [some p, some (.int m), none, none, x4, none, x6] = .rt (.int v) (some p' :: ρ) ∧ 0 ≤ v ∧ v < m ∧ Bag p') := by
  refine ⟨_, _, rfl, ?_, ?_⟩
  · intro p m B
    obtain ⟨k, k2, z, s, i, cs, rfl, hz, hs0, hs1, hi, nn⟩ := B.ex
    clear B
    have pm : ∀ x : Int, posC x 2147483647 = true := fun x => posC_of (by decide)
    have ms : mulC s 48271 = true := mulC_small hs0 (by omega) (by decide) (by decide)
    have u3 := @atP_b2
    by_cases hz0 : z = 0
    · subst hz0
      by_cases hl : i < (cs.length : Int)
      · obtain ⟨n, rfl⟩ : ∃ n : Nat, i = n := ⟨i.toNat, by omega⟩
        have hn : n < cs.length := by omega
        obtain ⟨w, hc, h0⟩ : ∃ w : Int, (∀ k, ixP [.nd k .lst (cs.map P.int), .int (n : Int)] = some (.int w)) ∧ 0 ≤ w := ⟨cs[n], fun k => ixP_cell hn, nn _ (List.getElem_mem hn)⟩
        obtain ⟨q1, q2⟩ := emod_in (s * 48271 + (w % 2147483647 + 1)) (m := 2147483647) (by decide)
        by_cases hg : 1000000000000000000 ≤ w
        · refine ⟨some (.int (w % 2147483647 + 1)), some (.int w), _, ?_, bag_of (z := w) (s := (s * 48271 + (w % 2147483647 + 1)) % 2147483647) (i := (n : Int) + 1) (k := k) (k2 := k2) h0 q1 q2 (by omega) nn⟩
          clear nn h0 q1 q2 hz hs0 hs1 hi hn
          unfold bagV
          have hl' : decide ((n : Int) < (cs.length : Int)) = true := decide_eq_true hl
          rw [← List.length_map (f := P.int)] at hl'
          clear hl
          walk_at "go"
        · refine ⟨some (.int (w % 2147483647 + 1)), some (.int w), _, ?_, bag_of (z := 0) (s := (s * 48271 + (w % 2147483647 + 1)) % 2147483647) (i := (n : Int) + 1) (k := k) (k2 := k2) (by decide) q1 q2 (by omega) nn⟩
          clear nn h0 q1 q2 hz hs0 hs1 hi hn
          unfold bagV
          have hl' : decide ((n : Int) < (cs.length : Int)) = true := decide_eq_true hl
          rw [← List.length_map (f := P.int)] at hl'
          clear hl
          walk_at "go"
      · obtain ⟨q1, q2⟩ := emod_in (s * 48271 + 12345) (m := 2147483647) (by decide)
        refine ⟨some (.int 12345), none, _, ?_, bag_of (z := 0) (s := (s * 48271 + 12345) % 2147483647) (i := i) (k := k) (k2 := k2) (by decide) q1 q2 hi nn⟩
        clear nn q1 q2 hz hs0 hs1 hi
        unfold bagV
        have hl' : decide (i < (cs.length : Int)) = false := decide_eq_false hl
        rw [← List.length_map (f := P.int)] at hl'
        clear hl
        walk_at "go"
    · refine ⟨none, none, _, ?_, bag_of (k := k) (k2 := k2) hz hs0 hs1 hi nn⟩
      clear nn hz hs0 hs1 hi
      unfold bagV
      walk_at "go"
  · intro p m x4 x6 hk B
    obtain ⟨k, k2, z, s, i, cs, rfl, hz, hs0, hs1, hi, nn⟩ := B.ex
    clear B
    have pk : ∀ x : Int, posC x m = true := fun x => posC_of hk
    generalize h4 : Option.map vw x4 = y4
    generalize h6 : Option.map vw x6 = y6
    by_cases hz0 : 0 < z
    · obtain ⟨q1, q2⟩ := emod_in z hk
      refine ⟨_, [some (.int m), none, none, x4, none, x6], _, ?_, q1, q2, bag_of (z := z / m) (s := s) (i := i) (k := k) (k2 := k2) (Int.ediv_nonneg hz (by omega)) hs0 hs1 hi nn⟩
      clear nn q1 q2 hz hs0 hs1 hi
      unfold bagV
      walk_at "go"
    · have b1 := emod_in (s * 39373) (m := 1000000007) (by decide)
      have b2 := emod_in (s * 39373 % 1000000007 * 30011) (m := 998244353) (by decide)
      have m1 : mulC s 39373 = true := mulC_small hs0 (by omega) (by decide) (by decide)
      have m2 : mulC (s * 39373 % 1000000007) 30011 = true := mulC_small b1.1 (by omega) (by decide) (by decide)
      have m3 : mulC (s * 39373 % 1000000007 * 30011 % 998244353) 1000000000 = true := mulC_small b2.1 (by omega) (by decide) (by decide)
      have p1 : ∀ x : Int, posC x 1000000007 = true := fun x => posC_of (by decide)
      have p2 : ∀ x : Int, posC x 998244353 = true := fun x => posC_of (by decide)
      have p3 : ∀ x : Int, posC x 3 = true := fun x => posC_of (by decide)
      have bg := bag_of (k := k) (k2 := k2) hz hs0 hs1 hi nn
      by_cases hkk : 1000000 < m
      · obtain ⟨q1, q2⟩ := emod_in (s * 39373 % 1000000007 * 30011 % 998244353 * 1000000000 + s * 39373 % 1000000007) hk
        refine ⟨_, [some (.int m), some (.int (s * 39373 % 1000000007)), some (.int (s * 39373 % 1000000007 * 30011 % 998244353)), x4, none, x6], _, ?_, q1, q2, bg⟩
        clear bg nn q1 q2 hz hs0 hs1 hi b1 b2
        unfold bagV
        walk_at "go"
      · obtain ⟨q1, q2⟩ := emod_in (s * 39373 % 1000000007 * 30011 % 998244353 / 3) hk
        refine ⟨_, [some (.int m), some (.int (s * 39373 % 1000000007)), some (.int (s * 39373 % 1000000007 * 30011 % 998244353)), x4, none, x6], _, ?_, q1, q2, bg⟩
        clear bg nn q1 q2 hz hs0 hs1 hi b1 b2
        unfold bagV
        walk_at "go"
theorem take_ok {p : P} (B : Bag p) {m : Int} (hm : 0 < m) : ∃ v p', g_law_take [p, .int m] = .ok (.int v) [p'] ∧ 0 ≤ v ∧ v < m ∧ Bag p' := by
  obtain ⟨t1, t2, e, h1, h2⟩ := take_parts
  obtain ⟨x4, x6, p1, q1, B1⟩ := h1 p m B
  obtain ⟨v, ρ, p2, q2, v0, v1, B2⟩ := h2 p1 m x4 x6 hm B1
  refine ⟨v, p2, ?_, v0, v1, B2⟩
  unfold g_law_take
  rw [e]
  clear B B1 B2 h1 h2 e
  walk_at "go"
theorem vFrGo_run {g : VG} {b : VS} {xs : List P} (I : Nat → VEnv → Prop) (step : ∀ (i : Nat) (x : P) ρ, xs[i]? = some x → I i ρ → ∃ ρ1 ρ2, g x ρ = some ρ1 ∧ (b ρ1 = .nx ρ2 ∨ b ρ1 = .ct ρ2) ∧ I (i + 1) ρ2) :
    ∀ {ρ : VEnv}, I 0 ρ → ∃ ρ', vFrGo g b xs ρ = .nx ρ' ∧ I xs.length ρ' := by
  induction xs generalizing I with
  | nil => exact fun h => ⟨_, rfl, h⟩
  | cons x xs ih =>
    intro ρ h
    obtain ⟨ρ1, ρ2, h1, h2, h3⟩ := step 0 x ρ rfl h
    obtain ⟨ρ', q1, q2⟩ := ih (fun i => I (i + 1)) (fun i y ρ e hI => step (i + 1) y ρ (by simpa using e) hI) h3
    refine ⟨ρ', ?_, q2⟩
    unfold vFrGo
    rw [h1]
    dsimp only
    rcases h2 with h2 | h2
    · rw [h2]
      exact q1
    · rw [h2]
      exact q1
section
variable {p : Pt} {t : VT} {e : VE} {own : List Nat}
theorem vlcGo_map {ρ : VEnv} (f : P → P) : ∀ xs : List P, (∀ x ∈ xs, ∃ ρ1 ρ2 ρ3, ptV p x ρ = some ρ1 ∧ t ρ1 = .ok true ρ2 ∧ e ρ2 = .ok (f x) ρ3 ∧ wipeV ρ3 own = ρ) → vlcGo p t e own xs ρ = .ok (xs.map f) ρ
  | [], _ => rfl
  | x :: xs, h => by
    obtain ⟨ρ1, ρ2, ρ3, h1, h2, h3, h4⟩ := h x List.mem_cons_self
    unfold vlcGo
    rw [h1]
    dsimp only
    rw [h2]
    dsimp only
    rw [h3]
    dsimp only
    rw [h4, vlcGo_map f xs fun y hy => h y (List.mem_cons_of_mem _ hy)]
    rfl
theorem vlcGo_run (I : VEnv → Prop) (R : P → P → Prop) : ∀ xs : List P, (∀ x ∈ xs, ∀ ρ, I ρ → ∃ y ρ1 ρ2 ρ3, ptV p x ρ = some ρ1 ∧ t ρ1 = .ok true ρ2 ∧ e ρ2 = .ok y ρ3 ∧ I (wipeV ρ3 own) ∧ R x y) → ∀ ρ, I ρ → ∃ ys ρ', vlcGo p t e own xs ρ = .ok ys ρ' ∧ ys.length = xs.length ∧ I ρ' ∧ ∀ (i : Nat) (x : P), xs[i]? = some x → ∃ y, ys[i]? = some y ∧ R x y
  | [], _, ρ, h => ⟨[], ρ, rfl, rfl, h, fun i x e => nomatch e⟩
  | x :: xs, h, ρ, hI => by
    obtain ⟨y, ρ1, ρ2, ρ3, h1, h2, h3, h4, h5⟩ := h x List.mem_cons_self ρ hI
    obtain ⟨ys, ρ', q1, q2, q3, q4⟩ := vlcGo_run I R xs (fun y hy => h y (List.mem_cons_of_mem _ hy)) _ h4
    refine ⟨y :: ys, ρ', ?_, by simp [q2], q3, fun i z hz => ?_⟩
    · unfold vlcGo
      rw [h1]
      dsimp only
      rw [h2]
      dsimp only
      rw [h3]
      dsimp only
      rw [q1]
    · cases i with
      | zero => cases hz; exact ⟨y, rfl, h5⟩
      | succ i => exact q4 i z (by simpa using hz)
end
theorem law_is_number_ok (q : Rat) : g_law_is_number [nP q] = .ok (.bl true) [] := by
  have f4 := law_low_ok q.num q.den_nz
  rw [Rat.mkRat_self] at f4
  have f6 : decide ((0 : Int) < (q.den : Int)) = true := decide_eq_true (by have := q.den_pos; omega)
  unfold g_law_is_number w_law_is_number
  walk_at "go"
  simp only [vFrGo]
  walk_at "go"
theorem rat_eq (p : Rat) : p = (p.num : Rat) / (p.den : Rat) := by
  conv => lhs; rw [← Rat.mkRat_self p]
  rw [Rat.mkRat_eq_div]
theorem den_ne (p : Rat) : (p.den : Rat) ≠ 0 := fun z => p.den_nz (by exact_mod_cast z)
theorem hb_zero : Hb 1 0 := ⟨by decide, by decide⟩
theorem hb_int {i : Int} {B : Nat} (h : i.natAbs < 2 ^ B) (h0 : 0 < B) : Hb B (i : Rat) := ⟨h, by show 1 < 2 ^ B; exact Nat.one_lt_two_pow (by omega)⟩
theorem nP_int (i : Int) : P.tup [.int i, .int 1] = nP (i : Rat) := rfl
theorem cut_ints (ns : List Int) (lo hi : Option Int) : ∃ ms : List Int, cutD (ns.map P.int) lo hi = ms.map P.int ∧ ms.length ≤ ns.length := by
  refine ⟨(ns.drop (HT.sIx (ns.map P.int).length 0 lo)).take (HT.sIx (ns.map P.int).length (ns.map P.int).length hi - HT.sIx (ns.map P.int).length 0 lo), ?_, ?_⟩
  · unfold cutD
    rw [List.map_take, List.map_drop]
  · rw [List.length_take, List.length_drop]
    omega
theorem size63 : 63 ≤ sizeLine := by decide
theorem bag_ok (ns : List Int) (h : ns.length ≤ 63) : ∃ b, g_law_bag [.scr ns] = .ok b [] ∧ Bag b ∧ nob b = true := by
  obtain ⟨ms, e1, e2⟩ := cut_ints ns none (some 63)
  have hs : ((ms.map P.int).length ≤ sizeLine) = True := eq_true (by have := size63; rw [List.length_map]; omega)
  have em : slP (.scr ns) none (some 63) = some (.own (ms.map P.int)) := by
    show (if (cutD (ns.map P.int) none (some 63)).length ≤ sizeLine then some (P.own (cutD (ns.map P.int) none (some 63))) else none) = _
    rw [e1, if_pos (of_eq_true hs)]
  have el : vlcGo (.nm 1) vYes0 (vCal absP (vK (vV 1) vN)) [1] (ms.map P.int) [some (.scr ns), none] = .ok ((ms.map P.int).map fun x => match x with
    | .int i => .int (if i < 0 then -i else i)
    | x => x) [some (.scr ns), none] := vlcGo_map _ _ fun x hx => by
      obtain ⟨i, _, rfl⟩ := List.mem_map.mp hx
      exact ⟨[some (.scr ns), some (.int i)], [some (.scr ns), some (.int i)], [some (.scr ns), some (.int i)], rfl, rfl, rfl, rfl⟩
  have e3 : ((ms.map P.int).map fun x => match x with
    | .int i => P.int (if i < 0 then -i else i)
    | x => x) = (ms.map fun i => if i < 0 then -i else i).map P.int := by
    rw [List.map_map, List.map_map]
    rfl
  rw [e3] at el
  refine ⟨bagV true true 0 1234567891 0 (ms.map fun i => if i < 0 then -i else i), ?_, bag_of (by decide) (by decide) (by decide) (by decide) fun x hx => ?_, ?_⟩
  · unfold g_law_bag w_law_bag
    walk_at "go"
    rfl
  · obtain ⟨i, _, rfl⟩ := List.mem_map.mp hx
    split <;> omega
  · show (true && (true && (true && (true && ((true && nobs ((ms.map fun i => if i < 0 then -i else i).map P.int)) && true))))) = true
    rw [nobs_ints]
    rfl
def rAdd (xs ys : List Rat) : List Rat := List.zipWith (· + ·) xs ys
def rSub (xs ys : List Rat) : List Rat := List.zipWith (· - ·) xs ys
def rMul (c : Rat) (xs : List Rat) : List Rat := xs.map (c * ·)
def rDot : List Rat → List Rat → Rat
  | x :: xs, y :: ys => x * y + rDot xs ys
  | _, _ => 0
def nul (n : Nat) : List Rat := List.replicate n 0
def unit (n j : Nat) : List Rat := (nul n).set j 1
def Bd (B : Nat) (xs : List Rat) : Prop := ∀ q ∈ xs, Hb B q
theorem Bd.mono {A B : Nat} {xs : List Rat} (h : Bd A xs) (e : A ≤ B) : Bd B xs := fun q hq => (h q hq).mono e
theorem Bd.at {A : Nat} {xs : List Rat} (h : Bd A xs) {i : Nat} (hi : i < xs.length) : Hb A xs[i] := h _ (List.getElem_mem hi)
theorem Bd.cons {A : Nat} {x : Rat} {xs : List Rat} (h : Bd A (x :: xs)) : Hb A x ∧ Bd A xs := ⟨h x List.mem_cons_self, fun q hq => h q (List.mem_cons_of_mem _ hq)⟩
theorem Bd.of {A : Nat} {x : Rat} {xs : List Rat} (h : Hb A x) (h' : Bd A xs) : Bd A (x :: xs) := fun q hq => by
  rcases List.mem_cons.mp hq with rfl | hq
  · exact h
  · exact h' q hq
theorem Bd.add {A B : Nat} : ∀ {xs ys : List Rat}, Bd A xs → Bd B ys → Bd (A + B + 1) (rAdd xs ys)
  | [], _, _, _ => fun q hq => by unfold rAdd at hq; cases hq
  | _ :: _, [], _, _ => fun q hq => by unfold rAdd at hq; cases hq
  | x :: xs, y :: ys, h, h' => Bd.of (h.cons.1.add h'.cons.1) (Bd.add h.cons.2 h'.cons.2)
theorem Bd.sub {A B : Nat} : ∀ {xs ys : List Rat}, Bd A xs → Bd B ys → Bd (A + B + 1) (rSub xs ys)
  | [], _, _, _ => fun q hq => by unfold rSub at hq; cases hq
  | _ :: _, [], _, _ => fun q hq => by unfold rSub at hq; cases hq
  | x :: xs, y :: ys, h, h' => Bd.of (h.cons.1.sub h'.cons.1) (Bd.sub h.cons.2 h'.cons.2)
theorem Bd.mul {A B : Nat} {c : Rat} (hc : Hb A c) : ∀ {ys : List Rat}, Bd B ys → Bd (A + B) (rMul c ys)
  | [], _ => fun q hq => by unfold rMul at hq; cases hq
  | y :: ys, h => Bd.of (hc.mul h.cons.1) (Bd.mul hc h.cons.2)
theorem rAdd_len {xs ys : List Rat} : (rAdd xs ys).length = min xs.length ys.length := List.length_zipWith ..
theorem rSub_len {xs ys : List Rat} : (rSub xs ys).length = min xs.length ys.length := List.length_zipWith ..
theorem rMul_len {c : Rat} {xs : List Rat} : (rMul c xs).length = xs.length := List.length_map ..
theorem nul_len {n : Nat} : (nul n).length = n := List.length_replicate ..
theorem unit_len {n j : Nat} : (unit n j).length = n := by unfold unit; rw [List.length_set, nul_len]
section
variable {p : Pt} {t : VT} {e : VE} {own : List Nat}
theorem vlcGo_as {α : Type} {ρ : VEnv} {τ : α → P} (u : α → P) (as : List α) (h : ∀ a ∈ as, ∃ ρ1 ρ2 ρ3, ptV p (τ a) ρ = some ρ1 ∧ t ρ1 = .ok true ρ2 ∧ e ρ2 = .ok (u a) ρ3 ∧ wipeV ρ3 own = ρ) : vlcGo p t e own (as.map τ) ρ = .ok (as.map u) ρ := by
  induction as with
  | nil => rfl
  | cons a as ih =>
    obtain ⟨ρ1, ρ2, ρ3, h1, h2, h3, h4⟩ := h a List.mem_cons_self
    rw [List.map_cons]
    unfold vlcGo
    rw [h1]
    dsimp only
    rw [h2]
    dsimp only
    rw [h3]
    dsimp only
    rw [h4, ih fun a ha => h a (List.mem_cons_of_mem _ ha)]
    rfl
end
theorem rngP_0 (n : Nat) : rngP 0 (n : Int) = (List.range n).map fun (i : Nat) => P.int (i : Int) := by
  unfold rngP
  rw [Int.sub_zero, Int.toNat_natCast]
  congr 1
  funext i
  rw [Int.zero_add]
theorem rng_in {n : Nat} (h : n ≤ 1000000) : inRng (n : Int) = true := decide_eq_true (by omega)
theorem size_le {n : Nat} (h : n ≤ 1000000) : (n ≤ sizeLine) = True := eq_true (Nat.le_trans h (by decide))
section
variable {p : Pt} {t : VT} {e : VE} {own : List Nat} {ρ : VEnv}
theorem vlcGo_nu (u : Rat → P) (qs : List Rat) (h : ∀ q ∈ qs, ∃ ρ1 ρ2 ρ3, ptV p (nP q) ρ = some ρ1 ∧ t ρ1 = .ok true ρ2 ∧ e ρ2 = .ok (u q) ρ3 ∧ wipeV ρ3 own = ρ) : vlcGo p t e own (nPs qs) ρ = .ok (qs.map u) ρ := vlcGo_as u qs h
end
theorem rngP_n (n : Nat) : (rngP 0 (n : Int)).length = n := by
  rw [rngP_0, List.length_map, List.length_range]
theorem nP_0 : P.tup [.int 0, .int 1] = nP 0 := rfl
section
variable {A B : Nat} {k k2 : Bool} {xs ys : List Rat}
end
def BdG (B : Nat) (g : List (List Rat)) : Prop := ∀ r ∈ g, Bd B r
def Wide (n : Nat) (g : List (List Rat)) : Prop := ∀ r ∈ g, r.length = n
def gOn (g : List (List Rat)) (row : List Rat) : List Rat := g.map fun r => rDot r row
def col (g : List (List Rat)) (j : Nat) : List Rat := g.map fun r => r.getD j 0
def gT' (g : List (List Rat)) (w : Nat) : List (List Rat) := (List.range w).map fun j => col g j
def idG (n : Nat) : List (List Rat) := (List.range n).map fun i => unit n i
theorem BdG.mono {A B : Nat} {g : List (List Rat)} (h : BdG A g) (e : A ≤ B) : BdG B g := fun r hr => (h r hr).mono e
theorem col_len {g : List (List Rat)} {j : Nat} : (col g j).length = g.length := List.length_map ..
theorem gT_len {g : List (List Rat)} {w : Nat} : (gT' g w).length = w := by unfold gT'; rw [List.length_map, List.length_range]
theorem gOn_len {g : List (List Rat)} {r : List Rat} : (gOn g r).length = g.length := List.length_map ..
section
variable {A B : Nat} {k k2 k3 : Bool} {g : List (List Rat)} {row : List Rat} {m : Nat}
theorem getD_at {r : List Rat} {j : Nat} (h : j < r.length) : r.getD j 0 = r[j] := by
  unfold List.getD
  rw [List.getElem?_eq_getElem h]
  rfl
end
section
variable {A B : Nat} {k k2 : Bool} {xs ys : List Rat}
end
theorem allP_tt {n : Nat} {k : Bool} : allP [.ow k .lst (List.replicate n (.bl true))] = some (.bl true) := by
  have h : ∀ n, blsP (List.replicate n (.bl true)) = some (List.replicate n true) := by
    intro n
    induction n with
    | zero => rfl
    | succ n ih =>
      rw [List.replicate_succ]
      show (blsP (List.replicate n (.bl true))).map (true :: ·) = _
      rw [ih]
      rfl
  show ((some (List.replicate n (P.bl true))).bind blsP).map _ = _
  show (blsP (List.replicate n (P.bl true))).map _ = _
  rw [h]
  show some (P.bl ((List.replicate n true).all id)) = _
  simp
theorem map_tt {α : Type} (xs : List α) : xs.map (fun _ => P.bl true) = List.replicate xs.length (.bl true) := List.map_const' ..
theorem law_is_row_ok {k : Bool} {qs : List Rat} (hn : qs.length ≤ 1000000) : g_law_is_row [.nd k .lst (nPs qs), .int (qs.length : Int)] = .ok (.bl true) [] := by
  have z : (qs.length ≤ sizeLine) = True := size_le hn
  have e : vlcGo (.nm 2) vYes0 (vCll0 g_law_is_number (vK (vV 2) vN)) [2] (nPs qs) [some (.nd false .lst (nPs qs)), some (.int (qs.length : Int)), none] = .ok (List.replicate qs.length (.bl true)) [some (.nd false .lst (nPs qs)), some (.int (qs.length : Int)), none] := by
    rw [vlcGo_nu (fun _ => .bl true), map_tt]
    intro q hq
    have e := law_is_number_ok q
    refine ⟨[some (.nd false .lst (nPs qs)), some (.int (qs.length : Int)), some (nP q)], _, [some (.nd false .lst (nPs qs)), some (.int (qs.length : Int)), some (nP q)], rfl, rfl, ?_, rfl⟩
    clear z hn hq
    walk_at "go"
  have a := fun k => allP_tt (n := qs.length) (k := k)
  clear hn
  unfold g_law_is_row w_law_is_row
  walk_at "go"
theorem number_ok {B : Nat} (hB : 3 ≤ B) (hB2 : B ≤ 60) {w : Int} (h0 : 0 < w) (hw : w < 2 ^ B) {p : P} (Bp : Bag p) : ∃ q p', g_law_number [p, .int w] = .ok (nP q) [p'] ∧ Hb B q ∧ Bag p' := by
  have h8 : (2 : Int) ^ 3 ≤ 2 ^ B := by exact_mod_cast Nat.pow_le_pow_right (by decide) hB
  have hwn : w.natAbs < 2 ^ B := by
    have : ((2 ^ B : Nat) : Int) = 2 ^ B := by simp
    omega
  have h8n : 2 ^ 3 ≤ 2 ^ B := Nat.pow_le_pow_right (by decide) hB
  obtain ⟨y, p1, q1, y0, y1, B1⟩ := take_ok Bp.vi (m := 8) (by decide)
  have N1 := B1.noN
  by_cases c0 : y < 2
  · refine ⟨0, p1, ?_, hb_zero.mono (by omega), B1⟩
    have e0 := nP_0
    clear y0 y1 h8 hwn h8n h0 hw hB hB2 B1 Bp
    unfold g_law_number w_law_number
    walk_at "go"
  by_cases c1 : y < 6
  · obtain ⟨v, p2, q2, v0, v1, B2⟩ := take_ok B1.vi (m := 7) (by decide)
    have N2 := B2.noN
    refine ⟨((v - 3 : Int) : Rat), p2, ?_, hb_int (by omega) (by omega), B2⟩
    have e0 := nP_int (v - 3)
    clear y0 y1 h8 hwn h8n h0 hw hB hB2 B1 Bp v0 v1 B2
    unfold g_law_number w_law_number
    walk_at "go"
  by_cases c2 : y = 6
  · obtain ⟨t, p2, q2, t0, t1, B2⟩ := take_ok B1.vi (m := 13) (by decide)
    obtain ⟨v, p3, q3, v0, v1, B3⟩ := take_ok B2 (m := 6) (by decide)
    have N3 := B3.noN
    obtain ⟨n, en⟩ : ∃ n : Nat, 1 + v = n := ⟨(1 + v).toNat, by omega⟩
    have n0 : n ≠ 0 := by omega
    have e := law_low_ok (t - 6) n0
    refine ⟨mkRat (t - 6) n, p3, ?_, hb_mk (by omega) (by omega) n0, B3⟩
    clear y0 y1 h8 hwn h8n h0 hw hB hB2 B1 Bp v0 v1 B2 B3 t0 t1 n0
    unfold g_law_number w_law_number
    walk_at "go"
  · have m1 : mulC 2 w = true := mulC_of (A := 2) (B := B) (by decide) hwn (by decide) (by unfold LIM; omega)
    obtain ⟨t, p2, q2, t0, t1, B2⟩ := take_ok B1.vi (m := 2 * w + 1) (by omega)
    obtain ⟨v, p3, q3, v0, v1, B3⟩ := take_ok B2 (m := w) h0
    have N3 := B3.noN
    obtain ⟨n, en⟩ : ∃ n : Nat, 1 + v = n := ⟨(1 + v).toNat, by omega⟩
    have n0 : n ≠ 0 := by omega
    have e := law_low_ok (t - w) n0
    refine ⟨mkRat (t - w) n, p3, ?_, hb_mk (by omega) (by omega) n0, B3⟩
    clear y0 y1 h8 hwn h8n h0 hw hB hB2 B1 Bp v0 v1 B2 B3 t0 t1 n0
    unfold g_law_number w_law_number
    walk_at "go"
def RowL (x : P) (r : List Rat) : Prop := x = .nd true .lst (nPs r) ∨ x = .ow true .lst (nPs r)
def GridL : List P → List (List Rat) → Prop
  | [], [] => True
  | x :: xs, r :: rs => RowL x r ∧ GridL xs rs
  | _, _ => False
theorem RowL.fr {x : P} {r : List Rat} (h : RowL x r) : fr x = .nd true .lst (nPs r) := by
  rcases h with rfl | rfl <;> rw [Hm.fr, frs_nPs]
theorem RowL.vw {x : P} {r : List Rat} (h : RowL x r) : vw x = .nd false .lst (nPs r) := by
  rcases h with rfl | rfl <;> rw [Hm.vw, vws_nPs]
theorem RowL.nob {x : P} {r : List Rat} (h : RowL x r) : nob x = true := by
  rcases h with rfl | rfl
  · show (true && nobs (nPs r)) = true
    rw [nobs_nPs]
    rfl
  · show (true && nobs (nPs r)) = true
    rw [nobs_nPs]
    rfl
theorem GridL.vws : ∀ {xs : List P} {g : List (List Rat)}, GridL xs g → vws xs = gPs false g
  | [], [], _ => rfl
  | x :: xs, r :: g, h => by
    rw [Hm.vws, h.1.vw, GridL.vws h.2]
    rfl
  | [], _ :: _, h => h.elim
  | _ :: _, [], h => h.elim
theorem GridL.frs : ∀ {xs : List P} {g : List (List Rat)}, GridL xs g → frs xs = gPs true g
  | [], [], _ => rfl
  | x :: xs, r :: g, h => by
    rw [Hm.frs, h.1.fr, GridL.frs h.2]
    rfl
  | [], _ :: _, h => h.elim
  | _ :: _, [], h => h.elim
theorem GridL.nobs : ∀ {xs : List P} {g : List (List Rat)}, GridL xs g → nobs xs = true
  | [], [], _ => rfl
  | x :: xs, r :: g, h => by
    rw [Hm.nobs, h.1.nob, GridL.nobs h.2]
    rfl
  | [], _ :: _, h => h.elim
  | _ :: _, [], h => h.elim
theorem GridL.len : ∀ {xs : List P} {g : List (List Rat)}, GridL xs g → xs.length = g.length
  | [], [], _ => rfl
  | x :: xs, r :: g, h => by rw [List.length_cons, List.length_cons, GridL.len h.2]
  | [], _ :: _, h => h.elim
  | _ :: _, [], h => h.elim
theorem GridL.get : ∀ {xs : List P} {g : List (List Rat)} {j : Nat}, GridL xs g → (h : j < g.length) → ∃ x, xs[j]? = some x ∧ RowL x g[j]
  | [], [], _, _, h => by cases h
  | x :: xs, r :: g, 0, h, _ => ⟨x, rfl, h.1⟩
  | x :: xs, r :: g, j + 1, h, hj => by
    obtain ⟨y, h1, h2⟩ := GridL.get (j := j) h.2 (by simpa using hj)
    exact ⟨y, by simpa using h1, by simpa using h2⟩
  | [], _ :: _, _, h, _ => h.elim
  | _ :: _, [], _, h, _ => h.elim
theorem GridL.set : ∀ {xs : List P} {g : List (List Rat)} {j : Nat} {y : P}, GridL xs g → (h : j < g.length) → RowL y g[j] → GridL (xs.set j y) g
  | [], [], _, _, _, h, _ => by cases h
  | x :: xs, r :: g, 0, y, h, _, hy => ⟨hy, h.2⟩
  | x :: xs, r :: g, j + 1, y, h, hj, hy => ⟨h.1, GridL.set (j := j) h.2 (by simpa using hj) (by simpa using hy)⟩
  | [], _ :: _, _, _, h, _, _ => h.elim
  | _ :: _, [], _, _, h, _, _ => h.elim
def Cd (i : Nat) (g : List (List Rat)) : Prop := ∀ j, ∃ D : Nat, 0 < D ∧ D < 2 ^ (21 * i + 1) ∧ ∀ r ∈ g, ∃ x : Int, r.getD j 0 * (D : Rat) = (x : Rat) ∧ x.natAbs < 2 ^ (21 * i + 1)
theorem Cd.nil : Cd 0 [] := fun j => ⟨1, by decide, by decide, fun _ h => nomatch h⟩
theorem pow_split (a b : Nat) : 2 ^ (a + b) = 2 ^ a * 2 ^ b := Nat.pow_add 2 a b
theorem lt_mul {a b m n : Nat} (h : a < 2 ^ m) (h' : b < 2 ^ n) : a * b < 2 ^ (m + n) := by
  rw [pow_split]
  exact Nat.mul_lt_mul'' h h'
theorem getD_hb {B : Nat} {r : List Rat} (h : Bd B r) (h0 : 0 < B) (j : Nat) : Hb B (r.getD j 0) := by
  by_cases hj : j < r.length
  · rw [getD_at hj]; exact h.at hj
  · rw [List.getD_eq_getElem?_getD, List.getElem?_eq_none (by omega)]
    exact hb_zero.mono h0
theorem Cd.base {i : Nat} {g : List (List Rat)} {r : List Rat} (h : Cd i g) (hr : Bd 20 r) : Cd (i + 1) (g ++ [r]) := fun j => by
  obtain ⟨D, d0, d1, hx⟩ := h j
  have hq := getD_hb hr (by decide) j
  generalize hqe : r.getD j 0 = q at hq
  have qd : q * (q.den : Rat) = (q.num : Rat) := by
    have := rat_eq q
    have h2 := den_ne q
    grind
  refine ⟨D * q.den, Nat.mul_pos d0 q.den_pos, Nat.lt_of_lt_of_le (lt_mul d1 hq.2) (Nat.pow_le_pow_right (by decide) (by omega)), fun s hs => ?_⟩
  rcases List.mem_append.mp hs with hs | hs
  · obtain ⟨x, e, hb⟩ := hx s hs
    refine ⟨x * q.den, ?_, ?_⟩
    · rw [Rat.natCast_mul, Rat.intCast_mul, ← Rat.mul_assoc, e]
      rfl
    · rw [Int.natAbs_mul, Int.natAbs_natCast]
      exact Nat.lt_of_lt_of_le (lt_mul hb hq.2) (Nat.pow_le_pow_right (by decide) (by omega))
  · rw [List.mem_singleton.mp hs, hqe]
    refine ⟨q.num * D, ?_, ?_⟩
    · rw [Rat.natCast_mul, Rat.intCast_mul, ← qd]
      have : (((D : Nat) : Int) : Rat) = (D : Rat) := rfl
      rw [this]
      grind
    · rw [Int.natAbs_mul, Int.natAbs_natCast]
      exact Nat.lt_of_lt_of_le (lt_mul hq.1 d1) (Nat.pow_le_pow_right (by decide) (by omega))
theorem Cd.sum {i n : Nat} {g : List (List Rat)} {a b : List Rat} {c : Rat} (h : Cd i g) (hw : Wide n g) (ha : a ∈ g) (hb : b ∈ g) (hc : Hb 2 c) : Cd (i + 1) (g ++ [rAdd a (rMul c b)]) := fun j => by
  obtain ⟨D, d0, d1, hx⟩ := h j
  have qd : c * (c.den : Rat) = (c.num : Rat) := by
    have := rat_eq c
    have h2 := den_ne c
    grind
  refine ⟨D * c.den, Nat.mul_pos d0 c.den_pos, Nat.lt_of_lt_of_le (lt_mul d1 hc.2) (Nat.pow_le_pow_right (by decide) (by omega)), fun s hs => ?_⟩
  rcases List.mem_append.mp hs with hs | hs
  · obtain ⟨x, e, hb⟩ := hx s hs
    refine ⟨x * c.den, ?_, ?_⟩
    · rw [Rat.natCast_mul, Rat.intCast_mul, ← Rat.mul_assoc, e]
      rfl
    · rw [Int.natAbs_mul, Int.natAbs_natCast]
      exact Nat.lt_of_lt_of_le (lt_mul hb hc.2) (Nat.pow_le_pow_right (by decide) (by omega))
  · rw [List.mem_singleton.mp hs]
    obtain ⟨x, e, xb⟩ := hx a ha
    obtain ⟨y, e', yb⟩ := hx b hb
    have et : (rAdd a (rMul c b)).getD j 0 = a.getD j 0 + c * b.getD j 0 := by
      have la := hw a ha
      have lb := hw b hb
      by_cases hj : j < n
      · rw [getD_at (by rw [rAdd_len, rMul_len]; omega), getD_at (by omega : j < a.length), getD_at (by omega : j < b.length)]
        simp only [rAdd, rMul, List.getElem_zipWith, List.getElem_map]
      · rw [List.getD_eq_getElem?_getD, List.getD_eq_getElem?_getD, List.getD_eq_getElem?_getD, List.getElem?_eq_none (by rw [rAdd_len, rMul_len]; omega), List.getElem?_eq_none (by omega), List.getElem?_eq_none (by omega)]
        simp
        grind
    rw [et]
    refine ⟨x * c.den + c.num * y, ?_, ?_⟩
    · rw [Rat.natCast_mul, Rat.intCast_add, Rat.intCast_mul, Rat.intCast_mul, ← e, ← e', ← qd]
      have : (((c.den : Nat) : Int) : Rat) = (c.den : Rat) := rfl
      rw [this]
      grind
    · have h1 : (x * (c.den : Int)).natAbs < 2 ^ (21 * i + 1 + 2) := by
        rw [Int.natAbs_mul, Int.natAbs_natCast]
        exact lt_mul xb hc.2
      have h2 : (c.num * y).natAbs < 2 ^ (2 + (21 * i + 1)) := by
        rw [Int.natAbs_mul]
        exact lt_mul hc.1 yb
      have h3 := Int.natAbs_add_le (x * (c.den : Int)) (c.num * y)
      have h4 : 2 ^ (21 * i + 1 + 2) + 2 ^ (2 + (21 * i + 1)) = 2 ^ (21 * i + 1 + 3) := by
        rw [Nat.add_comm 2 (21 * i + 1), show 21 * i + 1 + 3 = 21 * i + 1 + 2 + 1 by omega, Nat.pow_succ 2 (21 * i + 1 + 2)]
        omega
      have h5 : 2 ^ (21 * i + 1 + 3) ≤ 2 ^ (21 * (i + 1) + 1) := Nat.pow_le_pow_right (by decide) (by omega)
      omega
theorem Cd.bd {i : Nat} {g : List (List Rat)} (h : Cd i g) : BdG (21 * i + 1) g := fun r hr q hq => by
  obtain ⟨j, hj, rfl⟩ := List.getElem_of_mem hq
  obtain ⟨D, d0, d1, hx⟩ := h j
  obtain ⟨x, e, xb⟩ := hx r hr
  rw [getD_at hj] at e
  have d2 : (D : Rat) ≠ 0 := by
    intro z
    have : D = 0 := by exact_mod_cast z
    omega
  have : r[j] = mkRat x D := by
    rw [Rat.mkRat_eq_div, ← e]
    have : (((D : Nat) : Int) : Rat) = (D : Rat) := rfl
    first | rw [this] | skip
    grind
  rw [this]
  exact hb_mk xb d1 (by omega)
section
variable {A B : Nat} {k k2 k3 k4 : Bool} {g : List (List Rat)} {m : Nat}
end
theorem rDot_comm : ∀ a b : List Rat, rDot a b = rDot b a
  | [], [] => rfl
  | [], _ :: _ => rfl
  | _ :: _, [] => rfl
  | x :: a, y :: b => by rw [rDot, rDot, rDot_comm a b, Rat.mul_comm]
theorem gT_at {g : List (List Rat)} {w j : Nat} (h : j < (gT' g w).length) : (gT' g w)[j] = col g j := by
  simp [gT']
theorem col_at {g : List (List Rat)} {i j : Nat} (h : i < (col g j).length) : (col g j)[i] = (g[i]'(by rw [col_len] at h; exact h)).getD j 0 := by
  simp [col]
theorem gT_gT {g : List (List Rat)} {w : Nat} (hw : Wide w g) : gT' (gT' g w) g.length = g := by
  apply List.ext_getElem
  · rw [gT_len]
  · intro i h1 h2
    rw [gT_at]
    apply List.ext_getElem
    · rw [col_len, gT_len, hw _ (List.getElem_mem h2)]
    · intro j h3 h4
      rw [col_at, gT_at, getD_at (by rw [col_len]; exact h2), col_at, getD_at h4]
theorem wide_gT {g : List (List Rat)} {w : Nat} : Wide g.length (gT' g w) := fun r hr => by
  obtain ⟨j, _, rfl⟩ := List.mem_map.mp hr
  exact col_len
def sqr (r : List Rat) : List Rat := r.map fun x => x * x
def eff (w : List Rat) : List (List Rat) → Rat
  | [] => 0
  | r :: g => rDot w (sqr r) + eff w g
section
variable {A B : Nat} {k k2 : Bool}
end
section
variable {A B : Nat} {k k2 : Bool}
end
def nz (r : List Rat) : Bool := r.all fun q => decide (q = 0)
section
variable {A B : Nat} {k k2 : Bool}
end
theorem is_whole_ok (i : Int) : g_is_whole [.int i] = .ok (.bl true) [] := by
  have ib : isiP "bool" [.int i] = some (.bl false) := rfl
  have ii : isiP "int" [.int i] = some (.bl true) := rfl
  unfold g_is_whole w_is_whole
  walk_at "go"
def clr (row p : List Rat) (j : Nat) : List Rat := if row.getD j 0 = 0 then row else rSub row (rMul (row.getD j 0) p)
theorem Bd.getD {B j : Nat} {r : List Rat} (h : Bd B r) (hj : j < r.length) : Hb B (r.getD j 0) := by
  rw [getD_at hj]
  exact h.at hj
structure Lin (N : Nat) (φ : List Rat → Rat) : Prop where
  sub : ∀ {a b : List Rat}, a.length = N → b.length = N → φ (rSub a b) = φ a - φ b
  mul : ∀ {a : List Rat} (c : Rat), a.length = N → φ (rMul c a) = c * φ a
def Kr (φ : List Rat → Rat) (g : List (List Rat)) : Prop := ∀ r ∈ g, φ r = 0
theorem clr_len {N j : Nat} {r p : List Rat} (hr : r.length = N) (hp : p.length = N) : (clr r p j).length = N := by
  unfold clr
  split
  · exact hr
  · rw [rSub_len, rMul_len, hr, hp, Nat.min_self]
theorem clr_at {N j i : Nat} {r p : List Rat} (hr : r.length = N) (hp : p.length = N) (hi : i < N) : (clr r p j).getD i 0 = r.getD i 0 - r.getD j 0 * p.getD i 0 := by
  unfold clr
  split
  · rename_i h
    rw [h]
    grind
  · have h1 : i < (rSub r (rMul (r.getD j 0) p)).length := by rw [rSub_len, rMul_len, hr, hp, Nat.min_self]; exact hi
    rw [getD_at h1, getD_at (r := r) (by omega : i < r.length), getD_at (r := p) (by omega : i < p.length)]
    simp only [rSub, rMul, List.getElem_zipWith, List.getElem_map]
theorem lin_clr {N j : Nat} {φ : List Rat → Rat} (L : Lin N φ) {r p : List Rat} (hr : r.length = N) (hp : p.length = N) : φ (clr r p j) = φ r - r.getD j 0 * φ p := by
  unfold clr
  split
  · rename_i h
    rw [h]
    grind
  · rw [L.sub hr (by rw [rMul_len]; exact hp), L.mul _ hp]
def IndP (N : Nat) (P : List (List Rat)) : Prop := ∀ z : List Rat, z.length = P.length → (∀ φ, Lin N φ → rDot z (P.map φ) = 0) → ∀ q ∈ z, q = 0
theorem gd_sub {a b : List Rat} {i : Nat} (h : a.length = b.length) : (rSub a b).getD i 0 = a.getD i 0 - b.getD i 0 := by
  by_cases hi : i < a.length
  · have h1 : i < (rSub a b).length := by rw [rSub_len, h, Nat.min_self]; omega
    rw [getD_at h1, getD_at hi, getD_at (by omega : i < b.length)]
    simp only [rSub, List.getElem_zipWith]
  · have h1 : ¬ i < (rSub a b).length := by rw [rSub_len, h, Nat.min_self]; omega
    rw [List.getD_eq_getElem?_getD, List.getD_eq_getElem?_getD, List.getD_eq_getElem?_getD, List.getElem?_eq_none (by omega), List.getElem?_eq_none (by omega), List.getElem?_eq_none (by omega)]
    show (0 : Rat) = 0 - 0
    grind
theorem gd_mul {a : List Rat} {c : Rat} {i : Nat} : (rMul c a).getD i 0 = c * a.getD i 0 := by
  by_cases hi : i < a.length
  · have h1 : i < (rMul c a).length := by rw [rMul_len]; exact hi
    rw [getD_at h1, getD_at hi]
    simp only [rMul, List.getElem_map]
  · have h1 : ¬ i < (rMul c a).length := by rw [rMul_len]; exact hi
    rw [List.getD_eq_getElem?_getD, List.getD_eq_getElem?_getD, List.getElem?_eq_none (by omega), List.getElem?_eq_none (by omega)]
    exact (Rat.mul_zero c).symm
def sP (Φ : List Rat → Rat) : List (Nat × List Rat) → List Rat → Rat
  | [], _ => 0
  | a :: fl, x => x.getD a.1 0 * Φ a.2 + sP Φ fl x
theorem lin_sP (N : Nat) (Φ : List Rat → Rat) : ∀ fl : List (Nat × List Rat), Lin N (sP Φ fl)
  | [] => ⟨fun _ _ => by show (0 : Rat) = 0 - 0; grind, fun c _ => by show (0 : Rat) = c * 0; grind⟩
  | a :: fl => by
    have ih := lin_sP N Φ fl
    constructor
    · intro x y hx hy
      show (rSub x y).getD a.1 0 * Φ a.2 + sP Φ fl (rSub x y) = (x.getD a.1 0 * Φ a.2 + sP Φ fl x) - (y.getD a.1 0 * Φ a.2 + sP Φ fl y)
      rw [ih.sub hx hy, gd_sub (by omega)]
      grind
    · intro x c hx
      show (rMul c x).getD a.1 0 * Φ a.2 + sP Φ fl (rMul c x) = c * (x.getD a.1 0 * Φ a.2 + sP Φ fl x)
      rw [ih.mul c hx, gd_mul]
      grind
theorem sP_off {Φ : List Rat → Rat} {x : List Rat} : ∀ {fl : List (Nat × List Rat)}, (∀ a ∈ fl, x.getD a.1 0 = 0) → sP Φ fl x = 0
  | [], _ => rfl
  | a :: fl, h => by
    show x.getD a.1 0 * Φ a.2 + sP Φ fl x = 0
    rw [h a List.mem_cons_self, sP_off fun b hb => h b (List.mem_cons_of_mem _ hb)]
    grind
theorem sP_in {Φ : List Rat → Rat} : ∀ {fl : List (Nat × List Rat)}, (fl.Pairwise fun a b => a.1 < b.1 ∧ a.2.getD b.1 0 = 0) → (∀ a ∈ fl, (∀ i, i < a.1 → a.2.getD i 0 = 0) ∧ a.2.getD a.1 0 = 1) → ∀ b ∈ fl, sP Φ fl b.2 = Φ b.2
  | a :: fl, pw, ld, b, hb => by
    obtain ⟨p1, p2⟩ := List.pairwise_cons.mp pw
    show b.2.getD a.1 0 * Φ a.2 + sP Φ fl b.2 = Φ b.2
    rcases List.mem_cons.mp hb with rfl | hb
    · rw [sP_off fun c hc => (p1 c hc).2, (ld b List.mem_cons_self).2]
      grind
    · rw [sP_in p2 (fun c hc => ld c (List.mem_cons_of_mem _ hc)) b hb, (ld b (List.mem_cons_of_mem _ hb)).1 a.1 (p1 b hb).1]
      grind
theorem lin_at (N j : Nat) : Lin N fun x => x.getD j 0 := ⟨fun ha hb => gd_sub (by omega), fun c _ => gd_mul⟩
theorem Lin.less {N : Nat} {φ ψ : List Rat → Rat} (h : Lin N φ) (k : Lin N ψ) : Lin N fun x => φ x - ψ x := ⟨fun ha hb => by rw [h.sub ha hb, k.sub ha hb]; grind, fun c ha => by rw [h.mul c ha, k.mul c ha]; grind⟩
def pj (j : Nat) (fl : List (Nat × List Rat)) (x : List Rat) : Rat := x.getD j 0 - sP (fun y => y.getD j 0) fl x
theorem lin_pj (N j : Nat) (fl : List (Nat × List Rat)) : Lin N (pj j fl) := (lin_at N j).less (lin_sP N _ fl)
theorem pj_off {j : Nat} {x : List Rat} {fl : List (Nat × List Rat)} (h : ∀ a ∈ fl, x.getD a.1 0 = 0) : pj j fl x = x.getD j 0 := by
  unfold pj
  rw [sP_off h]
  grind
theorem pj_in {j : Nat} {fl : List (Nat × List Rat)} (pw : fl.Pairwise fun a b => a.1 < b.1 ∧ a.2.getD b.1 0 = 0) (ld : ∀ a ∈ fl, (∀ i, i < a.1 → a.2.getD i 0 = 0) ∧ a.2.getD a.1 0 = 1) (b) (hb : b ∈ fl) : pj j fl b.2 = 0 := by
  unfold pj
  rw [sP_in pw ld b hb]
  grind
theorem dot_nul : ∀ (u : List Rat) (n : Nat), rDot u (nul n) = 0
  | [], n => by cases n <;> rfl
  | a :: u, 0 => rfl
  | a :: u, n + 1 => by
    show a * 0 + rDot u (nul n) = 0
    rw [dot_nul u n]
    grind
structure Inv (N : Nat) (g0 : List (List Rat)) (j : Nat) (fl : List (Nat × List Rat)) (left : List (List Rat)) : Prop where
  wf : ∀ a ∈ fl, a.2.length = N
  wl : Wide N left
  ker : ∀ φ, Lin N φ → (Kr φ g0 ↔ (∀ a ∈ fl, φ a.2 = 0) ∧ Kr φ left)
  ld : ∀ a ∈ fl, a.1 < j ∧ (∀ i, i < a.1 → a.2.getD i 0 = 0) ∧ a.2.getD a.1 0 = 1
  pw : fl.Pairwise fun a b => a.1 < b.1 ∧ a.2.getD b.1 0 = 0
  lz : ∀ r ∈ left, ∀ i, i < j → r.getD i 0 = 0
  cnt : fl.length + left.length = g0.length
  ps : ∃ P : List (List Rat), (∀ r ∈ P, r ∈ g0) ∧ P.length = fl.length ∧ (∀ φ, Lin N φ → (Kr φ P ↔ ∀ a ∈ fl, φ a.2 = 0)) ∧ (∀ x ∈ left, ∃ o ∈ g0, ∀ φ, Lin N φ → (∀ a ∈ fl, φ a.2 = 0) → φ x = φ o) ∧ IndP N P
theorem Inv.start {N : Nat} {g : List (List Rat)} (h : Wide N g) : Inv N g 0 [] g where
  wf := fun _ h => nomatch h
  wl := h
  ker := fun φ _ => ⟨fun h => ⟨(fun _ h => nomatch h), h⟩, And.right⟩
  ld := fun _ h => nomatch h
  pw := .nil
  lz := fun _ _ _ h => nomatch h
  cnt := by simp
  ps := ⟨[], (fun _ h => nomatch h), rfl, fun φ _ => ⟨(fun _ _ h => nomatch h), (fun _ _ h => nomatch h)⟩, fun x hx => ⟨x, hx, fun _ _ _ => rfl⟩, fun z hz _ q hq => by
    cases z with
    | nil => cases hq
    | cons a z => cases hz⟩
theorem Inv.skip {N j : Nat} {g0 left : List (List Rat)} {fl : List (Nat × List Rat)} (I : Inv N g0 j fl left) (h : ∀ r ∈ left, r.getD j 0 = 0) : Inv N g0 (j + 1) fl left where
  wf := I.wf
  wl := I.wl
  ker := I.ker
  ld := fun a ha => ⟨Nat.lt_succ_of_lt (I.ld a ha).1, (I.ld a ha).2⟩
  pw := I.pw
  lz := fun r hr i hi => by
    rcases Nat.lt_succ_iff_lt_or_eq.mp hi with hi | rfl
    · exact I.lz r hr i hi
    · exact h r hr
  cnt := I.cnt
  ps := I.ps
def pivOf (r : List Rat) (j : Nat) : List Rat := rMul (1 / r.getD j 0) r
theorem piv_len {r : List Rat} {j : Nat} : (pivOf r j).length = r.length := rMul_len
theorem piv_at {r : List Rat} {j i : Nat} (h : i < r.length) : (pivOf r j).getD i 0 = 1 / r.getD j 0 * r.getD i 0 := by
  have h1 : i < (pivOf r j).length := by rw [piv_len]; exact h
  rw [getD_at h1, getD_at (r := r) h]
  simp only [pivOf, rMul, List.getElem_map]
theorem step_kill {N j : Nat} {r : List Rat} {fl : List (Nat × List Rat)} (wf : ∀ a ∈ fl, a.2.length = N) (rl : r.length = N) (hr : r.getD j 0 ≠ 0) {φ : List Rat → Rat} (L : Lin N φ) :
    (∀ a ∈ fl.map (fun a => (a.1, clr a.2 (pivOf r j) j)) ++ [(j, pivOf r j)], φ a.2 = 0) ↔ (∀ a ∈ fl, φ a.2 = 0) ∧ φ r = 0 := by
  have pl : (pivOf r j).length = N := by rw [piv_len]; exact rl
  have ep : φ (pivOf r j) = 1 / r.getD j 0 * φ r := L.mul _ rl
  constructor
  · intro h
    have e0 : φ (pivOf r j) = 0 := h (j, pivOf r j) (by simp)
    refine ⟨fun a ha => ?_, by rw [e0] at ep; grind⟩
    have h1 : φ (clr a.2 (pivOf r j) j) = 0 := h (a.1, clr a.2 (pivOf r j) j) (List.mem_append_left _ (List.mem_map.mpr ⟨a, ha, rfl⟩))
    rw [lin_clr L (wf a ha) pl, e0] at h1
    grind
  · rintro ⟨h1, h2⟩ a ha
    have e0 : φ (pivOf r j) = 0 := by rw [ep, h2]; grind
    rcases List.mem_append.mp ha with ha | ha
    · obtain ⟨b, hb, rfl⟩ := List.mem_map.mp ha
      show φ (clr b.2 (pivOf r j) j) = 0
      rw [lin_clr L (wf b hb) pl, e0, h1 b hb]
      grind
    · rw [List.mem_singleton.mp ha]
      exact e0
theorem Inv.step {N j : Nat} {g0 pre post : List (List Rat)} {r : List Rat} {fl : List (Nat × List Rat)} (I : Inv N g0 j fl (pre ++ r :: post)) (hj : j < N) (hr : r.getD j 0 ≠ 0) :
    Inv N g0 (j + 1) (fl.map (fun a => (a.1, clr a.2 (pivOf r j) j)) ++ [(j, pivOf r j)]) ((pre ++ post).map fun x => clr x (pivOf r j) j) := by
  have rl : r.length = N := I.wl r (by simp)
  have pl : (pivOf r j).length = N := by rw [piv_len]; exact rl
  have p0 : ∀ i, i < j → (pivOf r j).getD i 0 = 0 := fun i hi => by
    rw [piv_at (by omega), I.lz r (by simp) i hi]
    grind
  have p1 : (pivOf r j).getD j 0 = 1 := by
    rw [piv_at (by omega)]
    grind
  have wpp : ∀ x ∈ pre ++ post, x ∈ pre ++ r :: post := fun x hx => by
    rcases List.mem_append.mp hx with h | h
    · simp [h]
    · simp [h]
  constructor
  · intro a ha
    rcases List.mem_append.mp ha with ha | ha
    · obtain ⟨b, hb, rfl⟩ := List.mem_map.mp ha
      exact clr_len (I.wf b hb) pl
    · rw [List.mem_singleton.mp ha]
      exact pl
  · intro x hx
    obtain ⟨y, hy, rfl⟩ := List.mem_map.mp hx
    exact clr_len (I.wl y (wpp y hy)) pl
  · intro φ L
    rw [I.ker φ L]
    have ep : φ (pivOf r j) = 1 / r.getD j 0 * φ r := L.mul _ rl
    constructor
    · rintro ⟨h1, h2⟩
      have e0 : φ (pivOf r j) = 0 := by rw [ep, h2 r (by simp)]; grind
      refine ⟨fun a ha => ?_, fun x hx => ?_⟩
      · rcases List.mem_append.mp ha with ha | ha
        · obtain ⟨b, hb, rfl⟩ := List.mem_map.mp ha
          show φ (clr b.2 (pivOf r j) j) = 0
          rw [lin_clr L (I.wf b hb) pl, e0, h1 b hb]
          grind
        · rw [List.mem_singleton.mp ha]
          exact e0
      · obtain ⟨y, hy, rfl⟩ := List.mem_map.mp hx
        rw [lin_clr L (I.wl y (wpp y hy)) pl, e0, h2 y (wpp y hy)]
        grind
    · rintro ⟨h1, h2⟩
      have e0 : φ (pivOf r j) = 0 := h1 (j, pivOf r j) (by simp)
      have er : φ r = 0 := by
        rw [e0] at ep
        grind
      refine ⟨fun a ha => ?_, fun x hx => ?_⟩
      · have := h1 (a.1, clr a.2 (pivOf r j) j) (List.mem_append_left _ (List.mem_map.mpr ⟨a, ha, rfl⟩))
        have e := lin_clr (j := j) L (I.wf a ha) pl
        rw [e0] at e
        have this : φ (clr a.2 (pivOf r j) j) = 0 := this
        rw [this] at e
        grind
      · have hx' : x = r ∨ x ∈ pre ++ post := by
          rcases List.mem_append.mp hx with h | h
          · exact .inr (List.mem_append_left _ h)
          · rcases List.mem_cons.mp h with h | h
            · exact .inl h
            · exact .inr (List.mem_append_right _ h)
        rcases hx' with rfl | hx'
        · exact er
        · have := h2 _ (List.mem_map.mpr ⟨x, hx', rfl⟩)
          have e := lin_clr (j := j) L (I.wl x hx) pl
          rw [e0] at e
          have this : φ (clr x (pivOf r j) j) = 0 := this
          rw [this] at e
          grind
  · intro a ha
    rcases List.mem_append.mp ha with ha | ha
    · obtain ⟨b, hb, rfl⟩ := List.mem_map.mp ha
      obtain ⟨h1, h2, h3⟩ := I.ld b hb
      refine ⟨Nat.lt_succ_of_lt h1, fun i hi => ?_, ?_⟩
      · show (clr b.2 (pivOf r j) j).getD i 0 = 0
        have hi : i < b.1 := hi
        rw [clr_at (I.wf b hb) pl (by omega), h2 i hi, p0 i (by omega)]
        grind
      · show (clr b.2 (pivOf r j) j).getD b.1 0 = 1
        rw [clr_at (I.wf b hb) pl (by omega), h3, p0 _ h1]
        grind
    · rw [List.mem_singleton.mp ha]
      exact ⟨Nat.lt_succ_self _, p0, p1⟩
  · rw [List.pairwise_append]
    refine ⟨?_, List.pairwise_singleton _ _, ?_⟩
    · rw [List.pairwise_map]
      refine I.pw.imp_of_mem fun {a b} ha hb h => ⟨h.1, ?_⟩
      show (clr a.2 (pivOf r j) j).getD b.1 0 = 0
      have := (I.ld b hb).1
      rw [clr_at (I.wf a ha) pl (by omega), h.2, p0 _ this]
      grind
    · intro a ha b hb
      rw [List.mem_singleton.mp hb]
      obtain ⟨c, hc, rfl⟩ := List.mem_map.mp ha
      refine ⟨(I.ld c hc).1, ?_⟩
      show (clr c.2 (pivOf r j) j).getD j 0 = 0
      rw [clr_at (I.wf c hc) pl hj, p1]
      grind
  · intro x hx i hi
    obtain ⟨y, hy, rfl⟩ := List.mem_map.mp hx
    rw [clr_at (I.wl y (wpp y hy)) pl (by omega)]
    rcases Nat.lt_succ_iff_lt_or_eq.mp hi with hi | rfl
    · rw [I.lz y (wpp y hy) i hi, p0 i hi]
      grind
    · rw [p1]
      grind
  · have := I.cnt
    simp at this ⊢
    omega
  · obtain ⟨P, h1, h2, h3, h4, h5⟩ := I.ps
    obtain ⟨o, ho, eo⟩ := h4 r (by simp)
    have sk := fun φ (L : Lin N φ) => step_kill (j := j) I.wf rl hr L
    refine ⟨o :: P, fun x hx => ?_, by simp [h2], fun φ L => ?_, fun x hx => ?_, fun z hz k => ?_⟩
    · rcases List.mem_cons.mp hx with rfl | hx
      · exact ho
      · exact h1 x hx
    · rw [sk φ L, ← h3 φ L]
      constructor
      · intro k
        have kP : Kr φ P := fun x hx => k x (List.mem_cons_of_mem _ hx)
        exact ⟨kP, (eo φ L ((h3 φ L).mp kP)).trans (k o List.mem_cons_self)⟩
      · rintro ⟨k1, k2⟩ x hx
        rcases List.mem_cons.mp hx with rfl | hx
        · exact (eo φ L ((h3 φ L).mp k1)).symm.trans k2
        · exact k1 x hx
    · obtain ⟨y, hy, rfl⟩ := List.mem_map.mp hx
      obtain ⟨o2, ho2, eo2⟩ := h4 y (wpp y hy)
      refine ⟨o2, ho2, fun φ L k => ?_⟩
      have e0 : φ (pivOf r j) = 0 := k (j, pivOf r j) (by simp)
      rw [lin_clr L (I.wl y (wpp y hy)) pl, e0, eo2 φ L ((sk φ L).mp k).1]
      grind
    · cases z with
      | nil => cases hz
      | cons z0 zs =>
        have k' : ∀ φ, Lin N φ → z0 * φ o + rDot zs (P.map φ) = 0 := k
        have hz0 : z0 = 0 := by
          have L := lin_pj N j fl
          have kf : ∀ a ∈ fl, pj j fl a.2 = 0 := pj_in I.pw fun a ha => (I.ld a ha).2
          have kP := (h3 _ L).mpr kf
          have e1 := k' _ L
          have e2 : rDot zs (P.map (pj j fl)) = 0 := by
            have : P.map (pj j fl) = nul P.length := by
              unfold nul
              refine List.eq_replicate_iff.mpr ⟨List.length_map .., fun x hx => ?_⟩
              obtain ⟨y, hy, rfl⟩ := List.mem_map.mp hx
              exact kP y hy
            rw [this]
            exact dot_nul zs _
          have e3 : pj j fl r = r.getD j 0 := pj_off fun a ha => I.lz r (by simp) a.1 (I.ld a ha).1
          rw [e2, ← eo _ L kf, e3] at e1
          grind
        intro q hq
        rcases List.mem_cons.mp hq with rfl | hq
        · exact hz0
        · refine h5 zs (by simpa using hz) (fun φ L => ?_) q hq
          have := k' φ L
          rw [hz0] at this
          grind
def bb (B : Nat) : Nat → Nat
  | 0 => B
  | t + 1 => 4 * bb B t + 1
structure Meas where
  M : Nat → List Rat → Prop
  nx : Nat → Nat
  bd : ∀ {b : Nat} {r : List Rat}, M b r → Bd b r
  mono : ∀ {a b : Nat} {r : List Rat}, M a r → a ≤ b → M b r
  le : ∀ b, b ≤ nx b
  piv : ∀ {b j : Nat} {r : List Rat}, M b r → j < r.length → r.getD j 0 ≠ 0 → M (nx b) (pivOf r j)
  clr : ∀ {b j : Nat} {r x : List Rat}, M b r → M b x → j < r.length → x.length = r.length → r.getD j 0 ≠ 0 → M (nx b) (clr x (pivOf r j) j)
def Meas.it (μ : Meas) (B : Nat) : Nat → Nat
  | 0 => B
  | t + 1 => μ.nx (μ.it B t)
def MG (μ : Meas) (b : Nat) (g : List (List Rat)) : Prop := ∀ r ∈ g, μ.M b r
theorem MG.mono {μ : Meas} {a b : Nat} {g : List (List Rat)} (h : MG μ a g) (e : a ≤ b) : MG μ b g := fun r hr => μ.mono (h r hr) e
theorem MG.bd {μ : Meas} {a : Nat} {g : List (List Rat)} (h : MG μ a g) : BdG a g := fun r hr => μ.bd (h r hr)
def fs (fl : List (Nat × List Rat)) : List (List Rat) := fl.map Prod.snd
theorem Inv.cnt_le {N j : Nat} {g0 left : List (List Rat)} {fl : List (Nat × List Rat)} (I : Inv N g0 j fl left) : fl.length ≤ g0.length := by
  have := I.cnt
  omega
def besU (g : List (List Rat)) : List (List Rat) := g.zipIdx.map fun a => a.1 ++ unit g.length a.2
theorem besU_len {g : List (List Rat)} : (besU g).length = g.length := by simp [besU]
theorem rDot_sub : ∀ {a b v : List Rat}, a.length = b.length → rDot (rSub a b) v = rDot a v - rDot b v
  | [], [], v, _ => by simp [rSub, rDot]; grind
  | [], _ :: _, _, h => by simp at h
  | _ :: _, [], _, h => by simp at h
  | x :: a, y :: b, [], _ => by simp [rSub, rDot]; grind
  | x :: a, y :: b, z :: v, h => by
    have ih := rDot_sub (a := a) (b := b) (v := v) (by simpa using h)
    simp only [rSub, List.zipWith_cons_cons, rDot] at ih ⊢
    rw [ih]
    grind
theorem rDot_mul (c : Rat) : ∀ (a v : List Rat), rDot (rMul c a) v = c * rDot a v
  | [], v => by simp [rMul, rDot]
  | x :: a, [] => by simp [rMul, rDot]
  | x :: a, z :: v => by
    have ih := rDot_mul c a v
    simp only [rMul, List.map_cons, rDot] at ih ⊢
    rw [ih]
    grind
theorem rMul_drop (n : Nat) (c : Rat) (a : List Rat) : (rMul c a).drop n = rMul c (a.drop n) := by
  unfold rMul
  rw [List.map_drop]
theorem rSub_at {a b : List Rat} {i : Nat} (h : a.length = b.length) : (rSub a b).getD i 0 = a.getD i 0 - b.getD i 0 := by
  by_cases hi : i < a.length
  · rw [getD_at (by rw [rSub_len, ← h, Nat.min_self]; exact hi), getD_at hi, getD_at (by omega : i < b.length)]
    simp only [rSub, List.getElem_zipWith]
  · rw [List.getD_eq_getElem?_getD, List.getD_eq_getElem?_getD, List.getD_eq_getElem?_getD, List.getElem?_eq_none (by rw [rSub_len, ← h, Nat.min_self]; omega), List.getElem?_eq_none (by omega), List.getElem?_eq_none (by omega)]
    simp
    grind
theorem rMul_at {a : List Rat} {c : Rat} {i : Nat} : (rMul c a).getD i 0 = c * a.getD i 0 := by
  by_cases hi : i < a.length
  · rw [getD_at (by rw [rMul_len]; exact hi), getD_at hi]
    simp only [rMul, List.getElem_map]
  · rw [List.getD_eq_getElem?_getD, List.getD_eq_getElem?_getD, List.getElem?_eq_none (by rw [rMul_len]; omega), List.getElem?_eq_none (by omega)]
    simp
theorem rDot_set : ∀ (u v : List Rat) (i : Nat) (x : Rat), u.length = v.length → i < v.length → v.getD i 0 = 0 → rDot u (v.set i x) = rDot u v + u.getD i 0 * x
  | [], v, i, x, h, hi, _ => by
    rw [← h] at hi
    cases hi
  | y :: u, [], i, x, h, hi, _ => by cases hi
  | y :: u, z :: v, 0, x, h, hi, hz => by
    simp at hz
    subst hz
    simp [rDot]
    grind
  | y :: u, z :: v, i + 1, x, h, hi, hz => by
    have ih := rDot_set u v i x (by simpa using h) (by simpa using hi) (by simpa using hz)
    simp only [List.set_cons_succ, rDot, ih]
    simp
    grind
theorem rDot_nulr : ∀ (u : List Rat) (n : Nat), rDot u (nul n) = 0
  | [], _ => by simp [rDot]
  | _ :: _, 0 => by simp [rDot, nul]
  | x :: u, n + 1 => by
    have ih := rDot_nulr u n
    simp only [nul, List.replicate_succ, rDot] at ih ⊢
    rw [ih]
    grind
theorem nul_at {n i : Nat} : (nul n).getD i 0 = 0 := by
  unfold nul
  rw [List.getD_eq_getElem?_getD, List.getElem?_replicate]
  split <;> rfl
theorem rDot_unit {n i : Nat} (v : List Rat) (hi : i < n) (hv : v.length = n) : rDot (unit n i) v = v.getD i 0 := by
  rw [rDot_comm]
  unfold unit
  rw [rDot_set v (nul n) i 1 (by rw [hv, nul_len]) (by rw [nul_len]; exact hi) nul_at, rDot_nulr]
  grind
def ansF (n : Nat) (fl : List (Nat × List Rat)) (v : List Rat) : List Rat := fl.foldl (fun v a => v.set a.1 (a.2.getD n 0)) v
def sF (u : List Rat) (n : Nat) : List (Nat × List Rat) → Rat
  | [] => 0
  | a :: fl => u.getD a.1 0 * a.2.getD n 0 + sF u n fl
theorem set_at {v : List Rat} {i k : Nat} {x : Rat} (h : i ≠ k) : (v.set i x).getD k 0 = v.getD k 0 := by
  rw [List.getD_eq_getElem?_getD, List.getD_eq_getElem?_getD, List.getElem?_set_ne h]
theorem ans_dot {u : List Rat} {n : Nat} : ∀ {fl : List (Nat × List Rat)} {v : List Rat}, u.length = v.length → (∀ a ∈ fl, a.1 < v.length ∧ v.getD a.1 0 = 0) → fl.Pairwise (fun a b => a.1 < b.1) → rDot u (ansF n fl v) = rDot u v + sF u n fl
  | [], v, _, _, _ => by
    show rDot u v = _
    rw [sF, Rat.add_zero]
  | a :: fl, v, h, h1, hp => by
    obtain ⟨p1, p2⟩ := List.pairwise_cons.mp hp
    show rDot u (ansF n fl (v.set a.1 (a.2.getD n 0))) = _
    rw [ans_dot (by rw [List.length_set]; exact h) (fun b hb => ⟨by rw [List.length_set]; exact (h1 b (List.mem_cons_of_mem _ hb)).1, by rw [set_at (Nat.ne_of_lt (p1 b hb))]; exact (h1 b (List.mem_cons_of_mem _ hb)).2⟩) p2,
      rDot_set u v a.1 _ h (h1 a List.mem_cons_self).1 (h1 a List.mem_cons_self).2, sF]
    grind
theorem sF_zero {u : List Rat} {n : Nat} : ∀ {fl : List (Nat × List Rat)}, (∀ a ∈ fl, u.getD a.1 0 = 0) → sF u n fl = 0
  | [], _ => rfl
  | a :: fl, h => by
    rw [sF, h a List.mem_cons_self, sF_zero fun b hb => h b (List.mem_cons_of_mem _ hb)]
    grind
theorem sF_app {u : List Rat} {n : Nat} : ∀ {fl fl2 : List (Nat × List Rat)}, sF u n (fl ++ fl2) = sF u n fl + sF u n fl2
  | [], fl2 => by show sF u n fl2 = 0 + _; rw [Rat.zero_add]
  | a :: fl, fl2 => by
    show u.getD a.1 0 * a.2.getD n 0 + sF u n (fl ++ fl2) = _
    rw [sF_app, sF]
    grind
theorem take_at {r : List Rat} {n i : Nat} (h : i < n) : (r.take n).getD i 0 = r.getD i 0 := by
  rw [List.getD_eq_getElem?_getD, List.getD_eq_getElem?_getD, List.getElem?_take, if_pos h]
theorem Inv.ans {N n : Nat} {g0 left : List (List Rat)} {fl : List (Nat × List Rat)} (I : Inv N g0 n fl left) (hn : n ≤ N) {a : Nat × List Rat} (ha : a ∈ fl) : rDot (a.2.take n) (ansF n fl (nul n)) = a.2.getD n 0 := by
  have lt := I.ld
  rw [ans_dot (by rw [List.length_take, nul_len, I.wf a ha]; omega) (fun b hb => ⟨by rw [nul_len]; exact (lt b hb).1, nul_at⟩) (I.pw.imp And.left), rDot_nulr]
  obtain ⟨l1, l2, rfl⟩ := List.append_of_mem ha
  obtain ⟨p1, p2, p3⟩ := List.pairwise_append.mp I.pw
  have q := List.pairwise_cons.mp p2
  rw [sF_app, sF, sF_zero fun b hb => ?_, sF_zero fun b hb => ?_, take_at (lt a ha).1, (lt a ha).2.2]
  · grind
  · rw [take_at (lt b (by simp [hb])).1]
    exact (q.1 b hb).2
  · have h1 := (p3 b hb a (by simp)).1
    rw [take_at (lt b (by simp [hb])).1]
    exact (lt a ha).2.1 b.1 h1
def withDue (rows : List (List Rat)) (due : List Rat) : List (List Rat) := List.zipWith (fun r d => r ++ [d]) rows due
def lg (rows : List (List Rat)) (due : List Rat) : List (List Rat) := besU (withDue rows due)
section
variable {rows : List (List Rat)} {due : List Rat} {n : Nat}
theorem withDue_len (h : due.length = rows.length) : (withDue rows due).length = rows.length := by
  unfold withDue
  rw [List.length_zipWith, h, Nat.min_self]
theorem lg_len (h : due.length = rows.length) : (lg rows due).length = rows.length := by
  unfold lg
  rw [besU_len, withDue_len h]
def priceOf (n : Nat) (x : List Rat) : List Rat := rMul (1 / x.getD n 0) (x.drop (n + 1))
end
def MadeBy (rows : List (List Rat)) (n : Nat) (due ans : List Rat) : Prop := ∃ fl left, Inv (n + 1 + rows.length) (lg rows due) n fl left ∧ fl.length ≤ n ∧ (ans = ansF n fl (nul n) ∨ ∃ x ∈ left, x.getD n 0 ≠ 0 ∧ ans = priceOf n x)
section
variable {p : Pt} {e : VE} {own : List Nat} {ρ : VEnv} {k : Bool}
end
open Classical in
theorem eqQ_rw {p q : P} {a b : List Rat} (hp : dtt 8 p = true) (hq : dtt 8 q = true) (vp : vw p = .nd false .lst (nPs a)) (vq : vw q = .nd false .lst (nPs b)) : eqQ p q = some (decide (a = b)) := by
  rw [eqQ_dtt hp hq, vp, vq]
  congr 1
  by_cases h : a = b
  · subst h; simp
  · have : P.nd false .lst (nPs a) ≠ .nd false .lst (nPs b) := fun z => h (by injection z with _ _ z; exact nPs_inj z)
    simp [h, this]
open Classical in
theorem eqQ_gd {p q : P} {a b : List (List Rat)} (hp : dtt 8 p = true) (hq : dtt 8 q = true) (vp : vw p = .nd false .lst (gPs false a)) (vq : vw q = .nd false .lst (gPs false b)) : eqQ p q = some (decide (a = b)) := by
  rw [eqQ_dtt hp hq, vp, vq]
  congr 1
  by_cases h : a = b
  · subst h; simp
  · have : P.nd false .lst (gPs false a) ≠ .nd false .lst (gPs false b) := fun z => h (by injection z with _ _ z; exact gPs_inj z)
    simp [h, this]
section
variable (k k2 k3 k4 : Bool) (a b : List Rat) (g h : List (List Rat))
theorem eqQ_r1 : eqQ (.ow k .lst (nPs a)) (.nd k2 .lst (nPs b)) = some (decide (a = b)) := eqQ_rw (by rw [dtt, dtts_nPs]) (by rw [dtt, dtts_nPs]) (by rw [vw, vws_nPs]) (by rw [vw, vws_nPs])
theorem eqQ_r2 : eqQ (.nd k .lst (nPs a)) (.ow k2 .lst (nPs b)) = some (decide (a = b)) := eqQ_rw (by rw [dtt, dtts_nPs]) (by rw [dtt, dtts_nPs]) (by rw [vw, vws_nPs]) (by rw [vw, vws_nPs])
theorem eqQ_r3 : eqQ (.ow k .lst (nPs a)) (.ow k2 .lst (nPs b)) = some (decide (a = b)) := eqQ_rw (by rw [dtt, dtts_nPs]) (by rw [dtt, dtts_nPs]) (by rw [vw, vws_nPs]) (by rw [vw, vws_nPs])
theorem eqQ_r4 : eqQ (.nd k .lst (nPs a)) (.nd k2 .lst (nPs b)) = some (decide (a = b)) := eqQ_rw (by rw [dtt, dtts_nPs]) (by rw [dtt, dtts_nPs]) (by rw [vw, vws_nPs]) (by rw [vw, vws_nPs])
theorem eqQ_g1 : eqQ (.nd k .lst (gPs k3 g)) (.nd k2 .lst (gPs k4 h)) = some (decide (g = h)) := eqQ_gd (by rw [dtt, dtts_gPs]) (by rw [dtt, dtts_gPs]) (by rw [vw, vws_gPs]) (by rw [vw, vws_gPs])
theorem eqQ_g2 : eqQ (.ow k .lst (gPs k3 g)) (.nd k2 .lst (gPs k4 h)) = some (decide (g = h)) := eqQ_gd (by rw [dtt, dtts_gPs]) (by rw [dtt, dtts_gPs]) (by rw [vw, vws_gPs]) (by rw [vw, vws_gPs])
theorem eqQ_g3 : eqQ (.ow k .lst (oPs k3 g)) (.nd k2 .lst (gPs k4 h)) = some (decide (g = h)) := eqQ_gd (by rw [dtt, dtts_oPs]) (by rw [dtt, dtts_gPs]) (by rw [vw, vws_oPs]) (by rw [vw, vws_gPs])
theorem eqQ_g4 : eqQ (.nd k .lst (gPs k3 g)) (.ow k2 .lst (oPs k4 h)) = some (decide (g = h)) := eqQ_gd (by rw [dtt, dtts_gPs]) (by rw [dtt, dtts_oPs]) (by rw [vw, vws_gPs]) (by rw [vw, vws_oPs])
theorem eqQ_g5 : eqQ (.ow k .lst (oPs k3 g)) (.ow k2 .lst (oPs k4 h)) = some (decide (g = h)) := eqQ_gd (by rw [dtt, dtts_oPs]) (by rw [dtt, dtts_oPs]) (by rw [vw, vws_oPs]) (by rw [vw, vws_oPs])
theorem eqQ_g6 : eqQ (.nd k .lst (gPs k3 g)) (.ow k2 .lst (gPs k4 h)) = some (decide (g = h)) := eqQ_gd (by rw [dtt, dtts_gPs]) (by rw [dtt, dtts_gPs]) (by rw [vw, vws_gPs]) (by rw [vw, vws_gPs])
end
theorem ixN_10 : ixN 1 0 = some 0 := rfl
theorem ixN_20 : ixN 2 0 = some 0 := rfl
theorem ixN_21 : ixN 2 1 = some 1 := rfl
theorem ixN_30 : ixN 3 0 = some 0 := rfl
theorem ixN_31 : ixN 3 1 = some 1 := rfl
theorem ixN_32 : ixN 3 2 = some 2 := rfl
def natPs (is : List Nat) : List P := is.map fun (j : Nat) => P.int (j : Int)
theorem nobs_nat : ∀ is : List Nat, nobs (natPs is) = true
  | [] => rfl
  | i :: is => nobs_nat is
theorem frs_nat : ∀ is : List Nat, frs (natPs is) = natPs is
  | [] => rfl
  | i :: is => congrArg (P.int (i : Int) :: ·) (frs_nat is)
theorem vws_nat : ∀ is : List Nat, vws (natPs is) = natPs is
  | [] => rfl
  | i :: is => congrArg (P.int (i : Int) :: ·) (vws_nat is)
theorem vis_nat : ∀ is : List Nat, vis (natPs is) = natPs is
  | [] => rfl
  | i :: is => congrArg (P.int (i : Int) :: ·) (vis_nat is)
theorem noos_nat : ∀ is : List Nat, noos (natPs is) = true
  | [] => rfl
  | i :: is => noos_nat is
theorem noNs_nat : ∀ is : List Nat, noNs (natPs is) = true
  | [] => rfl
  | i :: is => noNs_nat is
theorem natPs_len (is : List Nat) : (natPs is).length = is.length := List.length_map ..
theorem allP_b {k : Bool} (bs : List Bool) : allP [.ow k .lst (bs.map P.bl)] = some (.bl (bs.all id)) := by
  have e : blsP (bs.map P.bl) = some bs := by
    induction bs with
    | nil => rfl
    | cons b bs ih => rw [List.map_cons, blsP, ih]; rfl
  show (blsP (bs.map P.bl)).map (fun bs => P.bl (bs.all id)) = _
  rw [e]
  rfl
local macro_rules | `(tactic| trivial) => `(tactic| simp only [gnD, endV, outsV, vSq, Vt.andThen, vIf, vAs, vRt, vRn, vEx, vNx, vBad, vBk, vCt, Vr.st, Vr.bind, vBor, vBor1, vwE, vV, vMv, vFrM1, Vt.upd, vLc, wipeV, atP_0, atP_1, atP_2, atP_3, vC, vBi, vUn, vCal, vK, vN, vCll0, vCll1, vCllT, vT, vL, vTst, vTru, vNotB, vAndB, vOrB, vNotD, vAndD, vOrD, vIfD, vPr, vgV, vgC, vgT, vgN, vFr, vRng1, vRng2, vEnu, vZp, vWalk, vSet, vMeN, vMe, vAugI, vAugV, updL, subT, repT, apF, exF, isLst, pa0, paI, vSli, vNoP, vP, vYes0, subP, mulP, modP, divP, ltP, leP, gtP, geP, iiP, tr2, negP, absP, maxP, minP, intP, eqP, neP, isP, isnP, isbP, isnbP, noo, noos, nob, nobs, fr, frs, vw, vws, vi, vis, noN, noNs, nobX_none, nobX_some, Option.map_some, Option.map_none, Option.bind_some, Option.bind_none, Option.isSome_some, List.length_cons, List.length_nil, List.map_cons, List.map_nil, List.getElem?_cons_zero, List.getElem?_cons_succ, List.getElem?_nil, List.set_cons_zero, List.set_cons_succ, List.cons_append, List.nil_append, List.replicate_succ, List.replicate_zero, Nat.sub_self, Nat.reduceSub, Nat.reduceAdd, Nat.reduceLT, Nat.reduceLeDiff, Nat.zero_lt_succ, Nat.lt_add_one, Nat.zero_add, Int.reduceEq, Int.reduceLT, Int.reduceLE, if_true, if_false, Bool.false_eq_true, reduceCtorEq, ite_true, ite_false, decide_true, decide_false, not_true_eq_false, not_false_eq_true, Bool.not_true, Bool.not_false, Bool.and_true, Bool.true_and, Bool.and_self, Bool.and_false, Bool.false_and, eq_self, and_self, and_true, true_and, isNonP, noo_nP, nob_nP, noN_nP, fr_nP, vw_nP, vi_nP, noos_nPs, nobs_nPs, noNs_nPs, frs_nPs, vws_nPs, vis_nPs, noos_gPs, nobs_oPs, nobs_gPs, frs_oPs, frs_gPs, vws_oPs, vws_gPs, nPs_len, gPs_len, oPs_len, eqQ_num, eqQ_row, eqQ_grid, eqQ_int, ixP_t0, ixP_t1, ixP_t2, ixP_n0, ixP_n1, ixP_l0, ixP_l1, ixP_l2, ixP_l3, atP_n0, atP_n1, lenP_l, lenP_o, lenP_t, lenP_n, addP_ii, truP_bl, isi_tn, isi_tt, isi_ll, isi_lo, isi_lt, isi_int, isi_bool, seqP_n, seqP_l, seqP_o, seqP_t, lstP_l, lstP_o, lsP_l, lsP_o, listP_l, setF_0, setF_1, setF_2, sz0, sz1, sz2, sz3, sz4, sz5, noos_ints, nobs_ints, noNs_ints, vws_ints, vis_ints, frs_ints, Int.cast_ofNat_Int, eqQ_r1, eqQ_r2, eqQ_r3, eqQ_r4, eqQ_g1, eqQ_g2, eqQ_g3, eqQ_g4, eqQ_g5, eqQ_g6, vRv, nobs_nat, frs_nat, vws_nat, vis_nat, noos_nat, noNs_nat, natPs_len, vSetH, vgS, ixN_10, ixN_20, ixN_21, ixN_30, ixN_31, ixN_32])
local macro_rules | `(tactic| walk_at "go") => `(tactic| simp only [gnD, endV, outsV, vSq, Vt.andThen, vIf, vAs, vRt, vRn, vEx, vNx, vBad, vBk, vCt, Vr.st, Vr.bind, vBor, vBor1, vwE, vV, vMv, vFrM1, Vt.upd, vLc, wipeV, atP_0, atP_1, atP_2, atP_3, vC, vBi, vUn, vCal, vK, vN, vCll0, vCll1, vCllT, vT, vL, vTst, vTru, vNotB, vAndB, vOrB, vNotD, vAndD, vOrD, vIfD, vPr, vgV, vgC, vgT, vgN, vFr, vRng1, vRng2, vEnu, vZp, vWalk, vSet, vMeN, vMe, vAugI, vAugV, updL, subT, repT, apF, exF, isLst, pa0, paI, vSli, vNoP, vP, vYes0, subP, mulP, modP, divP, ltP, leP, gtP, geP, iiP, tr2, negP, absP, maxP, minP, intP, eqP, neP, isP, isnP, isbP, isnbP, noo, noos, nob, nobs, fr, frs, vw, vws, vi, vis, noN, noNs, nobX_none, nobX_some, Option.map_some, Option.map_none, Option.bind_some, Option.bind_none, Option.isSome_some, List.length_cons, List.length_nil, List.map_cons, List.map_nil, List.getElem?_cons_zero, List.getElem?_cons_succ, List.getElem?_nil, List.set_cons_zero, List.set_cons_succ, List.cons_append, List.nil_append, List.replicate_succ, List.replicate_zero, Nat.sub_self, Nat.reduceSub, Nat.reduceAdd, Nat.reduceLT, Nat.reduceLeDiff, Nat.zero_lt_succ, Nat.lt_add_one, Nat.zero_add, Int.reduceEq, Int.reduceLT, Int.reduceLE, if_true, if_false, Bool.false_eq_true, reduceCtorEq, ite_true, ite_false, decide_true, decide_false, not_true_eq_false, not_false_eq_true, Bool.not_true, Bool.not_false, Bool.and_true, Bool.true_and, Bool.and_self, Bool.and_false, Bool.false_and, eq_self, and_self, and_true, true_and, isNonP, noo_nP, nob_nP, noN_nP, fr_nP, vw_nP, vi_nP, noos_nPs, nobs_nPs, noNs_nPs, frs_nPs, vws_nPs, vis_nPs, noos_gPs, nobs_oPs, nobs_gPs, frs_oPs, frs_gPs, vws_oPs, vws_gPs, nPs_len, gPs_len, oPs_len, eqQ_num, eqQ_row, eqQ_grid, eqQ_int, ixP_t0, ixP_t1, ixP_t2, ixP_n0, ixP_n1, ixP_l0, ixP_l1, ixP_l2, ixP_l3, atP_n0, atP_n1, lenP_l, lenP_o, lenP_t, lenP_n, addP_ii, truP_bl, isi_tn, isi_tt, isi_ll, isi_lo, isi_lt, isi_int, isi_bool, seqP_n, seqP_l, seqP_o, seqP_t, lstP_l, lstP_o, lsP_l, lsP_o, listP_l, setF_0, setF_1, setF_2, sz0, sz1, sz2, sz3, sz4, sz5, noos_ints, nobs_ints, noNs_ints, vws_ints, vis_ints, frs_ints, Int.cast_ofNat_Int, eqQ_r1, eqQ_r2, eqQ_r3, eqQ_r4, eqQ_g1, eqQ_g2, eqQ_g3, eqQ_g4, eqQ_g5, eqQ_g6, vRv, nobs_nat, frs_nat, vws_nat, vis_nat, noos_nat, noNs_nat, natPs_len, vSetH, vgS, ixN_10, ixN_20, ixN_21, ixN_30, ixN_31, ixN_32, *])
local macro_rules | `(tactic| walk_at "un") => `(tactic| simp only [gnD, endV, outsV, vSq, Vt.andThen, vIf, vAs, vRt, vRn, vEx, vNx, vBad, vBk, vCt, Vr.st, Vr.bind, vBor, vBor1, vwE, vV, vMv, vFrM1, Vt.upd, vLc, wipeV, atP_0, atP_1, atP_2, atP_3, vC, vBi, vUn, vCal, vK, vN, vCll0, vCll1, vCllT, vT, vL, vTst, vTru, vNotB, vAndB, vOrB, vNotD, vAndD, vOrD, vIfD, vPr, vgV, vgC, vgT, vgN, vFr, vRng1, vRng2, vEnu, vZp, vWalk, vSet, vMeN, vMe, vAugI, vAugV, updL, subT, repT, apF, exF, isLst, pa0, paI, vSli, vNoP, vP, vYes0, subP, mulP, modP, divP, ltP, leP, gtP, geP, iiP, tr2, negP, absP, maxP, minP, intP, eqP, neP, isP, isnP, isbP, isnbP, noo, noos, nob, nobs, fr, frs, vw, vws, vi, vis, noN, noNs, nobX_none, nobX_some, Option.map_some, Option.map_none, Option.bind_some, Option.bind_none, Option.isSome_some, List.length_cons, List.length_nil, List.map_cons, List.map_nil, List.getElem?_cons_zero, List.getElem?_cons_succ, List.getElem?_nil, List.set_cons_zero, List.set_cons_succ, List.cons_append, List.nil_append, List.replicate_succ, List.replicate_zero, Nat.sub_self, Nat.reduceSub, Nat.reduceAdd, Nat.reduceLT, Nat.reduceLeDiff, Nat.zero_lt_succ, Nat.lt_add_one, Nat.zero_add, Int.reduceEq, Int.reduceLT, Int.reduceLE, if_true, if_false, Bool.false_eq_true, reduceCtorEq, ite_true, ite_false, decide_true, decide_false, not_true_eq_false, not_false_eq_true, Bool.not_true, Bool.not_false, Bool.and_true, Bool.true_and, Bool.and_self, Bool.and_false, Bool.false_and, eq_self, and_self, and_true, true_and, isNonP, noo_nP, nob_nP, noN_nP, fr_nP, vw_nP, vi_nP, noos_nPs, nobs_nPs, noNs_nPs, frs_nPs, vws_nPs, vis_nPs, noos_gPs, nobs_oPs, nobs_gPs, frs_oPs, frs_gPs, vws_oPs, vws_gPs, nPs_len, gPs_len, oPs_len, eqQ_num, eqQ_row, eqQ_grid, eqQ_int, ixP_t0, ixP_t1, ixP_t2, ixP_n0, ixP_n1, ixP_l0, ixP_l1, ixP_l2, ixP_l3, atP_n0, atP_n1, lenP_l, lenP_o, lenP_t, lenP_n, addP_ii, truP_bl, isi_tn, isi_tt, isi_ll, isi_lo, isi_lt, isi_int, isi_bool, seqP_n, seqP_l, seqP_o, seqP_t, lstP_l, lstP_o, lsP_l, lsP_o, listP_l, setF_0, setF_1, setF_2, sz0, sz1, sz2, sz3, sz4, sz5, noos_ints, nobs_ints, noNs_ints, vws_ints, vis_ints, frs_ints, Int.cast_ofNat_Int, eqQ_r1, eqQ_r2, eqQ_r3, eqQ_r4, eqQ_g1, eqQ_g2, eqQ_g3, eqQ_g4, eqQ_g5, eqQ_g6, vRv, nobs_nat, frs_nat, vws_nat, vis_nat, noos_nat, noNs_nat, natPs_len, vSetH, vgS, ixN_10, ixN_20, ixN_21, ixN_30, ixN_31, ixN_32, vlcGo, vFrGo, ptV, setAllV, *])
local macro_rules | `(tactic| walk_at "at") => `(tactic| simp only [gnD, endV, outsV, vSq, Vt.andThen, vIf, vAs, vRt, vRn, vEx, vNx, vBad, vBk, vCt, Vr.st, Vr.bind, vBor, vBor1, vwE, vV, vMv, vFrM1, Vt.upd, vLc, wipeV, atP_0, atP_1, atP_2, atP_3, vC, vBi, vUn, vCal, vK, vN, vCll0, vCll1, vCllT, vT, vL, vTst, vTru, vNotB, vAndB, vOrB, vNotD, vAndD, vOrD, vIfD, vPr, vgV, vgC, vgT, vgN, vFr, vRng1, vRng2, vEnu, vZp, vWalk, vSet, vMeN, vMe, vAugI, vAugV, updL, subT, repT, apF, exF, isLst, pa0, paI, vSli, vNoP, vP, vYes0, subP, mulP, modP, divP, ltP, leP, gtP, geP, iiP, tr2, negP, absP, maxP, minP, intP, eqP, neP, isP, isnP, isbP, isnbP, noo, noos, nob, nobs, fr, frs, vw, vws, vi, vis, noN, noNs, nobX_none, nobX_some, Option.map_some, Option.map_none, Option.bind_some, Option.bind_none, Option.isSome_some, List.length_cons, List.length_nil, List.map_cons, List.map_nil, List.getElem?_cons_zero, List.getElem?_cons_succ, List.getElem?_nil, List.set_cons_zero, List.set_cons_succ, List.cons_append, List.nil_append, List.replicate_succ, List.replicate_zero, Nat.sub_self, Nat.reduceSub, Nat.reduceAdd, Nat.reduceLT, Nat.reduceLeDiff, Nat.zero_lt_succ, Nat.lt_add_one, Nat.zero_add, Int.reduceEq, Int.reduceLT, Int.reduceLE, if_true, if_false, Bool.false_eq_true, reduceCtorEq, ite_true, ite_false, decide_true, decide_false, not_true_eq_false, not_false_eq_true, Bool.not_true, Bool.not_false, Bool.and_true, Bool.true_and, Bool.and_self, Bool.and_false, Bool.false_and, eq_self, and_self, and_true, true_and, isNonP, noo_nP, nob_nP, noN_nP, fr_nP, vw_nP, vi_nP, noos_nPs, nobs_nPs, noNs_nPs, frs_nPs, vws_nPs, vis_nPs, noos_gPs, nobs_oPs, nobs_gPs, frs_oPs, frs_gPs, vws_oPs, vws_gPs, nPs_len, gPs_len, oPs_len, eqQ_num, eqQ_row, eqQ_grid, eqQ_int, ixP_t0, ixP_t1, ixP_t2, ixP_n0, ixP_n1, ixP_l0, ixP_l1, ixP_l2, ixP_l3, atP_n0, atP_n1, lenP_l, lenP_o, lenP_t, lenP_n, addP_ii, truP_bl, isi_tn, isi_tt, isi_ll, isi_lo, isi_lt, isi_int, isi_bool, seqP_n, seqP_l, seqP_o, seqP_t, lstP_l, lstP_o, lsP_l, lsP_o, listP_l, setF_0, setF_1, setF_2, sz0, sz1, sz2, sz3, sz4, sz5, noos_ints, nobs_ints, noNs_ints, vws_ints, vis_ints, frs_ints, Int.cast_ofNat_Int, eqQ_r1, eqQ_r2, eqQ_r3, eqQ_r4, eqQ_g1, eqQ_g2, eqQ_g3, eqQ_g4, eqQ_g5, eqQ_g6, vRv, nobs_nat, frs_nat, vws_nat, vis_nat, noos_nat, noNs_nat, natPs_len, vSetH, vgS, ixN_10, ixN_20, ixN_21, ixN_30, ixN_31, ixN_32, vAt, *])
theorem row_ext {n : Nat} {a b : List Rat} (ha : a.length = n) (hb : b.length = n) (h : ∀ j, j < n → a.getD j 0 = b.getD j 0) : a = b := by
  apply List.ext_getElem (by omega)
  intro j h1 h2
  have := h j (by omega)
  rwa [getD_at h1, getD_at h2] at this
theorem rAdd_at {a b : List Rat} {j : Nat} (h : a.length = b.length) : (rAdd a b).getD j 0 = a.getD j 0 + b.getD j 0 := by
  by_cases hi : j < a.length
  · rw [getD_at (by rw [rAdd_len, ← h, Nat.min_self]; exact hi), getD_at hi, getD_at (by omega : j < b.length)]
    simp only [rAdd, List.getElem_zipWith]
  · rw [List.getD_eq_getElem?_getD, List.getD_eq_getElem?_getD, List.getD_eq_getElem?_getD, List.getElem?_eq_none (by rw [rAdd_len, ← h, Nat.min_self]; omega), List.getElem?_eq_none (by omega), List.getElem?_eq_none (by omega)]
    simp
    grind
structure RR (N : Nat) (fl : List (Nat × List Rat)) : Prop where
  wf : ∀ a ∈ fl, a.2.length = N
  ld : ∀ a ∈ fl, a.1 < N ∧ (∀ i, i < a.1 → a.2.getD i 0 = 0) ∧ a.2.getD a.1 0 = 1
  pw : fl.Pairwise fun a b => a.1 < b.1 ∧ a.2.getD b.1 0 = 0
theorem Inv.rr {N : Nat} {g left : List (List Rat)} {fl : List (Nat × List Rat)} (I : Inv N g N fl left) : RR N fl := ⟨I.wf, I.ld, I.pw⟩
theorem lin_nul {N : Nat} {φ : List Rat → Rat} (L : Lin N φ) : φ (nul N) = 0 := by
  have h := L.mul (a := nul N) 0 nul_len
  have e : rMul 0 (nul N) = nul N := by
    unfold rMul nul
    rw [List.map_replicate, Rat.zero_mul]
  rw [e] at h
  grind
theorem nul_ext {N : Nat} {r : List Rat} (hl : r.length = N) (h : ∀ i, i < N → r.getD i 0 = 0) : r = nul N := row_ext hl nul_len fun j hj => by rw [h j hj, nul_at]
theorem Inv.kr {N : Nat} {g left : List (List Rat)} {fl : List (Nat × List Rat)} (I : Inv N g N fl left) {φ : List Rat → Rat} (L : Lin N φ) : Kr φ g ↔ ∀ a ∈ fl, φ a.2 = 0 := by
  rw [I.ker φ L]
  refine ⟨And.left, fun h => ⟨h, fun r hr => ?_⟩⟩
  rw [nul_ext (I.wl r hr) (I.lz r hr), lin_nul L]
theorem sF_sub {N j : Nat} {a b : List Rat} (ha : a.length = N) (hb : b.length = N) : ∀ fl : List (Nat × List Rat), sF (rSub a b) j fl = sF a j fl - sF b j fl
  | [] => by simp [sF]; grind
  | x :: fl => by
    rw [sF, sF, sF, sF_sub ha hb fl, rSub_at (by omega)]
    grind
theorem sF_mul {j : Nat} {c : Rat} {a : List Rat} : ∀ fl : List (Nat × List Rat), sF (rMul c a) j fl = c * sF a j fl
  | [] => by simp [sF]
  | x :: fl => by
    rw [sF, sF, sF_mul fl, rMul_at]
    grind
theorem lin_rep (N j : Nat) (fl : List (Nat × List Rat)) : Lin N fun x => x.getD j 0 - sF x j fl where
  sub := fun {a b} ha hb => by
    rw [sF_sub ha hb, rSub_at (by omega)]
    grind
  mul := fun {a} c ha => by
    rw [sF_mul, rMul_at]
    grind
section
variable {N : Nat} {fl fl2 : List (Nat × List Rat)}
theorem RR.one (h : RR N fl) {u : List Rat} {j : Nat} {a : Nat × List Rat} (ha : a ∈ fl) (hu : ∀ b ∈ fl, b.1 ≠ a.1 → u.getD b.1 0 = 0) : sF u j fl = u.getD a.1 0 * a.2.getD j 0 := by
  obtain ⟨l1, l2, rfl⟩ := List.append_of_mem ha
  obtain ⟨p1, p2, p3⟩ := List.pairwise_append.mp h.pw
  have q := List.pairwise_cons.mp p2
  rw [sF_app, sF, sF_zero fun b hb => ?_, sF_zero fun b hb => ?_]
  · grind
  · exact hu b (by simp [hb]) (by have := (q.1 b hb).1; omega)
  · exact hu b (by simp [hb]) (by have := (p3 b hb a (by simp)).1; omega)
theorem RR.off (h : RR N fl) {a b : Nat × List Rat} (ha : a ∈ fl) (hb : b ∈ fl) (hn : b.1 ≠ a.1) : a.2.getD b.1 0 = 0 := by
  rcases Nat.lt_or_gt_of_ne hn with z | z
  · exact (h.ld a ha).2.1 b.1 z
  · obtain ⟨l1, l2, rfl⟩ := List.append_of_mem ha
    obtain ⟨p1, p2, p3⟩ := List.pairwise_append.mp h.pw
    have q := List.pairwise_cons.mp p2
    rcases List.mem_append.mp hb with w | w
    · have := (p3 b w a (by simp)).1
      omega
    · rcases List.mem_cons.mp w with w | w
      · subst w; omega
      · exact (q.1 b w).2
theorem RR.self (h : RR N fl) {a : Nat × List Rat} (ha : a ∈ fl) {j : Nat} : sF a.2 j fl = a.2.getD j 0 := by
  rw [h.one ha fun b hb hn => h.off ha hb hn, (h.ld a ha).2.2]
  grind
def InSp (N : Nat) (fl : List (Nat × List Rat)) (r : List Rat) : Prop := ∀ φ, Lin N φ → (∀ a ∈ fl, φ a.2 = 0) → φ r = 0
theorem RR.rep (h : RR N fl) {r : List Rat} (hr : InSp N fl r) (j : Nat) : r.getD j 0 = sF r j fl := by
  have := hr _ (lin_rep N j fl) fun a ha => by
    show a.2.getD j 0 - sF a.2 j fl = 0
    rw [h.self ha]
    grind
  have this : r.getD j 0 - sF r j fl = 0 := this
  grind
theorem RR.lead_in (h : RR N fl) (h2 : RR N fl2) (k : ∀ b ∈ fl2, InSp N fl b.2) {b : Nat × List Rat} (hb : b ∈ fl2) : ∃ a ∈ fl, a.1 = b.1 := by
  apply Classical.byContradiction
  intro hn
  have e := h.rep (k b hb) b.1
  rw [(h2.ld b hb).2.2] at e
  have z : ∀ (l : List (Nat × List Rat)), (∀ a ∈ l, a ∈ fl) → sF b.2 b.1 l = 0 := by
    intro l
    induction l with
    | nil => exact fun _ => rfl
    | cons a l ih =>
      intro hl
      have ha := hl a List.mem_cons_self
      rw [sF, ih fun x hx => hl x (List.mem_cons_of_mem _ hx)]
      have : a.1 ≠ b.1 := fun z => hn ⟨a, ha, z⟩
      rcases Nat.lt_or_gt_of_ne this with w | w
      · rw [(h2.ld b hb).2.1 _ w]
        grind
      · rw [(h.ld a ha).2.1 _ w]
        grind
  rw [z fl fun _ h => h] at e
  exact absurd e (by decide)
theorem sorted_ext : ∀ {l l2 : List Nat}, l.Pairwise (· < ·) → l2.Pairwise (· < ·) → (∀ x, x ∈ l ↔ x ∈ l2) → l = l2
  | [], [], _, _, _ => rfl
  | [], x :: l2, _, _, h => absurd ((h x).mpr List.mem_cons_self) (by simp)
  | x :: l, [], _, _, h => absurd ((h x).mp List.mem_cons_self) (by simp)
  | x :: l, y :: l2, h1, h2, h => by
    obtain ⟨a1, a2⟩ := List.pairwise_cons.mp h1
    obtain ⟨b1, b2⟩ := List.pairwise_cons.mp h2
    have e : x = y := by
      rcases List.mem_cons.mp ((h x).mp List.mem_cons_self) with z | z
      · exact z
      · rcases List.mem_cons.mp ((h y).mpr List.mem_cons_self) with w | w
        · exact w.symm
        · have := b1 x z
          have := a1 y w
          omega
    subst e
    congr 1
    refine sorted_ext a2 b2 fun z => ?_
    constructor
    · intro hz
      rcases List.mem_cons.mp ((h z).mp (List.mem_cons_of_mem _ hz)) with w | w
      · have := a1 z hz
        omega
      · exact w
    · intro hz
      rcases List.mem_cons.mp ((h z).mpr (List.mem_cons_of_mem _ hz)) with w | w
      · have := b1 z hz
        omega
      · exact w
theorem RR.uniq (h : RR N fl) (h2 : RR N fl2) (k : ∀ b ∈ fl2, InSp N fl b.2) (k2 : ∀ a ∈ fl, InSp N fl2 a.2) : fl = fl2 := by
  have s1 : (fl.map Prod.fst).Pairwise (· < ·) := List.pairwise_map.mpr (h.pw.imp And.left)
  have s2 : (fl2.map Prod.fst).Pairwise (· < ·) := List.pairwise_map.mpr (h2.pw.imp And.left)
  have e : fl.map Prod.fst = fl2.map Prod.fst := sorted_ext s1 s2 fun x => by
    constructor
    · intro hx
      obtain ⟨a, ha, rfl⟩ := List.mem_map.mp hx
      obtain ⟨b, hb, e⟩ := h2.lead_in h k2 ha
      exact List.mem_map.mpr ⟨b, hb, e⟩
    · intro hx
      obtain ⟨a, ha, rfl⟩ := List.mem_map.mp hx
      obtain ⟨b, hb, e⟩ := h.lead_in h2 k ha
      exact List.mem_map.mpr ⟨b, hb, e⟩
  have hl : fl.length = fl2.length := by
    have := congrArg List.length e
    simpa using this
  apply List.ext_getElem hl
  intro i i1 i2
  have e1 : fl[i].1 = fl2[i].1 := by
    have : (fl.map Prod.fst)[i]'(by simpa using i1) = (fl2.map Prod.fst)[i]'(by simpa using i2) := by simp only [e]
    simpa using this
  have ha := List.getElem_mem i1
  have hb := List.getElem_mem i2
  refine Prod.ext e1 ?_
  apply row_ext (h.wf _ ha) (h2.wf _ hb)
  intro j hj
  rw [h.rep (k _ hb) j, h.one (a := fl[i]) ha fun c hc hn => ?_]
  · rw [e1, (h2.ld _ hb).2.2]
    grind
  · obtain ⟨d, hd, e3⟩ := h2.lead_in h k2 hc
    rw [← e3] at hn ⊢
    exact h2.off hb hd (by omega)
end
def SpanEq (N : Nat) (g h : List (List Rat)) : Prop := ∀ φ, Lin N φ → (Kr φ g ↔ Kr φ h)
theorem red_uniq {N : Nat} {g h left left2 : List (List Rat)} {fl fl2 : List (Nat × List Rat)} (I : Inv N g N fl left) (J : Inv N h N fl2 left2) (e : SpanEq N g h) : fl = fl2 :=
  I.rr.uniq J.rr (fun b hb φ L hφ => (J.kr L).mp ((e φ L).mp ((I.kr L).mpr hφ)) b hb) fun a ha φ L hφ => (I.kr L).mp ((e φ L).mpr ((J.kr L).mpr hφ)) a ha
section
variable {A B : Nat} {k k2 : Bool} {xs ys : List Rat}
end
theorem piv_dec (j : Nat) : ∀ g : List (List Rat), (∀ r ∈ g, r.getD j 0 = 0) ∨ ∃ pre r post, g = pre ++ r :: post ∧ r.getD j 0 ≠ 0 ∧ ∀ x ∈ pre, x.getD j 0 = 0
  | [] => .inl fun _ h => nomatch h
  | r :: g => by
    by_cases h : r.getD j 0 = 0
    · rcases piv_dec j g with z | ⟨pre, x, post, rfl, h1, h2⟩
      · exact .inl fun x hx => by
          rcases List.mem_cons.mp hx with rfl | hx
          · exact h
          · exact z x hx
      · exact .inr ⟨r :: pre, x, post, rfl, h1, fun y hy => by
          rcases List.mem_cons.mp hy with rfl | hy
          · exact h
          · exact h2 y hy⟩
    · exact .inr ⟨[], r, g, rfl, h, fun _ h => nomatch h⟩
theorem getD_l {R : List (List Rat)} {i : Nat} (h : i < R.length) : R.getD i [] = R[i] := by
  rw [List.getD_eq_getElem?_getD, List.getElem?_eq_getElem h]; rfl
theorem GridL.take : ∀ {xs : List P} {g : List (List Rat)} (n : Nat), GridL xs g → GridL (xs.take n) (g.take n)
  | _, _, 0, _ => by rw [List.take_zero, List.take_zero]; trivial
  | [], [], n + 1, h => h
  | x :: xs, r :: g, n + 1, h => ⟨h.1, GridL.take n h.2⟩
  | [], _ :: _, _ + 1, h => h.elim
  | _ :: _, [], _ + 1, h => h.elim
def leads (fl : List (Nat × List Rat)) : List Nat := fl.map Prod.fst
def isFree (fl : List (Nat × List Rat)) (j : Nat) : Bool := !((leads fl).any fun i => i == j)
def frees (N : Nat) (fl : List (Nat × List Rat)) : List Nat := (List.range N).filter (isFree fl)
theorem isFree_iff {fl : List (Nat × List Rat)} {j : Nat} : isFree fl j = true ↔ ∀ a ∈ fl, a.1 ≠ j := by
  unfold isFree leads
  simp
def nulF (f : Nat) (fl : List (Nat × List Rat)) (v : List Rat) : List Rat := fl.foldl (fun v a => v.set a.1 (0 - a.2.getD f 0)) v
def nulR (N : Nat) (fl : List (Nat × List Rat)) (f : Nat) : List Rat := nulF f fl (unit N f)
theorem nulF_len {f : Nat} : ∀ {fl : List (Nat × List Rat)} {v : List Rat}, (nulF f fl v).length = v.length
  | [], v => rfl
  | a :: fl, v => by
    show (nulF f fl (v.set a.1 _)).length = _
    rw [nulF_len, List.length_set]
theorem nulR_len {N f : Nat} {fl : List (Nat × List Rat)} : (nulR N fl f).length = N := by unfold nulR; rw [nulF_len, unit_len]
theorem nulF_dot {u : List Rat} {f : Nat} : ∀ {fl : List (Nat × List Rat)} {v : List Rat}, u.length = v.length → (∀ a ∈ fl, a.1 < v.length ∧ v.getD a.1 0 = 0) → fl.Pairwise (fun a b => a.1 < b.1) → rDot u (nulF f fl v) = rDot u v - sF u f fl
  | [], v, _, _, _ => by
    show rDot u v = _
    rw [sF]
    grind
  | a :: fl, v, h, h1, hp => by
    obtain ⟨p1, p2⟩ := List.pairwise_cons.mp hp
    show rDot u (nulF f fl (v.set a.1 (0 - a.2.getD f 0))) = _
    rw [nulF_dot (by rw [List.length_set]; exact h) (fun b hb => ⟨by rw [List.length_set]; exact (h1 b (List.mem_cons_of_mem _ hb)).1, by rw [set_at (Nat.ne_of_lt (p1 b hb))]; exact (h1 b (List.mem_cons_of_mem _ hb)).2⟩) p2,
      rDot_set u v a.1 _ h (h1 a List.mem_cons_self).1 (h1 a List.mem_cons_self).2, sF]
    grind
theorem unit_at {n i j : Nat} (hi : i < n) : (unit n i).getD j 0 = if j = i then 1 else 0 := by
  unfold unit
  split
  · rename_i h
    subst h
    rw [List.getD_eq_getElem?_getD, List.getElem?_set_self (by rw [nul_len]; exact hi)]
    rfl
  · rename_i h
    rw [set_at (fun z => h z.symm), nul_at]
theorem nulF_at {f j : Nat} : ∀ {fl : List (Nat × List Rat)} {v : List Rat}, (∀ a ∈ fl, a.1 ≠ j) → (nulF f fl v).getD j 0 = v.getD j 0
  | [], v, _ => rfl
  | a :: fl, v, h => by
    show (nulF f fl (v.set a.1 _)).getD j 0 = _
    rw [nulF_at fun b hb => h b (List.mem_cons_of_mem _ hb), set_at (h a List.mem_cons_self)]
theorem frees_mem {N j : Nat} {fl : List (Nat × List Rat)} : j ∈ frees N fl ↔ j < N ∧ ∀ a ∈ fl, a.1 ≠ j := by
  unfold frees
  rw [List.mem_filter, List.mem_range, isFree_iff]
theorem nulR_at {N f j : Nat} {fl : List (Nat × List Rat)} (hf : f ∈ frees N fl) (hj : j ∈ frees N fl) : (nulR N fl f).getD j 0 = if j = f then 1 else 0 := by
  unfold nulR
  rw [nulF_at (frees_mem.mp hj).2, unit_at (frees_mem.mp hf).1]
theorem nulR_dot {N f : Nat} {fl : List (Nat × List Rat)} (h : RR N fl) (hf : f ∈ frees N fl) {u : List Rat} (hu : u.length = N) : rDot u (nulR N fl f) = u.getD f 0 - sF u f fl := by
  obtain ⟨f1, f2⟩ := frees_mem.mp hf
  unfold nulR
  rw [nulF_dot (by rw [unit_len]; exact hu) (fun a ha => ⟨by rw [unit_len]; exact (h.ld a ha).1, by rw [unit_at f1, if_neg (f2 a ha)]⟩) (h.pw.imp And.left), rDot_comm, rDot_unit u f1 hu]
theorem Inv.insp {N : Nat} {g left : List (List Rat)} {fl : List (Nat × List Rat)} (I : Inv N g N fl left) {r : List Rat} (hr : r ∈ g) : InSp N fl r := fun φ L h => (I.kr L).mpr h r hr
theorem nulR_kills {N f : Nat} {g left : List (List Rat)} {fl : List (Nat × List Rat)} (I : Inv N g N fl left) (hw : Wide N g) (hf : f ∈ frees N fl) {r : List Rat} (hr : r ∈ g) : rDot r (nulR N fl f) = 0 := by
  rw [nulR_dot I.rr hf (hw r hr), I.rr.rep (I.insp hr) f]
  grind
theorem frees_lt {N : Nat} {fl : List (Nat × List Rat)} : (frees N fl).length ≤ N := by
  unfold frees
  exact Nat.le_trans (List.length_filter_le _ _) (by rw [List.length_range]; exact Nat.le_refl _)
abbrev Gr := List (List Rat)
def sysNM : List Str := ["move", "put", "look", "states", "ins", "outs"]
def sysN (k : Bool) (M L U : Gr) : P := .nd k (.ins "System" sysNM) [.nd k .lst (gPs k M), .nd k .lst (gPs k L), .nd k .lst (gPs k U), .int (M.length : Int), .int (L.length : Int), .int (U.length : Int)]
def sysO (k : Bool) (M L U : Gr) : P := .ow k (.ins "System" sysNM) [.ow k .lst (oPs k M), .ow k .lst (oPs k L), .ow k .lst (oPs k U), .int (M.length : Int), .int (L.length : Int), .int (U.length : Int)]
variable {k : Bool} {M L U : Gr}
theorem noo_sys : noo (sysN k M L U) = true := by simp only [sysN, noo, noos, noos_gPs, Bool.and_self]
theorem noo_sysO : noo (sysO k M L U) = false := by simp only [sysO, noo]
theorem nob_sys : nob (sysN true M L U) = true := by simp only [sysN, nob, nobs, nobs_gPs, Bool.and_self]
theorem nob_sysO : nob (sysO true M L U) = true := by simp only [sysO, nob, nobs, nobs_oPs, Bool.and_self]
theorem fr_sys : fr (sysN k M L U) = sysN k M L U := by simp only [sysN, fr, frs, frs_gPs]
theorem fr_sysO : fr (sysO k M L U) = sysN k M L U := by simp only [sysN, sysO, fr, frs, frs_oPs]
theorem vw_sys : vw (sysN k M L U) = sysN false M L U := by simp only [sysN, vw, vws, vws_gPs]
theorem vw_sysO : vw (sysO k M L U) = sysN false M L U := by simp only [sysN, sysO, vw, vws, vws_oPs]
theorem fld_move : fldP "System" "move" [sysN k M L U] = some (.nd k .lst (gPs k M)) := rfl
theorem fld_put : fldP "System" "put" [sysN k M L U] = some (.nd k .lst (gPs k L)) := rfl
theorem fld_look : fldP "System" "look" [sysN k M L U] = some (.nd k .lst (gPs k U)) := rfl
theorem fld_states : fldP "System" "states" [sysN k M L U] = some (.int (M.length : Int)) := rfl
theorem fld_ins : fldP "System" "ins" [sysN k M L U] = some (.int (L.length : Int)) := rfl
theorem fld_outs : fldP "System" "outs" [sysN k M L U] = some (.int (U.length : Int)) := rfl
theorem has_moved : hasP "System" "moved" (sysN k M L U) = true := rfl
theorem has_seen : hasP "System" "seen" (sysN k M L U) = true := rfl
theorem has_turned : hasP "System" "turned" (sysN k M L U) = true := rfl
local macro_rules | `(tactic| trivial) => `(tactic| simp only [gnD, endV, outsV, vSq, Vt.andThen, vIf, vAs, vRt, vRn, vEx, vNx, vBad, vBk, vCt, Vr.st, Vr.bind, vBor, vBor1, vwE, vV, vMv, vFrM1, Vt.upd, vLc, wipeV, atP_0, atP_1, atP_2, atP_3, vC, vBi, vUn, vCal, vK, vN, vCll0, vCll1, vCllT, vT, vL, vTst, vTru, vNotB, vAndB, vOrB, vNotD, vAndD, vOrD, vIfD, vPr, vgV, vgC, vgT, vgN, vFr, vRng1, vRng2, vEnu, vZp, vWalk, vSet, vMeN, vMe, vAugI, vAugV, updL, subT, repT, apF, exF, isLst, pa0, paI, vSli, vNoP, vP, vYes0, subP, mulP, modP, divP, ltP, leP, gtP, geP, iiP, tr2, negP, absP, maxP, minP, intP, eqP, neP, isP, isnP, isbP, isnbP, noo, noos, nob, nobs, fr, frs, vw, vws, vi, vis, noN, noNs, nobX_none, nobX_some, Option.map_some, Option.map_none, Option.bind_some, Option.bind_none, Option.isSome_some, List.length_cons, List.length_nil, List.map_cons, List.map_nil, List.getElem?_cons_zero, List.getElem?_cons_succ, List.getElem?_nil, List.set_cons_zero, List.set_cons_succ, List.cons_append, List.nil_append, List.replicate_succ, List.replicate_zero, Nat.sub_self, Nat.reduceSub, Nat.reduceAdd, Nat.reduceLT, Nat.reduceLeDiff, Nat.zero_lt_succ, Nat.lt_add_one, Nat.zero_add, Int.reduceEq, Int.reduceLT, Int.reduceLE, if_true, if_false, Bool.false_eq_true, reduceCtorEq, ite_true, ite_false, decide_true, decide_false, not_true_eq_false, not_false_eq_true, Bool.not_true, Bool.not_false, Bool.and_true, Bool.true_and, Bool.and_self, Bool.and_false, Bool.false_and, eq_self, and_self, and_true, true_and, isNonP, noo_nP, nob_nP, noN_nP, fr_nP, vw_nP, vi_nP, noos_nPs, nobs_nPs, noNs_nPs, frs_nPs, vws_nPs, vis_nPs, noos_gPs, nobs_oPs, nobs_gPs, frs_oPs, frs_gPs, vws_oPs, vws_gPs, nPs_len, gPs_len, oPs_len, eqQ_num, eqQ_row, eqQ_grid, eqQ_int, ixP_t0, ixP_t1, ixP_t2, ixP_n0, ixP_n1, ixP_l0, ixP_l1, ixP_l2, ixP_l3, atP_n0, atP_n1, lenP_l, lenP_o, lenP_t, lenP_n, addP_ii, truP_bl, isi_tn, isi_tt, isi_ll, isi_lo, isi_lt, isi_int, isi_bool, seqP_n, seqP_l, seqP_o, seqP_t, lstP_l, lstP_o, lsP_l, lsP_o, listP_l, setF_0, setF_1, setF_2, sz0, sz1, sz2, sz3, sz4, sz5, noos_ints, nobs_ints, noNs_ints, vws_ints, vis_ints, frs_ints, Int.cast_ofNat_Int, eqQ_r1, eqQ_r2, eqQ_r3, eqQ_r4, eqQ_g1, eqQ_g2, eqQ_g3, eqQ_g4, eqQ_g5, eqQ_g6, vRv, vMth0, vFrM2, vFld, vMk, vClr, vPopI, vTk, vCll1M, noo_sys, noo_sysO, nob_sys, nob_sysO, fr_sys, fr_sysO, vw_sys, vw_sysO, fld_move, fld_put, fld_look, fld_states, fld_ins, fld_outs, has_moved, has_seen, has_turned, nobs_nat, frs_nat, vws_nat, vis_nat, noos_nat, noNs_nat, natPs_len, vSetH, vgS, ixN_10, ixN_20, ixN_21, ixN_30, ixN_31, ixN_32])
local macro_rules | `(tactic| walk_at "go") => `(tactic| simp only [gnD, endV, outsV, vSq, Vt.andThen, vIf, vAs, vRt, vRn, vEx, vNx, vBad, vBk, vCt, Vr.st, Vr.bind, vBor, vBor1, vwE, vV, vMv, vFrM1, Vt.upd, vLc, wipeV, atP_0, atP_1, atP_2, atP_3, vC, vBi, vUn, vCal, vK, vN, vCll0, vCll1, vCllT, vT, vL, vTst, vTru, vNotB, vAndB, vOrB, vNotD, vAndD, vOrD, vIfD, vPr, vgV, vgC, vgT, vgN, vFr, vRng1, vRng2, vEnu, vZp, vWalk, vSet, vMeN, vMe, vAugI, vAugV, updL, subT, repT, apF, exF, isLst, pa0, paI, vSli, vNoP, vP, vYes0, subP, mulP, modP, divP, ltP, leP, gtP, geP, iiP, tr2, negP, absP, maxP, minP, intP, eqP, neP, isP, isnP, isbP, isnbP, noo, noos, nob, nobs, fr, frs, vw, vws, vi, vis, noN, noNs, nobX_none, nobX_some, Option.map_some, Option.map_none, Option.bind_some, Option.bind_none, Option.isSome_some, List.length_cons, List.length_nil, List.map_cons, List.map_nil, List.getElem?_cons_zero, List.getElem?_cons_succ, List.getElem?_nil, List.set_cons_zero, List.set_cons_succ, List.cons_append, List.nil_append, List.replicate_succ, List.replicate_zero, Nat.sub_self, Nat.reduceSub, Nat.reduceAdd, Nat.reduceLT, Nat.reduceLeDiff, Nat.zero_lt_succ, Nat.lt_add_one, Nat.zero_add, Int.reduceEq, Int.reduceLT, Int.reduceLE, if_true, if_false, Bool.false_eq_true, reduceCtorEq, ite_true, ite_false, decide_true, decide_false, not_true_eq_false, not_false_eq_true, Bool.not_true, Bool.not_false, Bool.and_true, Bool.true_and, Bool.and_self, Bool.and_false, Bool.false_and, eq_self, and_self, and_true, true_and, isNonP, noo_nP, nob_nP, noN_nP, fr_nP, vw_nP, vi_nP, noos_nPs, nobs_nPs, noNs_nPs, frs_nPs, vws_nPs, vis_nPs, noos_gPs, nobs_oPs, nobs_gPs, frs_oPs, frs_gPs, vws_oPs, vws_gPs, nPs_len, gPs_len, oPs_len, eqQ_num, eqQ_row, eqQ_grid, eqQ_int, ixP_t0, ixP_t1, ixP_t2, ixP_n0, ixP_n1, ixP_l0, ixP_l1, ixP_l2, ixP_l3, atP_n0, atP_n1, lenP_l, lenP_o, lenP_t, lenP_n, addP_ii, truP_bl, isi_tn, isi_tt, isi_ll, isi_lo, isi_lt, isi_int, isi_bool, seqP_n, seqP_l, seqP_o, seqP_t, lstP_l, lstP_o, lsP_l, lsP_o, listP_l, setF_0, setF_1, setF_2, sz0, sz1, sz2, sz3, sz4, sz5, noos_ints, nobs_ints, noNs_ints, vws_ints, vis_ints, frs_ints, Int.cast_ofNat_Int, eqQ_r1, eqQ_r2, eqQ_r3, eqQ_r4, eqQ_g1, eqQ_g2, eqQ_g3, eqQ_g4, eqQ_g5, eqQ_g6, vRv, vMth0, vFrM2, vFld, vMk, vClr, vPopI, vTk, vCll1M, noo_sys, noo_sysO, nob_sys, nob_sysO, fr_sys, fr_sysO, vw_sys, vw_sysO, fld_move, fld_put, fld_look, fld_states, fld_ins, fld_outs, has_moved, has_seen, has_turned, nobs_nat, frs_nat, vws_nat, vis_nat, noos_nat, noNs_nat, natPs_len, vSetH, vgS, ixN_10, ixN_20, ixN_21, ixN_30, ixN_31, ixN_32, *])
local macro_rules | `(tactic| walk_at "un") => `(tactic| simp only [gnD, endV, outsV, vSq, Vt.andThen, vIf, vAs, vRt, vRn, vEx, vNx, vBad, vBk, vCt, Vr.st, Vr.bind, vBor, vBor1, vwE, vV, vMv, vFrM1, Vt.upd, vLc, wipeV, atP_0, atP_1, atP_2, atP_3, vC, vBi, vUn, vCal, vK, vN, vCll0, vCll1, vCllT, vT, vL, vTst, vTru, vNotB, vAndB, vOrB, vNotD, vAndD, vOrD, vIfD, vPr, vgV, vgC, vgT, vgN, vFr, vRng1, vRng2, vEnu, vZp, vWalk, vSet, vMeN, vMe, vAugI, vAugV, updL, subT, repT, apF, exF, isLst, pa0, paI, vSli, vNoP, vP, vYes0, subP, mulP, modP, divP, ltP, leP, gtP, geP, iiP, tr2, negP, absP, maxP, minP, intP, eqP, neP, isP, isnP, isbP, isnbP, noo, noos, nob, nobs, fr, frs, vw, vws, vi, vis, noN, noNs, nobX_none, nobX_some, Option.map_some, Option.map_none, Option.bind_some, Option.bind_none, Option.isSome_some, List.length_cons, List.length_nil, List.map_cons, List.map_nil, List.getElem?_cons_zero, List.getElem?_cons_succ, List.getElem?_nil, List.set_cons_zero, List.set_cons_succ, List.cons_append, List.nil_append, List.replicate_succ, List.replicate_zero, Nat.sub_self, Nat.reduceSub, Nat.reduceAdd, Nat.reduceLT, Nat.reduceLeDiff, Nat.zero_lt_succ, Nat.lt_add_one, Nat.zero_add, Int.reduceEq, Int.reduceLT, Int.reduceLE, if_true, if_false, Bool.false_eq_true, reduceCtorEq, ite_true, ite_false, decide_true, decide_false, not_true_eq_false, not_false_eq_true, Bool.not_true, Bool.not_false, Bool.and_true, Bool.true_and, Bool.and_self, Bool.and_false, Bool.false_and, eq_self, and_self, and_true, true_and, isNonP, noo_nP, nob_nP, noN_nP, fr_nP, vw_nP, vi_nP, noos_nPs, nobs_nPs, noNs_nPs, frs_nPs, vws_nPs, vis_nPs, noos_gPs, nobs_oPs, nobs_gPs, frs_oPs, frs_gPs, vws_oPs, vws_gPs, nPs_len, gPs_len, oPs_len, eqQ_num, eqQ_row, eqQ_grid, eqQ_int, ixP_t0, ixP_t1, ixP_t2, ixP_n0, ixP_n1, ixP_l0, ixP_l1, ixP_l2, ixP_l3, atP_n0, atP_n1, lenP_l, lenP_o, lenP_t, lenP_n, addP_ii, truP_bl, isi_tn, isi_tt, isi_ll, isi_lo, isi_lt, isi_int, isi_bool, seqP_n, seqP_l, seqP_o, seqP_t, lstP_l, lstP_o, lsP_l, lsP_o, listP_l, setF_0, setF_1, setF_2, sz0, sz1, sz2, sz3, sz4, sz5, noos_ints, nobs_ints, noNs_ints, vws_ints, vis_ints, frs_ints, Int.cast_ofNat_Int, eqQ_r1, eqQ_r2, eqQ_r3, eqQ_r4, eqQ_g1, eqQ_g2, eqQ_g3, eqQ_g4, eqQ_g5, eqQ_g6, vRv, vMth0, vFrM2, vFld, vMk, vClr, vPopI, vTk, vCll1M, noo_sys, noo_sysO, nob_sys, nob_sysO, fr_sys, fr_sysO, vw_sys, vw_sysO, fld_move, fld_put, fld_look, fld_states, fld_ins, fld_outs, has_moved, has_seen, has_turned, nobs_nat, frs_nat, vws_nat, vis_nat, noos_nat, noNs_nat, natPs_len, vSetH, vgS, ixN_10, ixN_20, ixN_21, ixN_30, ixN_31, ixN_32, vlcGo, vFrGo, ptV, setAllV, *])
local macro_rules | `(tactic| walk_at "at") => `(tactic| simp only [gnD, endV, outsV, vSq, Vt.andThen, vIf, vAs, vRt, vRn, vEx, vNx, vBad, vBk, vCt, Vr.st, Vr.bind, vBor, vBor1, vwE, vV, vMv, vFrM1, Vt.upd, vLc, wipeV, atP_0, atP_1, atP_2, atP_3, vC, vBi, vUn, vCal, vK, vN, vCll0, vCll1, vCllT, vT, vL, vTst, vTru, vNotB, vAndB, vOrB, vNotD, vAndD, vOrD, vIfD, vPr, vgV, vgC, vgT, vgN, vFr, vRng1, vRng2, vEnu, vZp, vWalk, vSet, vMeN, vMe, vAugI, vAugV, updL, subT, repT, apF, exF, isLst, pa0, paI, vSli, vNoP, vP, vYes0, subP, mulP, modP, divP, ltP, leP, gtP, geP, iiP, tr2, negP, absP, maxP, minP, intP, eqP, neP, isP, isnP, isbP, isnbP, noo, noos, nob, nobs, fr, frs, vw, vws, vi, vis, noN, noNs, nobX_none, nobX_some, Option.map_some, Option.map_none, Option.bind_some, Option.bind_none, Option.isSome_some, List.length_cons, List.length_nil, List.map_cons, List.map_nil, List.getElem?_cons_zero, List.getElem?_cons_succ, List.getElem?_nil, List.set_cons_zero, List.set_cons_succ, List.cons_append, List.nil_append, List.replicate_succ, List.replicate_zero, Nat.sub_self, Nat.reduceSub, Nat.reduceAdd, Nat.reduceLT, Nat.reduceLeDiff, Nat.zero_lt_succ, Nat.lt_add_one, Nat.zero_add, Int.reduceEq, Int.reduceLT, Int.reduceLE, if_true, if_false, Bool.false_eq_true, reduceCtorEq, ite_true, ite_false, decide_true, decide_false, not_true_eq_false, not_false_eq_true, Bool.not_true, Bool.not_false, Bool.and_true, Bool.true_and, Bool.and_self, Bool.and_false, Bool.false_and, eq_self, and_self, and_true, true_and, isNonP, noo_nP, nob_nP, noN_nP, fr_nP, vw_nP, vi_nP, noos_nPs, nobs_nPs, noNs_nPs, frs_nPs, vws_nPs, vis_nPs, noos_gPs, nobs_oPs, nobs_gPs, frs_oPs, frs_gPs, vws_oPs, vws_gPs, nPs_len, gPs_len, oPs_len, eqQ_num, eqQ_row, eqQ_grid, eqQ_int, ixP_t0, ixP_t1, ixP_t2, ixP_n0, ixP_n1, ixP_l0, ixP_l1, ixP_l2, ixP_l3, atP_n0, atP_n1, lenP_l, lenP_o, lenP_t, lenP_n, addP_ii, truP_bl, isi_tn, isi_tt, isi_ll, isi_lo, isi_lt, isi_int, isi_bool, seqP_n, seqP_l, seqP_o, seqP_t, lstP_l, lstP_o, lsP_l, lsP_o, listP_l, setF_0, setF_1, setF_2, sz0, sz1, sz2, sz3, sz4, sz5, noos_ints, nobs_ints, noNs_ints, vws_ints, vis_ints, frs_ints, Int.cast_ofNat_Int, eqQ_r1, eqQ_r2, eqQ_r3, eqQ_r4, eqQ_g1, eqQ_g2, eqQ_g3, eqQ_g4, eqQ_g5, eqQ_g6, vRv, vMth0, vFrM2, vFld, vMk, vClr, vPopI, vTk, vCll1M, noo_sys, noo_sysO, nob_sys, nob_sysO, fr_sys, fr_sysO, vw_sys, vw_sysO, fld_move, fld_put, fld_look, fld_states, fld_ins, fld_outs, has_moved, has_seen, has_turned, nobs_nat, frs_nat, vws_nat, vis_nat, noos_nat, noNs_nat, natPs_len, vSetH, vgS, ixN_10, ixN_20, ixN_21, ixN_30, ixN_31, ixN_32, vAt, *])
theorem is_number_ok (q : Rat) : g_is_number [nP q] = .ok (.bl true) [] := by
  have w := is_whole_ok
  have it : isiP "tuple" [nP q] = some (.bl true) := rfl
  have c := common_ok q.den q.num.natAbs
  have g1 : Nat.gcd q.den q.num.natAbs = 1 := by rw [Nat.gcd_comm]; exact q.reduced
  rw [g1] at c
  have a : (if q.num < 0 then -q.num else q.num) = (q.num.natAbs : Int) := by split <;> omega
  have hd : ¬ ((q.den : Int) < 1) := by have := q.den_pos; omega
  have cd : eqQ (P.int ((1 : Nat) : Int)) (.int 1) = some true := rfl
  have hu : nP q = .tup [.int q.num, .int (q.den : Int)] := rfl
  unfold g_is_number w_is_number
  rw [hu] at it ⊢
  walk_at "go"
def addPuts (f : List Rat) : List Rat → Gr → List Rat
  | c :: cs, r :: rs => addPuts (rAdd f (rMul c r)) cs rs
  | _, _ => f
def mv (M L : Gr) (s p : List Rat) : List Rat := addPuts (gOn M s) p L
theorem addPuts_len {f : List Rat} : ∀ {p : List Rat} {L : Gr}, (∀ r ∈ L, r.length = f.length) → (addPuts f p L).length = f.length
  | [], L, _ => by unfold addPuts; rfl
  | c :: p, [], _ => by unfold addPuts; rfl
  | c :: p, r :: L, h => by
    have h1 := h r List.mem_cons_self
    have e : (rAdd f (rMul c r)).length = f.length := by rw [rAdd_len, rMul_len]; omega
    unfold addPuts
    rw [addPuts_len (fun x hx => by rw [e]; exact h x (List.mem_cons_of_mem _ hx)), e]
structure Sy (n A : Nat) (M L U : Gr) : Prop where
  nM : M.length = n
  wM : Wide n M
  wL : Wide n L
  wU : Wide n U
  n8 : n ≤ 8
  l4 : L.length ≤ 4
  u4 : U.length ≤ 4
  bM : BdG A M
  bL : BdG A L
  bU : BdG A U
section
variable {n A B C : Nat} {M L U : Gr} {k k2 k3 : Bool} {s p : List Rat}
end
section
variable {n A B C : Nat} {M L U : Gr} {k k2 k3 k4 : Bool} {s p : List Rat} {ps : Gr}
end
theorem Bd.set {B : Nat} {r : List Rat} {j : Nat} {q : Rat} (h : Bd B r) (hq : Hb B q) : Bd B (r.set j q) := fun x hx => by
  rcases List.mem_or_eq_of_mem_set hx with hx | rfl
  · exact h x hx
  · exact hq
def Cm (N d : Nat) (r : List Rat) : Prop := ∀ q ∈ r, ∃ a : Int, q * (d : Rat) = (a : Rat) ∧ a.natAbs < 2 ^ N
def CmG (N d : Nat) (g : Gr) : Prop := ∀ r ∈ g, Cm N d r
def CmS (N d : Nat) (M L U : Gr) : Prop := CmG N d M ∧ CmG N d L ∧ CmG N d U
theorem Cm.up2 {N K d : Nat} {r : List Rat} (h : Cm N d r) (e : N ≤ K) : Cm K d r := fun q hq => by
  obtain ⟨a, h1, h2⟩ := h q hq
  exact ⟨a, h1, Nat.lt_of_lt_of_le h2 (Nat.pow_le_pow_right (by decide) e)⟩
theorem CmG.up2 {N K d : Nat} {g : Gr} (h : CmG N d g) (e : N ≤ K) : CmG K d g := fun r hr => (h r hr).up2 e
theorem CmS.up2 {N K d : Nat} {M L U : Gr} (h : CmS N d M L U) (e : N ≤ K) : CmS K d M L U := ⟨h.1.up2 e, h.2.1.up2 e, h.2.2.up2 e⟩
theorem Cm.gd {N d : Nat} {r : List Rat} (h : Cm N d r) (j : Nat) : ∃ a : Int, r.getD j 0 * (d : Rat) = (a : Rat) ∧ a.natAbs < 2 ^ N := by
  by_cases hj : j < r.length
  · rw [getD_at hj]
    exact h _ (List.getElem_mem hj)
  · refine ⟨0, ?_, Nat.two_pow_pos _⟩
    rw [List.getD_eq_getElem?_getD, List.getElem?_eq_none (by omega)]
    show (0 : Rat) * _ = 0
    exact Rat.zero_mul _
structure Gs (n l u B : Nat) (M L U : Gr) : Prop where
  nM : M.length = n
  nL : L.length = l
  nU : U.length = u
  wM : Wide n M
  wL : Wide n L
  wU : Wide n U
  bM : BdG B M
  bL : BdG B L
  bU : BdG B U
section
variable {p a b c : P} {B n i o k : Nat} {w way first : Int} {r : List Rat}
end
section
variable {p : P} {n i o : Nat} {w way first : Int}
end
theorem Gs.sy {n l u B : Nat} {M L U : Gr} (h : Gs n l u B M L U) (n8 : n ≤ 8) (l4 : l ≤ 4) (u4 : u ≤ 4) : Sy n B M L U := ⟨h.nM, h.wM, h.wL, h.wU, n8, by rw [h.nL]; exact l4, by rw [h.nU]; exact u4, h.bM, h.bL, h.bU⟩
theorem rDot_add : ∀ {a b v : List Rat}, a.length = b.length → rDot (rAdd a b) v = rDot a v + rDot b v
  | [], [], v, _ => by simp [rAdd, rDot]; grind
  | [], y :: b, v, h => by cases h
  | x :: a, [], v, h => by cases h
  | x :: a, y :: b, [], _ => by simp [rDot]; grind
  | x :: a, y :: b, z :: v, h => by
    have ih := rDot_add (a := a) (b := b) (v := v) (by simpa using h)
    simp only [rAdd, List.zipWith_cons_cons, rDot] at ih ⊢
    rw [ih]
    grind
theorem rDot_addr {a b v : List Rat} (h : a.length = b.length) : rDot v (rAdd a b) = rDot v a + rDot v b := by rw [rDot_comm, rDot_add h, rDot_comm a, rDot_comm b]
theorem rDot_mulr {c : Rat} {a v : List Rat} : rDot v (rMul c a) = c * rDot v a := by rw [rDot_comm, rDot_mul, rDot_comm]
theorem gOn_add {g : Gr} {s t : List Rat} (h : s.length = t.length) : gOn g (rAdd s t) = rAdd (gOn g s) (gOn g t) := by
  induction g with
  | nil => rfl
  | cons r g ih =>
    simp only [gOn, rAdd, List.map_cons, List.zipWith_cons_cons, List.cons.injEq] at ih ⊢
    exact ⟨rDot_addr h, ih⟩
theorem gOn_mul {g : Gr} {c : Rat} {s : List Rat} : gOn g (rMul c s) = rMul c (gOn g s) := by
  induction g with
  | nil => rfl
  | cons r g ih =>
    simp only [gOn, rMul, List.map_cons, List.cons.injEq] at ih ⊢
    exact ⟨rDot_mulr, ih⟩
theorem addPuts_add {n : Nat} : ∀ {p q : List Rat} {L : Gr} {f g : List Rat}, p.length = q.length → Wide n L → f.length = n → g.length = n → addPuts (rAdd f g) (rAdd p q) L = rAdd (addPuts f p L) (addPuts g q L)
  | [], [], L, f, g, _, _, _, _ => by simp only [rAdd, List.zipWith_nil_left, addPuts]
  | [], _ :: _, _, _, _, h, _, _, _ => by cases h
  | _ :: _, [], _, _, _, h, _, _, _ => by cases h
  | c :: p, d :: q, [], f, g, _, _, _, _ => by simp only [rAdd, List.zipWith_cons_cons, addPuts]
  | c :: p, d :: q, r :: L, f, g, h, hw, hf, hg => by
    have hr := hw r List.mem_cons_self
    have lf : (rAdd f (rMul c r)).length = n := by rw [rAdd_len, rMul_len]; omega
    have lg : (rAdd g (rMul d r)).length = n := by rw [rAdd_len, rMul_len]; omega
    have e : rAdd (rAdd f g) (rMul (c + d) r) = rAdd (rAdd f (rMul c r)) (rAdd g (rMul d r)) := by
      apply row_ext (n := n) (by rw [rAdd_len, rAdd_len, rMul_len]; omega) (by rw [rAdd_len]; omega)
      intro j _
      rw [rAdd_at (by rw [rAdd_len, rMul_len]; omega), rAdd_at (by omega), rMul_at, rAdd_at (by omega), rAdd_at (by rw [rMul_len]; omega), rAdd_at (by rw [rMul_len]; omega), rMul_at, rMul_at]
      grind
    have ih := addPuts_add (n := n) (p := p) (q := q) (L := L) (by simpa using h) (fun x hx => hw x (List.mem_cons_of_mem _ hx)) lf lg
    show addPuts (rAdd f g) ((c + d) :: rAdd p q) (r :: L) = _
    rw [addPuts, e, ih]
    rfl
section
variable {n A : Nat} {M L U : Gr} (h : Sy n A M L U)
include h
end
section
variable {A B n : Nat} {a b : Gr} {k k2 k3 k4 : Bool}
end
section
variable {n A B C K : Nat} {M L U ps qs : Gr} {s t : List Rat} {k k2 k3 k4 k5 k6 k7 k8 k9 : Bool}
end
section
variable {n A B C D K : Nat} {M L U ps qs : Gr} {s t : List Rat} {k k2 k3 k4 k5 k6 k7 k8 k9 : Bool}
end
theorem addPuts_nil {f : List Rat} {L : Gr} : addPuts f [] L = f := by unfold addPuts; rfl
section
variable {n A B C : Nat} {M L U : Gr} {k k2 k3 a a2 b b2 c c2 : Bool} {s p : List Rat}
end
section
variable {n A B C : Nat} {M L U : Gr} {k k2 k3 a a2 b b2 c c2 : Bool} {s p : List Rat}
end
section
variable {n A B C : Nat} {M L U : Gr} {k k2 k3 a a2 b b2 c c2 : Bool} {s p : List Rat}
end
section
variable {n A B C : Nat} {M L U : Gr} {k k2 k3 k4 a a2 b b2 c c2 : Bool} {s p : List Rat} {ps : Gr}
end
section
variable {n A B C : Nat} {M L U : Gr} {k k2 k3 k4 k5 k6 a a2 b b2 c c2 : Bool} {s p : List Rat} {ps : Gr}
end
def eR (n t : Nat) : List Rat := (List.range n).map fun j => if j = t then 1 else 0
section
variable {n A B C : Nat} {M L U : Gr} {k k2 k3 a a2 b b2 c c2 : Bool} {s p : List Rat}
theorem Sy.back (h : Sy n A M L U) : gT' (gT' M n) n = M := by
  have := gT_gT h.wM
  rw [h.nM] at this
  exact this
end
section
variable {n A B C : Nat} {M L U : Gr} {k k2 k3 a a2 b b2 c c2 : Bool} {s p : List Rat}
end
section
variable {k k2 : Bool} {a b : List Rat} {g h : Gr}
end
section
variable {n m : Nat} {k k2 k3 : Bool} {g M L U : Gr}
end
section
variable {n m A B C : Nat} {k k2 k3 : Bool} {M L U M' L' U' : Gr}
end
theorem rAdd_nul {n : Nat} {a : List Rat} (h : a.length = n) : rAdd a (nul n) = a := by
  apply row_ext (n := n) (by rw [rAdd_len, nul_len]; omega) h
  intro j hj
  rw [rAdd_at (by rw [nul_len]; exact h)]
  unfold nul
  rw [getD_at (r := List.replicate n 0) (by rw [List.length_replicate]; exact hj), List.getElem_replicate]
  grind
section
variable {n m : Nat} {g h : Gr} {s t : List Rat}
theorem addPuts_app : ∀ {p q : List Rat} {L L' : Gr} {f : List Rat}, p.length = L.length → addPuts f (p ++ q) (L ++ L') = addPuts (addPuts f p L) q L'
  | [], q, [], L', f, _ => by rw [addPuts_nil]; rfl
  | [], _, _ :: _, _, _, h => by cases h
  | _ :: _, _, [], _, _, h => by cases h
  | c :: p, q, r :: L, L', f, h => by
    show addPuts f (c :: (p ++ q)) (r :: (L ++ L')) = _
    rw [addPuts, addPuts, addPuts_app (by simpa using h)]
end
section
variable {n m A B C : Nat} {k k2 k3 : Bool} {M L U M' L' U' : Gr}
end
section
variable {n m : Nat} {s t : List Rat}
end
section
variable {n m A B C : Nat} {k k2 k3 a a2 b b2 c c2 d d2 e e2 f f2 : Bool} {M L U M' L' U' : Gr} {x z : List Rat}
end
section
variable {n m A B C : Nat} {k k2 k3 a a2 b b2 c c2 d d2 e e2 f f2 : Bool} {M L U M' L' U' : Gr} {x z : List Rat}
end
section
variable {n m A B C : Nat} {k k2 k3 a a2 b b2 c c2 d d2 e e2 f f2 : Bool} {M L U M' L' U' : Gr} {x z : List Rat}
end
section
variable {n m A B C : Nat} {k k2 k3 a a2 b b2 c c2 d d2 e e2 f f2 : Bool} {M L U M' L' U' : Gr} {x z : List Rat}
end
section
variable {n m A B C : Nat} {k k2 k3 a a2 b b2 c c2 d d2 e e2 f f2 : Bool} {M L U M' L' U' : Gr} {x z : List Rat}
end
section
variable {n m A B C : Nat} {k k2 k3 a a2 b b2 c c2 d d2 e e2 f f2 : Bool} {M L U M' L' U' : Gr}
end
section
variable {n m A B C : Nat} {k k2 k3 a a2 b b2 c c2 d d2 e e2 f f2 : Bool} {M L U M' L' U' : Gr}
end
section
variable {n w A B C : Nat} {k k2 k3 : Bool} {M L U V rows : Gr} {p v : List Rat}
end
section
variable {n m w : Nat} {L V rows : Gr} {p v s : List Rat}
theorem gOn_at {g : Gr} {j : Nat} (h : j < g.length) : (gOn g s).getD j 0 = rDot (g.getD j []) s := by
  rw [getD_l h, getD_at (by rw [gOn_len]; exact h)]
  unfold gOn
  rw [List.getElem_map]
theorem rAdd_comm {a b : List Rat} : rAdd a b = rAdd b a := by
  unfold rAdd
  rw [List.zipWith_comm]
  congr 1
  funext x y
  grind
theorem nul_rAdd {n : Nat} {a : List Rat} (h : a.length = n) : rAdd (nul n) a = a := by rw [rAdd_comm, rAdd_nul h]
theorem addPuts_from (hL : Wide n L) (hs : s.length = n) : addPuts s p L = rAdd s (addPuts (nul n) p L) := by
  have e := addPuts_add (n := n) (p := nul p.length) (q := p) (L := L) (f := s) (g := nul n) nul_len hL hs nul_len
  rw [rAdd_nul hs, nul_rAdd rfl] at e
  rw [e]
  congr 1
  clear e
  have : ∀ (j : Nat) (L : Gr) (s : List Rat), Wide n L → s.length = n → addPuts s (nul j) L = s := by
    intro j
    induction j with
    | zero => intro L s _ _; exact addPuts_nil
    | succ j ih =>
      intro L s hL hs
      cases L with
      | nil => unfold addPuts; cases nul (j + 1) <;> rfl
      | cons r L =>
        show addPuts s (0 :: nul j) (r :: L) = s
        have z : rMul 0 r = nul n := by
          refine row_ext (n := n) (by rw [rMul_len]; exact hL r List.mem_cons_self) nul_len fun i hi => ?_
          rw [rMul_at, nul_at]
          grind
        rw [addPuts, z, rAdd_nul hs]
        exact ih L s (fun x hx => hL x (List.mem_cons_of_mem _ hx)) hs
  exact this p.length L s hL hs
end
section
variable {n m A B C : Nat} {k k2 k3 : Bool} {M L U M' L' U' : Gr}
end
section
variable {n m A B C : Nat} {k k2 k3 : Bool} {M L U M' L' U' : Gr}
end
section
variable {n m A : Nat} {M L U M' L' U' : Gr} {x z : List Rat}
end
section
variable {n m A B C : Nat} {k k2 k3 a a2 b b2 c c2 d d2 e e2 f f2 : Bool} {M L U M' L' U' : Gr} {x z : List Rat}
end
section
variable {n m A B C : Nat} {k k2 k3 a a2 b b2 c c2 d d2 e e2 f f2 : Bool} {M L U M' L' U' : Gr} {x z : List Rat}
end
section
variable {n m A B C : Nat} {k k2 k3 a a2 b b2 c c2 d d2 e e2 f f2 : Bool} {M L U M' L' U' : Gr}
end
theorem cast_nat (d : Nat) : ((d : Int) : Rat) = (d : Rat) := rfl
theorem cast_ne {a : Int} (h : a ≠ 0) : (a : Rat) ≠ 0 := fun e => h (by exact_mod_cast e)
theorem cast_pos {d : Nat} (h : 0 < d) : (d : Rat) ≠ 0 := by
  rw [← cast_nat]
  exact cast_ne (by omega)
theorem hb_of {q : Rat} {a : Int} {d B : Nat} (h0 : 0 < d) (e : q * (d : Rat) = (a : Rat)) (ha : a.natAbs < 2 ^ B) (hd : d < 2 ^ B) : Hb B q := by
  have z : q = mkRat a d := by
    have := cast_pos h0
    rw [Rat.mkRat_eq_div, ← e]
    rw [← cast_nat] at this ⊢
    grind
  rw [z]
  exact hb_mk ha hd (by omega)
theorem Cm.mono {N N' d : Nat} {r : List Rat} (h : Cm N d r) (e : N ≤ N') : Cm N' d r := fun q hq => by
  obtain ⟨a, h1, h2⟩ := h q hq
  exact ⟨a, h1, Nat.lt_of_lt_of_le h2 (Nat.pow_le_pow_right (by decide) e)⟩
theorem Cm.bd {N d B : Nat} {r : List Rat} (h : Cm N d r) (h0 : 0 < d) (hN : N ≤ B) (hd : d < 2 ^ B) : Bd B r := fun q hq => by
  obtain ⟨a, h1, h2⟩ := h q hq
  exact hb_of h0 h1 (Nat.lt_of_lt_of_le h2 (Nat.pow_le_pow_right (by decide) hN)) hd
theorem pow2_mul {a b M N : Nat} (ha : a < 2 ^ M) (hb : b < 2 ^ N) : a * b < 2 ^ (M + N) := by
  rw [Nat.pow_add]
  by_cases c : a = 0
  · subst c
    rw [Nat.zero_mul]
    exact Nat.mul_pos (Nat.two_pow_pos _) (Nat.two_pow_pos _)
  · exact Nat.mul_lt_mul_of_le_of_lt (Nat.le_of_lt ha) hb (by omega)
theorem pow2_le {b B : Nat} (h : b ≤ B) {x : Nat} (hx : x < 2 ^ b) : x < 2 ^ B := Nat.lt_of_lt_of_le hx (Nat.pow_le_pow_right (by decide) h)
theorem cm_piv {b d j : Nat} {r : List Rat} (h : Cm b d r) (h0 : 0 < d) (hj : j < r.length) (hr : r.getD j 0 ≠ 0) : ∃ e : Nat, 0 < e ∧ e < 2 ^ b ∧ Cm b e (pivOf r j) := by
  obtain ⟨a, h1, h2⟩ := h (r.getD j 0) (by rw [getD_at hj]; exact List.getElem_mem hj)
  have hd := cast_pos h0
  unfold pivOf
  generalize r.getD j 0 = p at *
  have a0 : a ≠ 0 := fun z => by
    subst z
    have : p * (d : Rat) = 0 := h1
    grind
  refine ⟨a.natAbs, by omega, h2, fun q hq => ?_⟩
  obtain ⟨x, hx, rfl⟩ := List.mem_map.mp hq
  obtain ⟨c, c1, c2⟩ := h x hx
  by_cases s : 0 < a
  · refine ⟨c, ?_, c2⟩
    have e : ((a.natAbs : Nat) : Rat) = (a : Rat) := by
      rw [← cast_nat]
      congr 1
      omega
    rw [e, ← h1, ← c1]
    grind
  · refine ⟨-c, ?_, by omega⟩
    have e : ((a.natAbs : Nat) : Rat) = -(a : Rat) := by
      rw [← cast_nat, ← Rat.intCast_neg]
      congr 1
      omega
    rw [e, ← h1, Rat.intCast_neg, ← c1]
    grind
theorem mem_sub {q : Rat} : ∀ {xs ys : List Rat}, q ∈ rSub xs ys → ∃ x ∈ xs, ∃ y ∈ ys, q = x - y
  | [], ys, h => by cases h
  | x :: xs, [], h => by cases h
  | x :: xs, y :: ys, h => by
    unfold rSub at h
    rw [List.zipWith_cons_cons] at h
    rcases List.mem_cons.mp h with e | e
    · exact ⟨x, List.mem_cons_self, y, List.mem_cons_self, e⟩
    · obtain ⟨u, hu, v, hv, e⟩ := mem_sub e
      exact ⟨u, List.mem_cons_of_mem _ hu, v, List.mem_cons_of_mem _ hv, e⟩
theorem sum2 {x y M : Nat} (hx : x < 2 ^ M) (hy : y < 2 ^ M) : x + y < 2 ^ (M + 1) := by
  rw [Nat.pow_succ]
  omega
theorem cm_clr {b d e j : Nat} {x p : List Rat} (hx : Cm b d x) (hp : Cm b e p) (hd : d < 2 ^ b) (he : e < 2 ^ b) (d0 : 0 < d) (e0 : 0 < e) (hj : j < x.length) : ∃ f : Nat, 0 < f ∧ f < 2 ^ (2 * b + 1) ∧ Cm (2 * b + 1) f (clr x p j) := by
  unfold clr
  split
  · exact ⟨d, d0, pow2_le (by omega) hd, hx.mono (by omega)⟩
  · obtain ⟨a, a1, a2⟩ := hx (x.getD j 0) (by rw [getD_at hj]; exact List.getElem_mem hj)
    generalize x.getD j 0 = z at *
    refine ⟨d * e, Nat.mul_pos d0 e0, pow2_le (by omega) (pow2_mul hd he), fun q hq => ?_⟩
    obtain ⟨u, hu, v, hv, rfl⟩ := mem_sub hq
    obtain ⟨w, hw, rfl⟩ := List.mem_map.mp hv
    obtain ⟨c, c1, c2⟩ := hx u hu
    obtain ⟨g, g1, g2⟩ := hp w hw
    refine ⟨c * (e : Int) - a * g, ?_, ?_⟩
    · have t : ((d * e : Nat) : Rat) = (d : Rat) * (e : Rat) := by
        rw [← cast_nat, Int.natCast_mul, Rat.intCast_mul]
        rfl
      rw [t, Rat.intCast_sub, Rat.intCast_mul, Rat.intCast_mul, ← a1, ← c1, ← g1, cast_nat]
      grind
    · have y1 : (c * (e : Int)).natAbs < 2 ^ (b + b) := by
        rw [Int.natAbs_mul]
        exact pow2_mul c2 he
      have y2 : (a * g).natAbs < 2 ^ (b + b) := by
        rw [Int.natAbs_mul]
        exact pow2_mul a2 g2
      have y3 := sum2 y1 y2
      rw [show 2 * b + 1 = b + b + 1 by omega]
      omega
theorem mul_den (q : Rat) : q * (q.den : Rat) = (q.num : Rat) := by
  have e := Rat.mkRat_self q
  rw [Rat.mkRat_eq_div] at e
  have h := cast_pos q.den_pos
  have e2 : (q.num : Rat) / (q.den : Rat) * (q.den : Rat) = (q.num : Rat) := by
    generalize (q.den : Rat) = x at *
    grind
  rw [e] at e2
  exact e2
theorem cm_dot {N K d e : Nat} : ∀ {x y : List Rat}, Cm N d x → Cm K e y → ∃ a : Int, rDot x y * ((d * e : Nat) : Rat) = (a : Rat) ∧ a.natAbs ≤ x.length * 2 ^ (N + K)
  | [], y, _, _ => ⟨0, by
      show (0 : Rat) * _ = _
      rw [Rat.zero_mul]
      rfl, by simp⟩
  | x :: xs, [], _, _ => ⟨0, by
      show (0 : Rat) * _ = _
      rw [Rat.zero_mul]
      rfl, by simp⟩
  | x :: xs, y :: ys, hx, hy => by
    obtain ⟨a, a1, a2⟩ := hx x List.mem_cons_self
    obtain ⟨b, b1, b2⟩ := hy y List.mem_cons_self
    obtain ⟨c, c1, c2⟩ := cm_dot (x := xs) (y := ys) (fun q hq => hx q (List.mem_cons_of_mem _ hq)) (fun q hq => hy q (List.mem_cons_of_mem _ hq))
    have t : ((d * e : Nat) : Rat) = (d : Rat) * (e : Rat) := by
      rw [← cast_nat, Int.natCast_mul, Rat.intCast_mul]
      rfl
    refine ⟨a * b + c, ?_, ?_⟩
    · rw [rDot, Rat.intCast_add, Rat.intCast_mul, ← a1, ← b1, ← c1, t]
      grind
    · have z : (a * b).natAbs < 2 ^ (N + K) := by
        rw [Int.natAbs_mul]
        exact pow2_mul a2 b2
      rw [List.length_cons, Nat.succ_mul]
      omega
theorem len_pow (n M : Nat) : n * 2 ^ M < 2 ^ (M + n) := by
  rw [Nat.pow_add, Nat.mul_comm]
  exact Nat.mul_lt_mul_of_pos_left Nat.lt_two_pow_self (Nat.two_pow_pos _)
theorem cm_gOn {N K d e n : Nat} {g : List (List Rat)} {s : List Rat} (hg : ∀ r ∈ g, Cm N d r) (hw : Wide n g) (hs : Cm K e s) : Cm (N + K + n) (d * e) (gOn g s) := fun q hq => by
  obtain ⟨r, hr, rfl⟩ := List.mem_map.mp hq
  obtain ⟨a, a1, a2⟩ := cm_dot (hg r hr) hs
  rw [hw r hr] at a2
  exact ⟨a, a1, Nat.lt_of_le_of_lt a2 (len_pow _ _)⟩
theorem cm_up {N d e K : Nat} {s : List Rat} (hs : Cm N d s) (he : e < 2 ^ K) : Cm (N + K) (d * e) s := fun q hq => by
  obtain ⟨a, a1, a2⟩ := hs q hq
  have t : ((d * e : Nat) : Rat) = (d : Rat) * (e : Rat) := by
    rw [← cast_nat, Int.natCast_mul, Rat.intCast_mul]
    rfl
  refine ⟨a * (e : Int), ?_, ?_⟩
  · rw [Rat.intCast_mul, ← a1, t, cast_nat]
    grind
  · rw [Int.natAbs_mul]
    exact pow2_mul a2 he
theorem cm_sub {N d : Nat} {s t : List Rat} (h : ∀ q ∈ s, q ∈ t) (ht : Cm N d t) : Cm N d s := fun q hq => ht q (h q hq)
section
variable {k : Bool}
end
def pw (M : Gr) : Nat → List Rat → List Rat
  | 0, s => s
  | t + 1, s => gOn M (pw M t s)
section
variable {n A N d K e : Nat} {M L U : Gr} {s b : List Rat}
theorem pw_len (h : M.length = n) (hs : s.length = n) : ∀ t, (pw M t s).length = n
  | 0 => hs
  | t + 1 => by
    unfold pw
    rw [gOn_len, h]
theorem pw_cm (hM : ∀ r ∈ M, Cm N d r) (hw : Wide n M) (hs : Cm K e s) : ∀ t, Cm (K + t * (N + n)) (d ^ t * e) (pw M t s)
  | 0 => by
    rw [Nat.zero_mul, Nat.pow_zero, Nat.one_mul]
    exact hs
  | t + 1 => by
    have z := cm_gOn hM hw (pw_cm hM hw hs t)
    rw [← Nat.mul_assoc, Nat.mul_comm d, ← Nat.pow_succ] at z
    exact z.mono (by rw [Nat.succ_mul]; omega)
end
section
variable {n A : Nat} {M L U : Gr} {k : Bool}
end
section
variable {n A B : Nat} {M L U : Gr} {k : Bool} {s b : List Rat}
theorem gOn_nul {j : Nat} : gOn M (nul j) = nul M.length := by
  refine row_ext (n := M.length) gOn_len nul_len fun i hi => ?_
  rw [gOn_at hi, rDot_nulr, nul_at]
end
section
variable {n A B : Nat} {M L U : Gr} {k : Bool} {s b : List Rat}
end
section
variable {n A B : Nat} {M L U : Gr} {k : Bool} {s b : List Rat}
end
def idot : List Int → List Int → Int
  | a :: x, b :: y => a * b + idot x y
  | _, _ => 0
def box (X : Nat) : Nat → List (List Int)
  | 0 => [[]]
  | m + 1 => (List.range X).flatMap fun (a : Nat) => (box X m).map fun x => (a : Int) :: x
theorem box_len (X : Nat) : ∀ m, (box X m).length = X ^ m
  | 0 => rfl
  | m + 1 => by
    unfold box
    rw [List.length_flatMap]
    have : (List.range X).map (fun (a : Nat) => ((box X m).map fun x => (a : Int) :: x).length) = List.replicate X (X ^ m) := by
      refine List.eq_replicate_iff.mpr ⟨by simp, fun y hy => ?_⟩
      obtain ⟨a, _, rfl⟩ := List.mem_map.mp hy
      rw [List.length_map, box_len X m]
    rw [this, List.sum_replicate_nat, Nat.pow_succ, Nat.mul_comm]
theorem box_mem {X : Nat} : ∀ {m : Nat} {x : List Int}, x ∈ box X m ↔ x.length = m ∧ ∀ a ∈ x, 0 ≤ a ∧ a < X
  | 0, x => by
    unfold box
    constructor
    · intro h
      rw [List.mem_singleton.mp h]
      exact ⟨rfl, fun _ h => nomatch h⟩
    · rintro ⟨h, _⟩
      rw [List.length_eq_zero_iff.mp h]
      exact List.mem_singleton.mpr rfl
  | m + 1, x => by
    unfold box
    rw [List.mem_flatMap]
    constructor
    · rintro ⟨a, ha, hx⟩
      obtain ⟨y, hy, rfl⟩ := List.mem_map.mp hx
      obtain ⟨h1, h2⟩ := box_mem.mp hy
      have ha := List.mem_range.mp ha
      refine ⟨by rw [List.length_cons, h1], fun b hb => ?_⟩
      rcases List.mem_cons.mp hb with rfl | hb
      · omega
      · exact h2 b hb
    · rintro ⟨h1, h2⟩
      cases x with
      | nil => cases h1
      | cons b y =>
        have hb := h2 b List.mem_cons_self
        refine ⟨b.toNat, List.mem_range.mpr (by omega), List.mem_map.mpr ⟨y, box_mem.mpr ⟨by simpa using h1, fun c hc => h2 c (List.mem_cons_of_mem _ hc)⟩, ?_⟩⟩
        rw [Int.toNat_of_nonneg hb.1]
theorem box_nodup (X : Nat) : ∀ m, (box X m).Nodup
  | 0 => by simp [box]
  | m + 1 => by
    unfold box
    refine List.pairwise_flatMap.mpr ⟨fun a ha => ?_, ?_⟩
    · refine List.pairwise_map.mpr ((box_nodup X m).imp fun h e => h (List.cons.inj e).2)
    · refine List.nodup_range.imp (fun {a b} (h : a ≠ b) x hx y hy e => h ?_)
      obtain ⟨u, _, rfl⟩ := List.mem_map.mp hx
      obtain ⟨v, _, rfl⟩ := List.mem_map.mp hy
      have := (List.cons.inj e).1
      omega
theorem nodup_len {α : Type} [BEq α] [LawfulBEq α] : ∀ {l m : List α}, l.Nodup → (∀ x ∈ l, x ∈ m) → l.length ≤ m.length
  | [], m, _, _ => Nat.zero_le _
  | a :: l, m, hn, hs => by
    obtain ⟨h1, h2⟩ := List.nodup_cons.mp hn
    have ha := hs a List.mem_cons_self
    have ih := nodup_len (m := m.erase a) h2 fun x hx => (List.mem_erase_of_ne (fun e : x = a => h1 (by rw [← e]; exact hx))).mpr (hs x (List.mem_cons_of_mem _ hx))
    rw [List.length_erase_of_mem ha] at ih
    have := List.length_pos_of_mem ha
    rw [List.length_cons]
    omega
theorem pigeon {α β : Type} [DecidableEq α] [DecidableEq β] {l : List α} {m : List β} (f : α → β) (hn : l.Nodup) (hs : ∀ x ∈ l, f x ∈ m) (h : m.length < l.length) : ∃ x ∈ l, ∃ y ∈ l, x ≠ y ∧ f x = f y := by
  apply Classical.byContradiction
  intro c
  have inj : ∀ x ∈ l, ∀ y ∈ l, f x = f y → x = y := fun x hx y hy e => Classical.byContradiction fun n => c ⟨x, hx, y, hy, n, e⟩
  have nd : (l.map f).Nodup := by
    refine List.pairwise_map.mpr (List.Pairwise.imp_of_mem (fun {a b} ha hb hab e => hab (inj a ha b hb e)) hn)
  have := nodup_len (m := m) nd fun x hx => by
    obtain ⟨y, hy, rfl⟩ := List.mem_map.mp hx
    exact hs y hy
  rw [List.length_map] at this
  omega
def isub (x y : List Int) : List Int := List.zipWith (fun a b => a - b) x y
theorem idot_sub : ∀ {x y c : List Int}, x.length = y.length → idot (isub x y) c = idot x c - idot y c
  | [], [], c, _ => by
    show (0 : Int) = 0 - 0
    omega
  | a :: x, b :: y, [], _ => by
    show (0 : Int) = 0 - 0
    omega
  | a :: x, b :: y, d :: c, h => by
    show (a - b) * d + idot (isub x y) c = (a * d + idot x c) - (b * d + idot y c)
    rw [idot_sub (by simpa using h), Int.sub_mul]
    omega
theorem idot_le {X M : Nat} : ∀ {x c : List Int}, (∀ a ∈ x, a.natAbs ≤ X) → (∀ b ∈ c, b.natAbs ≤ M) → (idot x c).natAbs ≤ x.length * (X * M)
  | [], c, _, _ => by
    show (0 : Int).natAbs ≤ _
    simp
  | a :: x, [], _, _ => by
    show (0 : Int).natAbs ≤ _
    simp
  | a :: x, b :: c, hx, hc => by
    show (a * b + idot x c).natAbs ≤ _
    have ih := idot_le (x := x) (c := c) (fun a h => hx a (List.mem_cons_of_mem _ h)) fun b h => hc b (List.mem_cons_of_mem _ h)
    have h1 := Int.natAbs_add_le (a * b) (idot x c)
    have h2 : (a * b).natAbs ≤ X * M := by
      rw [Int.natAbs_mul]
      exact Nat.mul_le_mul (hx a List.mem_cons_self) (hc b List.mem_cons_self)
    rw [List.length_cons, Nat.succ_mul]
    omega
theorem isub_ne : ∀ {x y : List Int}, x.length = y.length → x ≠ y → ∃ a ∈ isub x y, a ≠ 0
  | [], [], _, h => absurd rfl h
  | a :: x, b :: y, h, n => by
    by_cases e : a = b
    · subst e
      obtain ⟨c, hc, h0⟩ := isub_ne (x := x) (y := y) (by simpa using h) fun z => n (by rw [z])
      exact ⟨c, List.mem_cons_of_mem _ hc, h0⟩
    · exact ⟨a - b, List.mem_cons_self, by omega⟩
theorem isub_le {X : Nat} : ∀ {x y : List Int}, (∀ a ∈ x, 0 ≤ a ∧ a < (X : Int) + 1) → (∀ a ∈ y, 0 ≤ a ∧ a < (X : Int) + 1) → ∀ a ∈ isub x y, a.natAbs ≤ X
  | [], y, _, _, a, h => by
    unfold isub at h
    simp at h
  | b :: x, [], _, _, a, h => by
    unfold isub at h
    simp at h
  | b :: x, c :: y, hx, hy, a, h => by
    have h : a ∈ (b - c) :: isub x y := h
    rcases List.mem_cons.mp h with rfl | h
    · have h1 := hx b List.mem_cons_self
      have h2 := hy c List.mem_cons_self
      omega
    · exact isub_le (fun a h => hx a (List.mem_cons_of_mem _ h)) (fun a h => hy a (List.mem_cons_of_mem _ h)) a h
theorem isub_len {x y : List Int} (h : x.length = y.length) : (isub x y).length = x.length := by
  unfold isub
  rw [List.length_zipWith]
  omega
def sX (p N : Nat) : Nat := ((p + 1) * 2 ^ (N + 1)) ^ p
theorem siegel {N : Nat} (rows : List (List Int)) (hr : ∀ c ∈ rows, ∀ b ∈ c, b.natAbs ≤ 2 ^ N) :
    ∃ z : List Int, z.length = rows.length + 1 ∧ (∃ a ∈ z, a ≠ 0) ∧ (∀ a ∈ z, a.natAbs ≤ sX rows.length N) ∧ ∀ c ∈ rows, idot z c = 0 := by
  generalize hp : rows.length = p
  generalize hX : sX p N = X
  have hB : ∀ x ∈ box (X + 1) (p + 1), ∀ c ∈ rows, (idot x c).natAbs ≤ (p + 1) * (X * 2 ^ N) := fun x hx c hc => by
    obtain ⟨h1, h2⟩ := box_mem.mp hx
    have := idot_le (X := X) (x := x) (c := c) (fun a ha => by have := h2 a ha; omega) (hr c hc)
    rw [h1] at this
    exact this
  generalize hB0 : (p + 1) * (X * 2 ^ N) = B0 at hB
  have hs : ∀ x ∈ box (X + 1) (p + 1), rows.map (fun c => idot x c + (B0 : Int)) ∈ box (2 * B0 + 1) p := fun x hx => by
    refine box_mem.mpr ⟨by rw [List.length_map, hp], fun a ha => ?_⟩
    obtain ⟨c, hc, rfl⟩ := List.mem_map.mp ha
    have := hB x hx c hc
    omega
  have hlt : (box (2 * B0 + 1) p).length < (box (X + 1) (p + 1)).length := by
    rw [box_len, box_len]
    have h1 : 2 * B0 + 1 ≤ (p + 1) * 2 ^ (N + 1) * (X + 1) := by
      have e : (p + 1) * 2 ^ (N + 1) * (X + 1) = 2 * B0 + (p + 1) * 2 ^ (N + 1) := by
        rw [← hB0, Nat.pow_succ]
        generalize 2 ^ N = t
        grind
      have : 0 < (p + 1) * 2 ^ (N + 1) := Nat.mul_pos (Nat.succ_pos _) (Nat.pow_pos (by decide))
      omega
    have h2 := Nat.pow_le_pow_left h1 p
    rw [Nat.mul_pow] at h2
    have h3 : ((p + 1) * 2 ^ (N + 1)) ^ p = X := hX
    rw [h3] at h2
    have h4 : (X + 1) ^ (p + 1) = X * (X + 1) ^ p + (X + 1) ^ p := by
      rw [Nat.pow_succ]
      generalize (X + 1) ^ p = t
      grind
    have h5 : 0 < (X + 1) ^ p := Nat.pow_pos (Nat.succ_pos _)
    omega
  obtain ⟨x, hx, y, hy, hne, e⟩ := pigeon (fun x => rows.map fun c => idot x c + (B0 : Int)) (box_nodup _ _) hs hlt
  obtain ⟨x1, x2⟩ := box_mem.mp hx
  obtain ⟨y1, y2⟩ := box_mem.mp hy
  have hl : x.length = y.length := by omega
  refine ⟨isub x y, by rw [isub_len hl]; exact x1, isub_ne hl hne, isub_le (fun a ha => by have := x2 a ha; omega) (fun a ha => by have := y2 a ha; omega), fun c hc => ?_⟩
  have e1 : idot x c + (B0 : Int) = idot y c + (B0 : Int) := List.map_inj_left.mp e c hc
  rw [idot_sub hl]
  omega
def Pm (b : Nat) (r : List Rat) : Prop := ∃ d : Nat, 0 < d ∧ d < 2 ^ b ∧ Cm b d r
theorem Pm.mono {a b : Nat} {r : List Rat} (h : Pm a r) (e : a ≤ b) : Pm b r :=
  let ⟨d, h0, h1, h2⟩ := h
  ⟨d, h0, pow2_le e h1, h2.mono e⟩
theorem Pm.bd {b : Nat} {r : List Rat} (h : Pm b r) : Bd b r :=
  let ⟨_, h0, h1, h2⟩ := h
  h2.bd h0 (Nat.le_refl _) h1
theorem Pm.ints {b : Nat} {r : List Rat} (h : Pm b r) : ∃ (d : Nat) (A : Nat → Int), 0 < d ∧ d < 2 ^ b ∧ ∀ j, r.getD j 0 * (d : Rat) = (A j : Rat) ∧ (A j).natAbs < 2 ^ b := by
  obtain ⟨d, h0, h1, h2⟩ := h
  have k : ∀ j : Nat, ∃ a : Int, r.getD j 0 * (d : Rat) = (a : Rat) ∧ a.natAbs < 2 ^ b := fun j => by
    by_cases hj : j < r.length
    · rw [getD_at hj]
      exact h2 _ (List.getElem_mem hj)
    · refine ⟨0, ?_, Nat.two_pow_pos _⟩
      rw [List.getD_eq_getElem?_getD, List.getElem?_eq_none (by omega)]
      show (0 : Rat) * _ = 0
      exact Rat.zero_mul _
  obtain ⟨A, hA⟩ := Classical.axiomOfChoice k
  exact ⟨d, A, h0, h1, hA⟩
theorem Pm.of_ints {b : Nat} {r : List Rat} {z : Int} {K : Nat} (hz : z ≠ 0) (hb : z.natAbs < 2 ^ b) (h : ∀ q ∈ r, ∃ a : Int, q * (z : Rat) = (a : Rat) ∧ a.natAbs < 2 ^ b) : Pm b r := by
  refine ⟨z.natAbs, by omega, hb, fun q hq => ?_⟩
  obtain ⟨a, h1, h2⟩ := h q hq
  by_cases s : 0 < z
  · refine ⟨a, ?_, h2⟩
    have e : ((z.natAbs : Nat) : Rat) = (z : Rat) := by
      rw [← cast_nat]
      congr 1
      omega
    rw [e, h1]
  · refine ⟨-a, ?_, by omega⟩
    have e : ((z.natAbs : Nat) : Rat) = -(z : Rat) := by
      rw [← cast_nat, ← Rat.intCast_neg]
      congr 1
      omega
    rw [e, Rat.intCast_neg, ← h1]
    grind
theorem rDot_cast : ∀ z c : List Int, rDot (z.map fun (a : Int) => (a : Rat)) (c.map fun (a : Int) => (a : Rat)) = ((idot z c : Int) : Rat)
  | [], c => rfl
  | a :: z, [] => rfl
  | a :: z, b :: c => by
    show (a : Rat) * (b : Rat) + rDot (z.map fun (a : Int) => (a : Rat)) (c.map fun (a : Int) => (a : Rat)) = ((a * b + idot z c : Int) : Rat)
    rw [rDot_cast z c, Rat.intCast_add, Rat.intCast_mul]
theorem rDot_lin {f g : List Rat → Rat} {c : Rat} : ∀ (W : List Rat) (P : List (List Rat)), rDot W (P.map fun x => f x * c + g x) = rDot W (P.map f) * c + rDot W (P.map g)
  | [], P => by
    show (0 : Rat) = 0 * c + 0
    grind
  | a :: W, [] => by
    show (0 : Rat) = 0 * c + 0
    grind
  | a :: W, x :: P => by
    show a * (f x * c + g x) + rDot W (P.map fun x => f x * c + g x) = (a * f x + rDot W (P.map f)) * c + (a * g x + rDot W (P.map g))
    rw [rDot_lin W P]
    grind
theorem rDot_scale {D : List Rat → Nat} {f : List Rat → Rat} : ∀ (zs : List Int) (P : List (List Rat)), rDot (List.zipWith (fun (z : Int) r => (z : Rat) * (D r : Rat)) zs P) (P.map f) = rDot (zs.map fun (a : Int) => (a : Rat)) (P.map fun r => f r * (D r : Rat))
  | [], P => by
    cases P <;> rfl
  | a :: z, [] => rfl
  | a :: z, x :: P => by
    show (a : Rat) * (D x : Rat) * f x + rDot (List.zipWith (fun (z : Int) r => (z : Rat) * (D r : Rat)) z P) (P.map f) = (a : Rat) * (f x * (D x : Rat)) + rDot (z.map fun (a : Int) => (a : Rat)) (P.map fun r => f r * (D r : Rat))
    rw [rDot_scale z P]
    grind
theorem lift {Φ : List Rat → Rat} {W : List Rat} {P : List (List Rat)} {y : List Rat} {z0 : Rat} : ∀ {fl : List (Nat × List Rat)}, (∀ a ∈ fl, z0 * y.getD a.1 0 + rDot W (P.map fun x => x.getD a.1 0) = 0) → z0 * sP Φ fl y + rDot W (P.map (sP Φ fl)) = 0
  | [], _ => by
    have e : P.map (sP Φ []) = nul P.length := by
      unfold nul
      exact List.eq_replicate_iff.mpr ⟨List.length_map .., fun x hx => by
        obtain ⟨y, _, rfl⟩ := List.mem_map.mp hx
        rfl⟩
    rw [e, dot_nul]
    show z0 * 0 + 0 = 0
    grind
  | a :: fl, h => by
    have ih := lift (Φ := Φ) (fl := fl) fun b hb => h b (List.mem_cons_of_mem _ hb)
    have h0 := h a List.mem_cons_self
    show z0 * (y.getD a.1 0 * Φ a.2 + sP Φ fl y) + rDot W (P.map fun x => x.getD a.1 0 * Φ a.2 + sP Φ fl x) = 0
    rw [rDot_lin]
    grind
section
variable {N B : Nat} {P : List (List Rat)} {fl : List (Nat × List Rat)}
theorem sp_rep (rr : RR N fl) (h3 : ∀ φ, Lin N φ → (Kr φ P ↔ ∀ a ∈ fl, φ a.2 = 0)) {Φ : List Rat → Rat} (L : Lin N Φ) {r : List Rat} (hr : r ∈ P) : sP Φ fl r = Φ r := by
  have kl : ∀ a ∈ fl, (fun x => Φ x - sP Φ fl x) a.2 = 0 := fun a ha => by
    show Φ a.2 - sP Φ fl a.2 = 0
    rw [sP_in rr.pw (fun b hb => (rr.ld b hb).2) a ha]
    grind
  have e1 : Φ r - sP Φ fl r = 0 := (h3 _ (L.less (lin_sP N Φ fl))).mpr kl r hr
  grind
theorem sg_core (rr : RR N fl) (hP : ∀ r ∈ P, Pm B r) (hl : P.length = fl.length) (h3 : ∀ φ, Lin N φ → (Kr φ P ↔ ∀ a ∈ fl, φ a.2 = 0)) (h5 : IndP N P) {y0 : List Rat} {yA : Nat → Int} (hy : ∀ a ∈ fl, y0.getD a.1 0 = (yA a.1 : Rat) ∧ (yA a.1).natAbs ≤ 2 ^ B) :
    ∃ (z0 : Int) (W : List Rat), z0 ≠ 0 ∧ z0.natAbs ≤ sX fl.length B ∧ (∀ a ∈ fl, (z0 : Rat) * y0.getD a.1 0 + rDot W (P.map fun x => x.getD a.1 0) = 0) ∧ ∀ j, ∃ A : Int, rDot W (P.map fun x => x.getD j 0) = (A : Rat) ∧ A.natAbs ≤ fl.length * (sX fl.length B * 2 ^ B) := by
  have hk : ∀ r : List Rat, ∃ d : Nat, ∃ A : Nat → Int, Pm B r → 0 < d ∧ ∀ j, r.getD j 0 * (d : Rat) = (A j : Rat) ∧ (A j).natAbs < 2 ^ B := fun r => by
    by_cases h : Pm B r
    · obtain ⟨d, A, h0, h1, h2⟩ := h.ints
      exact ⟨d, A, fun _ => ⟨h0, h2⟩⟩
    · exact ⟨0, fun _ => 0, fun k => absurd k h⟩
  obtain ⟨D, hD⟩ := Classical.axiomOfChoice hk
  obtain ⟨A, hA⟩ := Classical.axiomOfChoice hD
  have hcol : ∀ j, (P.map fun r => r.getD j 0 * (D r : Rat)) = (P.map fun r => A r j).map fun (a : Int) => (a : Rat) := fun j => by
    rw [List.map_map]
    exact List.map_congr_left fun r hr => ((hA r (hP r hr)).2 j).1
  obtain ⟨z, z1, ⟨b, hb, b0⟩, z3, z4⟩ := siegel (N := B) (fl.map fun a => yA a.1 :: P.map fun r => A r a.1) (fun c hc b hb => by
    obtain ⟨a, ha, rfl⟩ := List.mem_map.mp hc
    rcases List.mem_cons.mp hb with rfl | hb
    · exact (hy a ha).2
    · obtain ⟨r, hr, rfl⟩ := List.mem_map.mp hb
      exact Nat.le_of_lt ((hA r (hP r hr)).2 a.1).2)
  rw [List.length_map] at z1 z3
  cases z with
  | nil => cases z1
  | cons z0 zs =>
    have zl : zs.length = P.length := by
      rw [List.length_cons] at z1
      omega
    have eW := fun f => rDot_scale (D := D) (f := f) zs P
    generalize hW : List.zipWith (fun (z : Int) r => (z : Rat) * (D r : Rat)) zs P = W at eW
    have eC : ∀ j, rDot W (P.map fun x => x.getD j 0) = ((idot zs (P.map fun r => A r j) : Int) : Rat) := fun j => by
      rw [eW, hcol, rDot_cast]
    have eJ : ∀ a ∈ fl, (z0 : Rat) * y0.getD a.1 0 + rDot W (P.map fun x => x.getD a.1 0) = 0 := fun a ha => by
      have e : z0 * yA a.1 + idot zs (P.map fun r => A r a.1) = 0 := z4 _ (List.mem_map.mpr ⟨a, ha, rfl⟩)
      rw [eC, (hy a ha).1, ← Rat.intCast_mul, ← Rat.intCast_add, e]
      rfl
    refine ⟨z0, W, fun h0 => ?_, z3 z0 List.mem_cons_self, eJ, fun j => ⟨_, eC j, ?_⟩⟩
    · subst h0
      have kW : ∀ q ∈ W, q = 0 := h5 W (by rw [← hW, List.length_zipWith]; omega) fun φ L => by
        have e : P.map φ = P.map (sP φ fl) := List.map_congr_left fun r hr => (sp_rep rr h3 L hr).symm
        have := lift (Φ := φ) (z0 := ((0 : Int) : Rat)) eJ
        rw [e]
        have e0 : ((0 : Int) : Rat) = 0 := rfl
        rw [e0] at this
        grind
      rcases List.mem_cons.mp hb with rfl | hb
      · exact b0 rfl
      · obtain ⟨i, hi, rfl⟩ := List.getElem_of_mem hb
        have hi2 : i < P.length := by omega
        have hq := kW (((zs[i] : Int) : Rat) * (D P[i] : Rat)) (by
          rw [← hW]
          refine List.mem_iff_getElem.mpr ⟨i, by rw [List.length_zipWith]; omega, ?_⟩
          rw [List.getElem_zipWith])
        have hd := cast_pos (hA P[i] (hP _ (List.getElem_mem hi2))).1
        exact b0 (by
          have h1 : ((zs[i] : Int) : Rat) = 0 := by grind
          exact Classical.byContradiction fun h => cast_ne h h1)
    · have := idot_le (X := sX fl.length B) (M := 2 ^ B) (x := zs) (c := P.map fun r => A r j) (fun a ha => z3 a (List.mem_cons_of_mem _ ha)) fun b hb => by
        obtain ⟨r, hr, rfl⟩ := List.mem_map.mp hb
        exact Nat.le_of_lt ((hA r (hP r hr)).2 j).2
      rw [zl, hl] at this
      exact this
theorem sX_le {p B : Nat} (h : p + 1 ≤ 16) : sX p B ≤ 2 ^ ((B + 5) * p) := by
  unfold sX
  rw [Nat.pow_mul]
  refine Nat.pow_le_pow_left ?_ p
  have e : 2 ^ (B + 5) = 16 * 2 ^ (B + 1) := by
    rw [show B + 5 = 4 + (B + 1) by omega, Nat.pow_add]
  rw [e]
  exact Nat.mul_le_mul_right _ h
theorem tops_lt {p B x : Nat} (h : p + 1 ≤ 16) (hx : x ≤ (p + 1) * (sX p B * 2 ^ B)) : x < 2 ^ ((p + 1) * (B + 5)) := by
  have h1 := sX_le (B := B) h
  have h2 : (p + 1) * (sX p B * 2 ^ B) ≤ 2 ^ 4 * (2 ^ ((B + 5) * p) * 2 ^ B) := Nat.mul_le_mul h (Nat.mul_le_mul_right _ h1)
  rw [← Nat.pow_add, ← Nat.pow_add] at h2
  refine Nat.lt_of_le_of_lt (Nat.le_trans hx h2) (Nat.pow_lt_pow_right (by decide) ?_)
  have e : (p + 1) * (B + 5) = (B + 5) * p + (B + 5) := by rw [Nat.succ_mul, Nat.mul_comm p]
  rw [e]
  generalize (B + 5) * p = t
  omega
end
theorem Inv.pm {N B j : Nat} {g left : List (List Rat)} {fl : List (Nat × List Rat)} (I : Inv N g j fl left) (hj : j ≤ N) (hg : ∀ r ∈ g, Pm B r) (hp : fl.length + 1 ≤ 16) :
    (∀ a ∈ fl, Pm ((fl.length + 1) * (B + 5)) a.2) ∧ ∀ x ∈ left, Pm ((fl.length + 1) * (B + 5)) x := by
  obtain ⟨P, h1, h2, h3, h4, h5⟩ := I.ps
  have rr : RR N fl := ⟨I.wf, fun a ha => ⟨Nat.lt_of_lt_of_le (I.ld a ha).1 hj, (I.ld a ha).2⟩, I.pw⟩
  have hP : ∀ r ∈ P, Pm B r := fun r hr => hg r (h1 r hr)
  have LX := lin_at N
  constructor
  · intro a0 h0
    obtain ⟨z0, W, n0, b0, eJ, eA⟩ := sg_core rr hP h2 h3 h5 (y0 := a0.2) (yA := fun i => if i = a0.1 then 1 else 0) fun a ha => by
      by_cases c : a.1 = a0.1
      · rw [if_pos c, c, (rr.ld a0 h0).2.2]
        exact ⟨rfl, Nat.two_pow_pos _⟩
      · rw [if_neg c, rr.off h0 ha c]
        exact ⟨rfl, Nat.zero_le _⟩
    refine Pm.of_ints (K := 0) n0 (tops_lt hp ?_) fun q hq => ?_
    · refine Nat.le_trans b0 ?_
      have : 0 < 2 ^ B := Nat.two_pow_pos _
      refine Nat.le_trans (Nat.le_mul_of_pos_right _ this) (Nat.le_mul_of_pos_left _ (Nat.succ_pos _))
    · obtain ⟨i, hi, rfl⟩ := List.getElem_of_mem hq
      obtain ⟨A, e1, e2⟩ := eA i
      refine ⟨-A, ?_, ?_⟩
      · have := lift (Φ := fun x => x.getD i 0) eJ
        rw [sP_in rr.pw (fun b hb => (rr.ld b hb).2) a0 h0, List.map_congr_left fun r hr => sp_rep rr h3 (LX i) hr, e1, getD_at hi] at this
        rw [Rat.intCast_neg]
        grind
      · refine tops_lt hp ?_
        rw [Int.natAbs_neg]
        exact Nat.le_trans e2 (Nat.mul_le_mul_right _ (Nat.le_succ _))
  · intro x hx
    obtain ⟨o, ho, eo⟩ := h4 x hx
    obtain ⟨d, Ao, d0, d1, hAo⟩ := (hg o ho).ints
    obtain ⟨z0, W, n0, b0, eJ, eA⟩ := sg_core rr hP h2 h3 h5 (y0 := rMul (d : Rat) o) (yA := Ao) fun a ha => ⟨by rw [gd_mul, Rat.mul_comm]; exact (hAo a.1).1, Nat.le_of_lt (hAo a.1).2⟩
    have ol : o.length = N ∨ True := .inr trivial
    have cz : ((z0 * (d : Int) : Int) : Rat) = (z0 : Rat) * (d : Rat) := by rw [Rat.intCast_mul]; rfl
    refine Pm.of_ints (K := 0) (z := z0 * (d : Int)) (Int.mul_ne_zero n0 (by omega)) ?_ fun q hq => ?_
    · rw [Int.natAbs_mul]
      refine tops_lt hp ?_
      have : z0.natAbs * (d : Int).natAbs ≤ sX fl.length B * 2 ^ B := Nat.mul_le_mul b0 (by omega)
      exact Nat.le_trans this (Nat.le_mul_of_pos_left _ (Nat.succ_pos _))
    · obtain ⟨i, hi, rfl⟩ := List.getElem_of_mem hq
      obtain ⟨A, e1, e2⟩ := eA i
      refine ⟨z0 * Ao i + A, ?_, ?_⟩
      · have kl : ∀ a ∈ fl, (fun x : List Rat => x.getD i 0 - sP (fun y => y.getD i 0) fl x) a.2 = 0 := fun a ha => by
          show a.2.getD i 0 - sP (fun y => y.getD i 0) fl a.2 = 0
          rw [sP_in rr.pw (fun b hb => (rr.ld b hb).2) a ha]
          grind
        have ex : x.getD i 0 - sP (fun y => y.getD i 0) fl x = o.getD i 0 - sP (fun y => y.getD i 0) fl o := eo _ ((LX i).less (lin_sP N _ fl)) kl
        rw [sP_off fun a ha => I.lz x hx a.1 (I.ld a ha).1, getD_at hi] at ex
        have lf := lift (Φ := fun x => x.getD i 0) eJ
        have sm : sP (fun y => y.getD i 0) fl (rMul (d : Rat) o) = (d : Rat) * sP (fun y => y.getD i 0) fl o := (lin_sP o.length _ fl).mul _ rfl
        rw [sm, List.map_congr_left fun r hr => sp_rep rr h3 (LX i) hr, e1] at lf
        have eo2 := (hAo i).1
        rw [cz, Rat.intCast_add, Rat.intCast_mul, ← eo2]
        grind
      · refine tops_lt hp ?_
        have q1 := Int.natAbs_add_le (z0 * Ao i) A
        have q2 : (z0 * Ao i).natAbs ≤ sX fl.length B * 2 ^ B := by
          rw [Int.natAbs_mul]
          exact Nat.mul_le_mul b0 (Nat.le_of_lt (hAo i).2)
        rw [Nat.succ_mul]
        omega
def qs : List Int → List (Nat × List Rat) → List Rat → Rat
  | z :: zs, a :: fl, x => (z : Rat) * x.getD a.1 0 + qs zs fl x
  | _, _, _ => 0
theorem lin_qs (N : Nat) : ∀ (zs : List Int) (fl : List (Nat × List Rat)), Lin N (qs zs fl)
  | [], fl => by
    have e : qs [] fl = fun _ => 0 := by
      funext x
      cases fl <;> rfl
    rw [e]
    exact ⟨fun _ _ => by show (0 : Rat) = 0 - 0; grind, fun c _ => by show (0 : Rat) = c * 0; grind⟩
  | z :: zs, [] => ⟨fun _ _ => by show (0 : Rat) = 0 - 0; grind, fun c _ => by show (0 : Rat) = c * 0; grind⟩
  | z :: zs, a :: fl => by
    have ih := lin_qs N zs fl
    constructor
    · intro x y hx hy
      show (z : Rat) * (rSub x y).getD a.1 0 + qs zs fl (rSub x y) = ((z : Rat) * x.getD a.1 0 + qs zs fl x) - ((z : Rat) * y.getD a.1 0 + qs zs fl y)
      rw [ih.sub hx hy, gd_sub (by omega)]
      grind
    · intro x c hx
      show (z : Rat) * (rMul c x).getD a.1 0 + qs zs fl (rMul c x) = c * ((z : Rat) * x.getD a.1 0 + qs zs fl x)
      rw [ih.mul c hx, gd_mul]
      grind
theorem qs_off {x : List Rat} : ∀ {zs : List Int} {fl : List (Nat × List Rat)}, (∀ a ∈ fl, x.getD a.1 0 = 0) → qs zs fl x = 0
  | [], fl, _ => by cases fl <;> rfl
  | z :: zs, [], _ => rfl
  | z :: zs, a :: fl, h => by
    show (z : Rat) * x.getD a.1 0 + qs zs fl x = 0
    rw [h a List.mem_cons_self, qs_off fun b hb => h b (List.mem_cons_of_mem _ hb)]
    grind
theorem qs_at : ∀ {zs : List Int} {fl : List (Nat × List Rat)}, (fl.Pairwise fun a b => a.1 < b.1 ∧ a.2.getD b.1 0 = 0) → (∀ a ∈ fl, (∀ i, i < a.1 → a.2.getD i 0 = 0) ∧ a.2.getD a.1 0 = 1) → ∀ (i : Nat) (h : i < fl.length) (h' : i < zs.length), qs zs fl fl[i].2 = (zs[i] : Rat)
  | z :: zs, a :: fl, pw, ld, 0, _, _ => by
    obtain ⟨p1, p2⟩ := List.pairwise_cons.mp pw
    show (z : Rat) * a.2.getD a.1 0 + qs zs fl a.2 = (z : Rat)
    rw [qs_off fun c hc => (p1 c hc).2, (ld a List.mem_cons_self).2]
    grind
  | z :: zs, a :: fl, pw, ld, i + 1, h, h' => by
    obtain ⟨p1, p2⟩ := List.pairwise_cons.mp pw
    have hm : fl[i]'(by simpa using h) ∈ fl := List.getElem_mem _
    show (z : Rat) * (fl[i]'(by simpa using h)).2.getD a.1 0 + qs zs fl (fl[i]'(by simpa using h)).2 = ((zs[i]'(by simpa using h') : Int) : Rat)
    rw [qs_at p2 (fun c hc => ld c (List.mem_cons_of_mem _ hc)) i (by simpa using h) (by simpa using h'), (ld _ (List.mem_cons_of_mem _ hm)).1 a.1 (p1 _ hm).1]
    grind
theorem idot_qs {A : Nat → Int} {r : List Rat} {d : Nat} (hA : ∀ j, r.getD j 0 * (d : Rat) = (A j : Rat)) : ∀ (zs : List Int) (fl : List (Nat × List Rat)), ((idot zs (fl.map fun a => A a.1) : Int) : Rat) = qs zs fl r * (d : Rat)
  | [], fl => by
    have : qs [] fl r = 0 := by cases fl <;> rfl
    rw [this]
    show ((0 : Int) : Rat) = 0 * (d : Rat)
    rw [Rat.zero_mul]
    rfl
  | z :: zs, [] => by
    show ((0 : Int) : Rat) = 0 * (d : Rat)
    rw [Rat.zero_mul]
    rfl
  | z :: zs, a :: fl => by
    show ((z * A a.1 + idot zs (fl.map fun a => A a.1) : Int) : Rat) = ((z : Rat) * r.getD a.1 0 + qs zs fl r) * (d : Rat)
    rw [Rat.intCast_add, Rat.intCast_mul, idot_qs hA zs fl, ← hA a.1]
    grind
theorem Inv.pmc {N B j : Nat} {g left : List (List Rat)} {fl : List (Nat × List Rat)} (I : Inv N g j fl left) (hj : j ≤ N) (hg : ∀ r ∈ g, Pm B r) (hp : fl.length + 1 ≤ 16) (c : Nat) : Pm (fl.length * (B + 5) + 1) (col (fs fl) c) := by
  obtain ⟨P, h1, h2, h3, h4, h5⟩ := I.ps
  have rr : RR N fl := ⟨I.wf, fun a ha => ⟨Nat.lt_of_lt_of_le (I.ld a ha).1 hj, (I.ld a ha).2⟩, I.pw⟩
  have hk : ∀ r : List Rat, ∃ A : Nat → Int, ∃ d : Nat, Pm B r → 0 < d ∧ ∀ j, r.getD j 0 * (d : Rat) = (A j : Rat) ∧ (A j).natAbs < 2 ^ B := fun r => by
    by_cases h : Pm B r
    · obtain ⟨d, A, h0, h1, h2⟩ := h.ints
      exact ⟨A, d, fun _ => ⟨h0, h2⟩⟩
    · exact ⟨fun _ => 0, 0, fun k => absurd k h⟩
  obtain ⟨A, hA⟩ := Classical.axiomOfChoice hk
  obtain ⟨z, z1, ⟨b, hb, b0⟩, z3, z4⟩ := siegel (N := B) (P.map fun r => A r c :: fl.map fun a => A r a.1) (fun x hx b hb => by
    obtain ⟨r, hr, rfl⟩ := List.mem_map.mp hx
    obtain ⟨d, hd⟩ := hA r
    obtain ⟨d0, hd⟩ := hd (hg r (h1 r hr))
    rcases List.mem_cons.mp hb with rfl | hb
    · exact Nat.le_of_lt (hd c).2
    · obtain ⟨a, ha, rfl⟩ := List.mem_map.mp hb
      exact Nat.le_of_lt (hd a.1).2)
  rw [List.length_map, h2] at z1 z3
  cases z with
  | nil => cases z1
  | cons z0 zs =>
    have zl : zs.length = fl.length := by
      rw [List.length_cons] at z1
      omega
    have L : Lin N fun x => (z0 : Rat) * x.getD c 0 + qs zs fl x := ⟨fun {x y} hx hy => by
      show (z0 : Rat) * (rSub x y).getD c 0 + qs zs fl (rSub x y) = ((z0 : Rat) * x.getD c 0 + qs zs fl x) - ((z0 : Rat) * y.getD c 0 + qs zs fl y)
      rw [gd_sub (by omega), (lin_qs N zs fl).sub hx hy]
      grind, fun {x} k hx => by
      show (z0 : Rat) * (rMul k x).getD c 0 + qs zs fl (rMul k x) = k * ((z0 : Rat) * x.getD c 0 + qs zs fl x)
      rw [gd_mul, (lin_qs N zs fl).mul k hx]
      grind⟩
    have kP : Kr (fun x => (z0 : Rat) * x.getD c 0 + qs zs fl x) P := fun r hr => by
      obtain ⟨d, hd⟩ := hA r
      obtain ⟨d0, hd⟩ := hd (hg r (h1 r hr))
      have e : z0 * A r c + idot zs (fl.map fun a => A r a.1) = 0 := z4 _ (List.mem_map.mpr ⟨r, hr, rfl⟩)
      have e2 : (((z0 * A r c + idot zs (fl.map fun a => A r a.1) : Int)) : Rat) = 0 := by rw [e]; rfl
      rw [Rat.intCast_add, Rat.intCast_mul, idot_qs (fun j => (hd j).1), ← (hd c).1] at e2
      have := cast_pos d0
      show (z0 : Rat) * r.getD c 0 + qs zs fl r = 0
      have e3 : ((z0 : Rat) * r.getD c 0 + qs zs fl r) * (d : Rat) = 0 := by grind
      rcases Rat.mul_eq_zero.mp e3 with h | h
      · exact h
      · exact absurd h this
    have kF := (h3 _ L).mp kP
    have key : ∀ (i : Nat) (h : i < fl.length), fl[i].2.getD c 0 * (z0 : Rat) = ((-(zs[i]'(by omega)) : Int) : Rat) := fun i h => by
      have e : (z0 : Rat) * fl[i].2.getD c 0 + qs zs fl fl[i].2 = 0 := kF _ (List.getElem_mem h)
      rw [qs_at rr.pw (fun b hb => (rr.ld b hb).2) i h (by omega)] at e
      rw [Rat.intCast_neg]
      grind
    have n0 : z0 ≠ 0 := fun h0 => by
      rcases List.mem_cons.mp hb with rfl | hb
      · exact b0 h0
      · obtain ⟨i, hi, rfl⟩ := List.getElem_of_mem hb
        have := key i (by omega)
        rw [h0] at this
        have e : ((-zs[i] : Int) : Rat) = 0 := by
          rw [← this]
          exact Rat.mul_zero _
        exact cast_ne (show -zs[i] ≠ 0 by omega) e
    have lt : ∀ {x : Nat}, x ≤ sX fl.length B → x < 2 ^ (fl.length * (B + 5) + 1) := fun {x} hx => by
      have := sX_le (B := B) hp
      rw [Nat.mul_comm] at this
      exact Nat.lt_of_le_of_lt (Nat.le_trans hx this) (Nat.pow_lt_pow_right (by decide) (Nat.lt_succ_self _))
    refine Pm.of_ints (K := 0) n0 (lt (z3 z0 List.mem_cons_self)) fun q hq => ?_
    obtain ⟨r, hr, rfl⟩ := List.mem_map.mp hq
    obtain ⟨a, ha, rfl⟩ := List.mem_map.mp hr
    obtain ⟨i, hi, rfl⟩ := List.getElem_of_mem ha
    refine ⟨_, key i hi, ?_⟩
    rw [Int.natAbs_neg]
    exact lt (z3 _ (List.mem_cons_of_mem _ (List.getElem_mem _)))
def cmM : Meas where
  M := Pm
  nx := fun b => 2 * b + 1
  bd := Pm.bd
  mono := Pm.mono
  le := fun b => by omega
  piv := fun ⟨_, h0, _, h2⟩ hj hr => by
    obtain ⟨e, e0, e1, e2⟩ := cm_piv h2 h0 hj hr
    exact Pm.mono ⟨e, e0, e1, e2⟩ (by omega)
  clr := fun ⟨_, h0, _, h2⟩ ⟨_, k0, k1, k2⟩ hj hl hr => by
    obtain ⟨e, e0, e1, e2⟩ := cm_piv h2 h0 hj hr
    exact cm_clr k2 e2 k1 e1 k0 e0 (by omega)
theorem cmM_it (B : Nat) : ∀ t, cmM.it B t + 1 = 2 ^ t * (B + 1)
  | 0 => by
    show B + 1 = _
    rw [Nat.pow_zero, Nat.one_mul]
  | t + 1 => by
    show 2 * cmM.it B t + 1 + 1 = _
    have := cmM_it B t
    rw [Nat.pow_succ, Nat.mul_comm (2 ^ t) 2, Nat.mul_assoc, ← this]
    omega
def Cap (p B : Nat) : Prop := 2 ^ (p + 1) * (B + 1) + 20 ≤ LIM
theorem Cap.le {p q B C : Nat} (h : Cap p B) (h1 : q ≤ p) (h2 : C ≤ B) : Cap q C := by
  unfold Cap at *
  have := Nat.mul_le_mul (Nat.pow_le_pow_right (show 0 < 2 by decide) (show q + 1 ≤ p + 1 by omega)) (show C + 1 ≤ B + 1 by omega)
  omega
theorem Cap.end_ {p B : Nat} (h : Cap p B) : 2 * cmM.it B p + 10 ≤ LIM := by
  unfold Cap at h
  have := cmM_it B p
  rw [Nat.pow_succ, Nat.mul_comm (2 ^ p) 2, Nat.mul_assoc, ← this] at h
  omega
theorem Cap.all {p B : Nat} (h : Cap p B) : ∀ t, t < p → 4 * cmM.it B t + 4 ≤ LIM := fun t ht => by
  have := (h.le (q := t + 1) (by omega) (Nat.le_refl B)).end_
  have e : cmM.it B (t + 1) = 2 * cmM.it B t + 1 := rfl
  omega
def PmG (b : Nat) (g : List (List Rat)) : Prop := ∀ r ∈ g, Pm b r
theorem PmG.mono {a b : Nat} {g : List (List Rat)} (h : PmG a g) (e : a ≤ b) : PmG b g := fun r hr => (h r hr).mono e
theorem PmG.bd {b : Nat} {g : List (List Rat)} (h : PmG b g) : BdG b g := fun r hr => (h r hr).bd
theorem Pm.sub {b : Nat} {s t : List Rat} (h : ∀ q ∈ s, q ∈ t) (ht : Pm b t) : Pm b s :=
  let ⟨d, h0, h1, h2⟩ := ht
  ⟨d, h0, h1, cm_sub h h2⟩
theorem Pm.nul {n : Nat} : Pm 1 (nul n) := ⟨1, by decide, by decide, fun q hq => ⟨0, by rw [(List.mem_replicate.mp hq).2]; exact Rat.zero_mul _, by decide⟩⟩
theorem Pm.app {a b : Nat} {x y : List Rat} (hx : Pm a x) (hy : Pm b y) : Pm (a + b) (x ++ y) := by
  obtain ⟨d, d0, d1, d2⟩ := hx
  obtain ⟨e, e0, e1, e2⟩ := hy
  have u := cm_up d2 e1
  have v := cm_up e2 d1
  rw [Nat.mul_comm, Nat.add_comm] at v
  refine ⟨d * e, Nat.mul_pos d0 e0, pow2_mul d1 e1, fun q hq => ?_⟩
  rcases List.mem_append.mp hq with h | h
  · exact u q h
  · exact v q h
theorem Pm.one_more {b : Nat} {x y : List Rat} (hx : Pm b x) (hy : ∀ q ∈ y, q = 0 ∨ q = 1) : Pm b (x ++ y) := by
  obtain ⟨d, d0, d1, d2⟩ := hx
  refine ⟨d, d0, d1, fun q hq => ?_⟩
  rcases List.mem_append.mp hq with h | h
  · exact d2 q h
  · rcases hy q h with rfl | rfl
    · exact ⟨0, Rat.zero_mul _, Nat.two_pow_pos _⟩
    · exact ⟨(d : Int), Rat.one_mul _, by simpa using d1⟩
theorem unit_01 {n i : Nat} : ∀ q ∈ unit n i, q = 0 ∨ q = 1 := fun q hq => by
  rcases List.mem_or_eq_of_mem_set hq with h | h
  · exact .inl (List.mem_replicate.mp h).2
  · exact .inr h
theorem RR.len_le {N : Nat} {fl : List (Nat × List Rat)} (h : RR N fl) : fl.length ≤ N := by
  have nd : (fl.map Prod.fst).Nodup := List.pairwise_map.mpr (h.pw.imp fun h => Nat.ne_of_lt h.1)
  have := nodup_len (m := List.range N) nd fun x hx => by
    obtain ⟨a, ha, rfl⟩ := List.mem_map.mp hx
    exact List.mem_range.mpr (h.ld a ha).1
  rw [List.length_map, List.length_range] at this
  exact this
theorem Inv.tight {N B j p : Nat} {g left : List (List Rat)} {fl : List (Nat × List Rat)} (I : Inv N g j fl left) (hj : j ≤ N) (hb : PmG B g) (h : fl.length ≤ p) (p15 : p ≤ 15) : PmG ((p + 1) * (B + 5)) (fs fl) ∧ PmG ((p + 1) * (B + 5)) left ∧ ∀ c, Pm (p * (B + 5) + 1) (col (fs fl) c) := by
  obtain ⟨h1, h2⟩ := I.pm hj hb (by omega)
  have e := Nat.mul_le_mul_right (B + 5) (show fl.length + 1 ≤ p + 1 by omega)
  have e2 := Nat.mul_le_mul_right (B + 5) h
  refine ⟨fun r hr => ?_, fun x hx => (h2 x hx).mono e, fun c => (I.pmc hj hb (by omega) c).mono (by omega)⟩
  obtain ⟨a, ha, rfl⟩ := List.mem_map.mp hr
  exact (h1 a ha).mono e
theorem mem_nulF {f : Nat} {q : Rat} : ∀ {fl : List (Nat × List Rat)} {v : List Rat}, q ∈ nulF f fl v → q ∈ v ∨ ∃ a ∈ fl, q = 0 - a.2.getD f 0
  | [], v, h => .inl h
  | a :: fl, v, h => by
    rcases mem_nulF (fl := fl) (v := v.set a.1 (0 - a.2.getD f 0)) h with h | ⟨b, hb, e⟩
    · rcases List.mem_or_eq_of_mem_set h with h | h
      · exact .inl h
      · exact .inr ⟨a, List.mem_cons_self, h⟩
    · exact .inr ⟨b, List.mem_cons_of_mem _ hb, e⟩
theorem pm_nulR {N f b : Nat} {fl : List (Nat × List Rat)} (h : Pm b (col (fs fl) f)) : Pm b (nulR N fl f) := by
  obtain ⟨d, d0, d1, d2⟩ := h
  refine ⟨d, d0, d1, fun q hq => ?_⟩
  rcases mem_nulF hq with h | ⟨a, ha, rfl⟩
  · rcases unit_01 q h with rfl | rfl
    · exact ⟨0, Rat.zero_mul _, Nat.two_pow_pos _⟩
    · exact ⟨(d : Int), Rat.one_mul _, by simpa using d1⟩
  · obtain ⟨x, x1, x2⟩ := d2 (a.2.getD f 0) (List.mem_map.mpr ⟨a.2, List.mem_map.mpr ⟨a, ha, rfl⟩, rfl⟩)
    refine ⟨-x, ?_, by omega⟩
    rw [Rat.intCast_neg, ← x1]
    grind
theorem mem_ansF {n : Nat} {q : Rat} : ∀ {fl : List (Nat × List Rat)} {v : List Rat}, q ∈ ansF n fl v → q ∈ v ∨ ∃ a ∈ fl, q = a.2.getD n 0
  | [], v, h => .inl h
  | a :: fl, v, h => by
    rcases mem_ansF (fl := fl) (v := v.set a.1 (a.2.getD n 0)) h with h | ⟨b, hb, e⟩
    · rcases List.mem_or_eq_of_mem_set h with h | h
      · exact .inl h
      · exact .inr ⟨a, List.mem_cons_self, h⟩
    · exact .inr ⟨b, List.mem_cons_of_mem _ hb, e⟩
theorem pm_lg {B : Nat} {rows : List (List Rat)} {due : List Rat} (h : PmG B (withDue rows due)) : PmG B (lg rows due) := fun r hr => by
  obtain ⟨a, ha, rfl⟩ := List.mem_map.mp hr
  exact (h a.1 (List.fst_mem_of_mem_zipIdx ha)).one_more unit_01
theorem MadeBy.pm {B n p : Nat} {rows : List (List Rat)} {due ans : List Rat} (h : due.length = rows.length) (m : MadeBy rows n due ans) (hb : PmG B (withDue rows due)) (hp : min n rows.length ≤ p) (p15 : p ≤ 15) : Pm ((p + 1) * (B + 5)) ans := by
  obtain ⟨fl, left, I, fn, m⟩ := m
  have c := I.cnt_le
  rw [lg_len h] at c
  obtain ⟨t1, t2, t3⟩ := I.tight (p := p) (by omega) (pm_lg hb) (by omega) p15
  rcases m with rfl | ⟨x, hx, x0, rfl⟩
  · obtain ⟨d, d0, d1, d2⟩ := (t3 n).mono (b := (p + 1) * (B + 5)) (by rw [Nat.succ_mul]; omega)
    refine ⟨d, d0, d1, fun q hq => ?_⟩
    rcases mem_ansF hq with h | ⟨a, ha, rfl⟩
    · rw [(List.mem_replicate.mp h).2]
      exact ⟨0, Rat.zero_mul _, Nat.two_pow_pos _⟩
    · exact d2 _ (List.mem_map.mpr ⟨a.2, List.mem_map.mpr ⟨a, ha, rfl⟩, rfl⟩)
  · obtain ⟨d, d0, d1, d2⟩ := t2 x hx
    obtain ⟨e, e0, e1, e2⟩ := cm_piv d2 d0 (j := n) (by rw [I.wl x hx]; omega) x0
    refine ⟨e, e0, e1, fun q hq => ?_⟩
    unfold priceOf at hq
    rw [← rMul_drop] at hq
    exact e2 q (List.mem_of_mem_drop hq)
structure Sk (n X d : Nat) (M L U : Gr) : Prop where
  sy : Sy n X M L U
  d0 : 0 < d
  d1 : d < 2 ^ X
  cm : CmS X d M L U
  kd : (n ≤ 2 ∧ X = 450) ∨ (n ≤ 5 ∧ X = 70) ∨ (n ≤ 8 ∧ X = 20)
theorem Sk.of {n X d : Nat} {M L U : Gr} (lM : M.length = n) (wM : Wide n M) (wL : Wide n L) (wU : Wide n U) (n8 : n ≤ 8) (l4 : L.length ≤ 4) (u4 : U.length ≤ 4) (d0 : 0 < d) (d1 : d < 2 ^ X) (cm : CmS X d M L U) (kd : (n ≤ 2 ∧ X = 450) ∨ (n ≤ 5 ∧ X = 70) ∨ (n ≤ 8 ∧ X = 20)) : Sk n X d M L U :=
  ⟨⟨lM, wM, wL, wU, n8, l4, u4, fun r hr => (cm.1 r hr).bd d0 (Nat.le_refl _) d1, fun r hr => (cm.2.1 r hr).bd d0 (Nat.le_refl _) d1, fun r hr => (cm.2.2 r hr).bd d0 (Nat.le_refl _) d1⟩, d0, d1, cm, kd⟩
def Ones (r : List Rat) : Prop := ∀ q ∈ r, ∃ a : Int, q = (a : Rat) ∧ a.natAbs ≤ 1
theorem Ones.cm {r : List Rat} (h : Ones r) : Cm 1 1 r := fun q hq => by
  obtain ⟨a, h1, h2⟩ := h q hq
  exact ⟨a, by rw [h1]; exact Rat.mul_one _, by omega⟩
theorem Ones.bd {r : List Rat} (h : Ones r) : Bd 1 r := h.cm.bd (by decide) (Nat.le_refl _) (by decide)
theorem Ones.app {x y : List Rat} (hx : Ones x) (hy : Ones y) : Ones (x ++ y) := fun q hq => (List.mem_append.mp hq).elim (hx q) (hy q)
theorem Ones.set {x : List Rat} {q : Rat} {j : Nat} {a : Int} (hx : Ones x) (e : q = (a : Rat)) (ha : a.natAbs ≤ 1) : Ones (x.set j q) := fun p hp => by
  rcases List.mem_or_eq_of_mem_set hp with h | h
  · exact hx p h
  · exact ⟨a, by rw [h, e], ha⟩
def OnesG (g : Gr) : Prop := ∀ r ∈ g, Ones r
structure Ln (n l u : Nat) (M L U : Gr) : Prop where
  nM : M.length = n
  nL : L.length = l
  nU : U.length = u
  wM : Wide n M
  wL : Wide n L
  wU : Wide n U
  oM : OnesG M
  oL : OnesG L
  oU : OnesG U
theorem Ln.cms {n l u : Nat} {M L U : Gr} (h : Ln n l u M L U) : CmS 1 1 M L U := ⟨fun r hr => (h.oM r hr).cm, fun r hr => (h.oL r hr).cm, fun r hr => (h.oU r hr).cm⟩
theorem Ln.sk {n l u : Nat} {M L U : Gr} (h : Ln n l u M L U) (n8 : n ≤ 8) (l4 : l ≤ 4) (u4 : u ≤ 4) : Sk n 20 1 M L U :=
  Sk.of h.nM h.wM h.wL h.wU n8 (by rw [h.nL]; exact l4) (by rw [h.nU]; exact u4) (by decide) (by decide) (h.cms.up2 (by decide)) (.inr (.inr ⟨n8, rfl⟩))
section
variable {n : Nat} {p : P} {rM ra rL rf rU ri rj r0 : Option P}
end
section
variable {n m : Nat} {p : P} {r0 r1 r2 r3 r4 r5 r6 : Option P} {G H : Gr} {k k2 k3 : Bool}
end
def adF (M L : Gr) (t : Nat) : Gr := (List.range t).flatMap fun k => L.map (pw M k)
theorem adF_succ {M L : Gr} {t : Nat} : adF M L (t + 1) = adF M L t ++ L.map (pw M t) := by
  unfold adF
  rw [List.range_succ, List.flatMap_append]
  simp
theorem adF_mem {M L : Gr} {t : Nat} {r : List Rat} : r ∈ adF M L t ↔ ∃ k, k < t ∧ ∃ b ∈ L, r = pw M k b := by
  unfold adF
  rw [List.mem_flatMap]
  constructor
  · rintro ⟨k, hk, hr⟩
    obtain ⟨b, hb, rfl⟩ := List.mem_map.mp hr
    exact ⟨k, List.mem_range.mp hk, b, hb, rfl⟩
  · rintro ⟨k, hk, b, hb, rfl⟩
    exact ⟨k, List.mem_range.mpr hk, List.mem_map.mpr ⟨b, hb, rfl⟩⟩
section
variable {n X d A : Nat} {M L U : Gr} {k : Bool} {b : List Rat} {p : P}
theorem Sk.nM (h : Sk n X d M L U) : M.length = n := h.sy.nM
theorem Sk.pw_cm (h : Sk n X d M L U) (hb : Cm X d b) (t : Nat) : Cm ((t + 1) * (X + 8)) (d ^ (t + 1)) (pw M t b) := by
  have := Hm.pw_cm h.cm.1 h.sy.wM hb t
  rw [← Nat.pow_succ] at this
  refine this.mono ?_
  have n8 := h.sy.n8
  have := Nat.mul_le_mul_left t (show X + n ≤ X + 8 by omega)
  rw [Nat.succ_mul]
  omega
theorem Sk.d_pow (h : Sk n X d M L U) (t : Nat) : d ^ (t + 1) < 2 ^ ((t + 1) * (X + 8)) := by
  have h1 := Nat.pow_lt_pow_left h.d1 (show t + 1 ≠ 0 by omega)
  rw [← Nat.pow_mul] at h1
  refine Nat.lt_of_lt_of_le h1 (Nat.pow_le_pow_right (by decide) ?_)
  rw [Nat.mul_comm]
  exact Nat.mul_le_mul_left _ (by omega)
theorem Sk.pw_pm (h : Sk n X d M L U) (hb : Cm X d b) (t : Nat) : Pm ((t + 1) * (X + 8)) (pw M t b) := ⟨d ^ (t + 1), Nat.pow_pos h.d0, h.d_pow t, h.pw_cm hb t⟩
theorem Sk.pw_len (h : Sk n X d M L U) (hb : b.length = n) (t : Nat) : (pw M t b).length = n := Hm.pw_len h.nM hb t
theorem Sk.ad_pm (h : Sk n X d M L U) (t : Nat) : PmG (t * (X + 8)) (adF M L t) := fun r hr => by
  obtain ⟨k, hk, b, hb, rfl⟩ := adF_mem.mp hr
  exact (h.pw_pm (h.cm.2.1 b hb) k).mono (Nat.mul_le_mul_right _ hk)
theorem Sk.ad_wide (h : Sk n X d M L U) (t : Nat) : Wide n (adF M L t) := fun r hr => by
  obtain ⟨k, hk, b, hb, rfl⟩ := adF_mem.mp hr
  exact h.pw_len (h.sy.wL b hb) k
end
def IsRed (N : Nat) (g : Gr) (fl : List (Nat × List Rat)) : Prop := ∃ left, Inv N g N fl left
theorem SpanEq.refl {N : Nat} {g : Gr} : SpanEq N g g := fun _ _ => Iff.rfl
theorem IsRed.eq {N : Nat} {g h : Gr} {fl fl2 : List (Nat × List Rat)} (a : IsRed N g fl) (b : IsRed N h fl2) (e : SpanEq N g h) : fl = fl2 :=
  let ⟨_, I⟩ := a
  let ⟨_, J⟩ := b
  red_uniq I J e
theorem ex_inv {N : Nat} {g : Gr} (hw : Wide N g) : ∀ j, j ≤ N → ∃ fl left, Inv N g j fl left
  | 0, _ => ⟨[], g, Inv.start hw⟩
  | j + 1, hj => by
    obtain ⟨fl, left, I⟩ := ex_inv hw j (by omega)
    rcases piv_dec j left with h | ⟨pre, r, post, rfl, h1, h2⟩
    · exact ⟨fl, left, I.skip h⟩
    · exact ⟨_, _, I.step (by omega) h1⟩
theorem ex_red {N : Nat} {g : Gr} (hw : Wide N g) : ∃ fl, IsRed N g fl :=
  let ⟨fl, left, I⟩ := ex_inv hw N (Nat.le_refl N)
  ⟨fl, left, I⟩
noncomputable def red (N : Nat) (g : Gr) : List (Nat × List Rat) := open Classical in if h : ∃ fl, IsRed N g fl then Classical.choose h else []
theorem red_is {N : Nat} {g : Gr} (hw : Wide N g) : IsRed N g (red N g) := by
  unfold red
  rw [dif_pos (ex_red hw)]
  exact Classical.choose_spec (ex_red hw)
theorem IsRed.red {N : Nat} {g : Gr} {fl : List (Nat × List Rat)} (h : IsRed N g fl) (hw : Wide N g) : fl = red N g := h.eq (red_is hw) .refl
theorem red_eq {N : Nat} {g h : Gr} (hg : Wide N g) (hh : Wide N h) (e : SpanEq N g h) : red N g = red N h := (red_is hg).eq (red_is hh) e
noncomputable def redR (N : Nat) (g : Gr) : Gr := fs (red N g)
theorem red_len {N : Nat} {g : Gr} (hw : Wide N g) : (red N g).length ≤ N ∧ (red N g).length ≤ g.length := by
  obtain ⟨left, I⟩ := red_is hw
  exact ⟨I.rr.len_le, I.cnt_le⟩
theorem red_span {N : Nat} {g : Gr} (hw : Wide N g) : SpanEq N (redR N g) g := fun φ L => by
  obtain ⟨left, I⟩ := red_is hw
  rw [I.kr L]
  constructor
  · intro h a ha
    exact h a.2 (List.mem_map.mpr ⟨a, ha, rfl⟩)
  · intro h r hr
    obtain ⟨a, ha, rfl⟩ := List.mem_map.mp hr
    exact h a ha
theorem SpanEq.symm {N : Nat} {g h : Gr} (e : SpanEq N g h) : SpanEq N h g := fun φ L => (e φ L).symm
theorem SpanEq.trans {N : Nat} {g h k : Gr} (e : SpanEq N g h) (f : SpanEq N h k) : SpanEq N g k := fun φ L => (e φ L).trans (f φ L)
theorem redR_pm {N B p : Nat} {g : Gr} (hw : Wide N g) (hb : PmG B g) (hp : min N g.length ≤ p) (p15 : p ≤ 15) : PmG ((p + 1) * (B + 5)) (redR N g) ∧ ∀ c, Pm (p * (B + 5) + 1) (col (redR N g) c) := by
  obtain ⟨left, I⟩ := red_is hw
  have h := red_len hw
  obtain ⟨h1, _, h3⟩ := I.tight (Nat.le_refl N) hb (p := p) (by omega) p15
  exact ⟨h1, h3⟩
section
variable {n X d A : Nat} {M L U : Gr} {k : Bool} {b : List Rat} {p : P}
end
def hds (g : Gr) (j : Nat) : List Nat := (List.range g.length).filter fun k => decide ((g.getD k []).getD j 0 ≠ 0)
section
variable {N j B : Nat} {g0 left : Gr} {fl : List (Nat × List Rat)} {R : P} {w : Int} {k : Bool}
end
theorem gOn_sub {g : Gr} {s t : List Rat} (h : s.length = t.length) : gOn g (rSub s t) = rSub (gOn g s) (gOn g t) := by
  unfold gOn rSub
  rw [List.zipWith_map_left, List.zipWith_map_right, List.zipWith_self]
  refine List.map_congr_left fun r _ => ?_
  have : List.zipWith (fun x1 x2 => x1 - x2) s t = rSub s t := rfl
  rw [rDot_comm r, rDot_comm r s, rDot_comm r t]
  exact rDot_sub h
theorem Lin.on {N n : Nat} {φ : List Rat → Rat} {M : Gr} (L : Lin N φ) (hM : M.length = N) : Lin n fun r => φ (gOn M r) := {
  sub := fun {a b} ha hb => by rw [gOn_sub (by omega), L.sub (by rw [gOn_len, hM]) (by rw [gOn_len, hM])]
  mul := fun {a} c ha => by rw [gOn_mul, L.mul c (by rw [gOn_len, hM])] }
theorem Kr_mono {φ : List Rat → Rat} {g h : Gr} (e : ∀ r ∈ g, r ∈ h) (k : Kr φ h) : Kr φ g := fun r hr => k r (e r hr)
theorem adF_step {φ : List Rat → Rat} {M L : Gr} {t : Nat} : Kr φ (adF M L (t + 1)) ↔ Kr φ L ∧ Kr (fun r => φ (gOn M r)) (adF M L t) := by
  constructor
  · intro k
    refine ⟨fun b hb => k b (adF_mem.mpr ⟨0, by omega, b, hb, rfl⟩), fun r hr => ?_⟩
    obtain ⟨i, hi, b, hb, rfl⟩ := adF_mem.mp hr
    exact k _ (adF_mem.mpr ⟨i + 1, by omega, b, hb, rfl⟩)
  · rintro ⟨k1, k2⟩ r hr
    obtain ⟨i, hi, b, hb, rfl⟩ := adF_mem.mp hr
    cases i with
    | zero => exact k1 b hb
    | succ i => exact k2 (pw M i b) (adF_mem.mpr ⟨i, by omega, b, hb, rfl⟩)
theorem adF_sub {M L : Gr} {s t : Nat} (h : s ≤ t) : ∀ r ∈ adF M L s, r ∈ adF M L t := fun r hr => by
  obtain ⟨i, hi, b, hb, rfl⟩ := adF_mem.mp hr
  exact adF_mem.mpr ⟨i, by omega, b, hb, rfl⟩
theorem adF_wide {n : Nat} {M L : Gr} (hM : M.length = n) (hL : Wide n L) (t : Nat) : Wide n (adF M L t) := fun r hr => by
  obtain ⟨k, hk, b, hb, rfl⟩ := adF_mem.mp hr
  exact pw_len hM (hL b hb) k
theorem Wide.app {n : Nat} {g h : Gr} (hg : Wide n g) (hh : Wide n h) : Wide n (g ++ h) := fun r hr => (List.mem_append.mp hr).elim (hg r) (hh r)
section
variable {n : Nat} {M L : Gr} (hM : M.length = n) (hL : Wide n L)
include hM hL
end
def sv : List (Nat × List Rat) → List Rat → List Rat → List Rat
  | [], _, v => v
  | b :: fl, x, v => rSub (sv fl x v) (rMul (x.getD b.1 0) b.2)
theorem sv_len {N : Nat} : ∀ {fl : List (Nat × List Rat)} {x v : List Rat}, (∀ a ∈ fl, a.2.length = N) → v.length = N → (sv fl x v).length = N
  | [], x, v, _, h => h
  | b :: fl, x, v, hw, h => by
    show (rSub _ _).length = N
    rw [rSub_len, rMul_len, sv_len (fun a ha => hw a (List.mem_cons_of_mem _ ha)) h, hw b List.mem_cons_self, Nat.min_self]
theorem sv_lin {N : Nat} {Φ : List Rat → Rat} (L : Lin N Φ) {x v : List Rat} (hv : v.length = N) : ∀ {fl : List (Nat × List Rat)}, (∀ a ∈ fl, a.2.length = N) → Φ (sv fl x v) = Φ v - sP Φ fl x
  | [], _ => by
    show Φ v = Φ v - 0
    grind
  | b :: fl, hw => by
    have hw2 : ∀ a ∈ fl, a.2.length = N := fun a ha => hw a (List.mem_cons_of_mem _ ha)
    have hb := hw b List.mem_cons_self
    show Φ (rSub (sv fl x v) (rMul (x.getD b.1 0) b.2)) = Φ v - (x.getD b.1 0 * Φ b.2 + sP Φ fl x)
    rw [L.sub (sv_len hw2 hv) (by rw [rMul_len, hb]), L.mul _ hb, sv_lin L hv hw2]
    grind
theorem sP_lead {x : List Rat} : ∀ {fl : List (Nat × List Rat)}, (fl.Pairwise fun a b => a.1 < b.1 ∧ a.2.getD b.1 0 = 0) → (∀ a ∈ fl, (∀ i, i < a.1 → a.2.getD i 0 = 0) ∧ a.2.getD a.1 0 = 1) → ∀ b ∈ fl, sP (fun y => y.getD b.1 0) fl x = x.getD b.1 0
  | a :: fl, pw, ld, b, hb => by
    obtain ⟨p1, p2⟩ := List.pairwise_cons.mp pw
    show x.getD a.1 0 * a.2.getD b.1 0 + sP (fun y => y.getD b.1 0) fl x = x.getD b.1 0
    rcases List.mem_cons.mp hb with rfl | hb
    · rw [(ld b List.mem_cons_self).2]
      have : ∀ l : List (Nat × List Rat), (∀ c ∈ l, c.2.getD b.1 0 = 0) → sP (fun y => y.getD b.1 0) l x = 0 := fun l => by
        induction l with
        | nil => exact fun _ => rfl
        | cons c l ih =>
          intro h
          show x.getD c.1 0 * c.2.getD b.1 0 + sP (fun y => y.getD b.1 0) l x = 0
          rw [h c List.mem_cons_self, ih fun d hd => h d (List.mem_cons_of_mem _ hd)]
          grind
      rw [this fl fun c hc => (ld c (List.mem_cons_of_mem _ hc)).1 b.1 (p1 c hc).1]
      grind
    · rw [(p1 b hb).2, sP_lead p2 (fun c hc => ld c (List.mem_cons_of_mem _ hc)) b hb]
      grind
theorem nodup_back {l m : List Nat} (hl : l.Nodup) (hm : m.Nodup) (h : ∀ x ∈ l, x ∈ m) (e : m.length ≤ l.length) : ∀ x ∈ m, x ∈ l := fun x hx => by
  apply Classical.byContradiction
  intro n
  have := nodup_len (l := x :: l) (m := m) (List.nodup_cons.mpr ⟨n, hl⟩) fun y hy => by
    rcases List.mem_cons.mp hy with rfl | hy
    · exact hx
    · exact h y hy
  rw [List.length_cons] at this
  omega
theorem RR.nd {N : Nat} {fl : List (Nat × List Rat)} (h : RR N fl) : (fl.map Prod.fst).Nodup := List.pairwise_map.mpr (h.pw.imp fun h => Nat.ne_of_lt h.1)
theorem red_sub {N : Nat} {g h : Gr} (hg : Wide N g) (hh : Wide N h) (k : ∀ φ, Lin N φ → Kr φ h → Kr φ g) : (red N g).length ≤ (red N h).length ∧ ((red N h).length ≤ (red N g).length → red N g = red N h) := by
  obtain ⟨l1, I⟩ := red_is hg
  obtain ⟨l2, J⟩ := red_is hh
  generalize red N g = fl2 at *
  generalize red N h = fl at *
  have R2 := I.rr
  have R := J.rr
  have sub : ∀ b ∈ fl2, InSp N fl b.2 := fun b hb φ L kf => (I.kr L).mp (k φ L ((J.kr L).mpr kf)) b hb
  have ld : ∀ x ∈ fl2.map Prod.fst, x ∈ fl.map Prod.fst := fun x hx => by
    obtain ⟨b, hb, rfl⟩ := List.mem_map.mp hx
    obtain ⟨a, ha, e⟩ := R.lead_in R2 sub hb
    exact List.mem_map.mpr ⟨a, ha, e⟩
  refine ⟨by simpa using nodup_len R2.nd ld, fun hl => ?_⟩
  have back := nodup_back R2.nd R.nd ld (by simpa using hl)
  refine (R.uniq R2 sub fun a ha φ L kf => ?_).symm
  have wa := R.wf a ha
  have vl := sv_len (x := a.2) (v := a.2) R2.wf wa
  have sz : ∀ Φ : List Rat → Rat, Lin N Φ → Φ (sv fl2 a.2 a.2) = Φ a.2 - sP Φ fl2 a.2 := fun Φ LΦ => sv_lin LΦ wa R2.wf
  have sp0 : ∀ Φ : List Rat → Rat, (∀ b ∈ fl2, Φ b.2 = 0) → ∀ y, sP Φ fl2 y = 0 := fun Φ h0 y => by
    have : ∀ l : List (Nat × List Rat), (∀ b ∈ l, Φ b.2 = 0) → sP Φ l y = 0 := fun l => by
      induction l with
      | nil => exact fun _ => rfl
      | cons c l ih =>
        intro h
        show y.getD c.1 0 * Φ c.2 + sP Φ l y = 0
        rw [h c List.mem_cons_self, ih fun d hd => h d (List.mem_cons_of_mem _ hd)]
        grind
    exact this fl2 h0
  have insp : InSp N fl (sv fl2 a.2 a.2) := fun Φ LΦ kΦ => by
    rw [sz Φ LΦ, kΦ a ha, sp0 Φ (fun b hb => sub b hb Φ LΦ kΦ) a.2]
    grind
  have z0 : ∀ c ∈ fl, (sv fl2 a.2 a.2).getD c.1 0 = 0 := fun c hc => by
    obtain ⟨b, hb, e⟩ := List.mem_map.mp (back c.1 (List.mem_map.mpr ⟨c, hc, rfl⟩))
    rw [← e, sz _ (lin_at N b.1), sP_lead R2.pw (fun d hd => (R2.ld d hd).2) b hb]
    grind
  have vz : sv fl2 a.2 a.2 = nul N := nul_ext vl fun i _ => by
    rw [R.rep insp i]
    exact sF_zero z0
  have := sz φ L
  rw [vz, lin_nul L, sp0 φ kf a.2] at this
  grind
section
variable {n : Nat} {M L : Gr} (hM : M.length = n) (hL : Wide n L)
include hM hL
theorem red_grow (t : Nat) : (red n (adF M L t)).length ≤ (red n (adF M L (t + 1))).length ∧ ((red n (adF M L (t + 1))).length ≤ (red n (adF M L t)).length → red n (adF M L t) = red n (adF M L (t + 1))) :=
  red_sub (adF_wide hM hL t) (adF_wide hM hL (t + 1)) fun _ _ k => Kr_mono (adF_sub (Nat.le_succ t)) k
theorem redR_stay {t : Nat} (e : red n (adF M L (t + 1)) = red n (adF M L t)) : red n (adF M L (t + 2)) = red n (adF M L (t + 1)) := by
  have w1 := adF_wide hM hL (t + 1)
  have w2 := adF_wide hM hL (t + 2)
  have w0 := adF_wide hM hL t
  have sp : SpanEq n (adF M L t) (adF M L (t + 1)) := fun φ Lφ => by
    have a := red_span w0 φ Lφ
    have b := red_span w1 φ Lφ
    unfold redR at a b
    rw [e] at b
    exact a.symm.trans b
  refine red_eq w2 w1 fun φ Lφ => ?_
  have s1 := adF_step (φ := φ) (M := M) (L := L) (t := t + 1)
  have s2 := adF_step (φ := φ) (M := M) (L := L) (t := t)
  rw [s1, s2]
  exact and_congr Iff.rfl (sp _ (Lφ.on hM)).symm
theorem red_from {t : Nat} (e : red n (adF M L (t + 1)) = red n (adF M L t)) : ∀ s, red n (adF M L (t + s)) = red n (adF M L t) ∧ red n (adF M L (t + s + 1)) = red n (adF M L (t + s))
  | 0 => ⟨rfl, e⟩
  | s + 1 => by
    obtain ⟨h1, h2⟩ := red_from e s
    exact ⟨h2.trans h1, redR_stay hM hL h2⟩
theorem red_some : ∀ m : Nat, (∃ t, t < m ∧ red n (adF M L (t + 1)) = red n (adF M L t)) ∨ m ≤ (red n (adF M L m)).length
  | 0 => .inr (Nat.zero_le _)
  | m + 1 => by
    rcases red_some m with ⟨t, ht, e⟩ | h
    · exact .inl ⟨t, by omega, e⟩
    · obtain ⟨g1, g2⟩ := red_grow hM hL m
      by_cases c : (red n (adF M L (m + 1))).length ≤ (red n (adF M L m)).length
      · exact .inl ⟨m, by omega, (g2 c).symm⟩
      · exact .inr (by omega)
theorem red_stands {t : Nat} (ht : n ≤ t) : red n (adF M L t) = red n (adF M L n) := by
  rcases red_some hM hL (n + 1) with ⟨s, hs, e⟩ | h
  · obtain ⟨a, ha⟩ : ∃ a, t = s + a := ⟨t - s, by omega⟩
    obtain ⟨b, hb⟩ : ∃ b, n = s + b := ⟨n - s, by omega⟩
    rw [ha, (red_from hM hL e a).1]
    conv => rhs; rw [show adF M L n = adF M L (s + b) by rw [← hb]]
    rw [(red_from hM hL e b).1]
  · have := (red_len (adF_wide hM hL (n + 1))).1
    omega
end
section
variable {n X d : Nat} {M L U : Gr} {k : Bool} {b : List Rat} {p : P}
theorem Sk.reach_pm (h : Sk n X d M L U) {T : Nat} (hT : T ≤ 16) : PmG 22000 (redR n (adF M L T)) ∧ ∀ c, Pm 22000 (col (redR n (adF M L T)) c) := by
  have n8 := h.sy.n8
  obtain ⟨h1, h2⟩ := redR_pm (h.ad_wide T) (h.ad_pm T) (p := n) (by omega) (by omega)
  have e : (n + 1) * (T * (X + 8) + 5) ≤ 22000 := by
    have m : T * (X + 8) ≤ 16 * (X + 8) := Nat.mul_le_mul_right _ hT
    rcases h.kd with ⟨a, rfl⟩ | ⟨a, rfl⟩ | ⟨a, rfl⟩
    · exact Nat.le_trans (Nat.mul_le_mul (show n + 1 ≤ 3 by omega) (show T * (450 + 8) + 5 ≤ 7333 by omega)) (by decide)
    · exact Nat.le_trans (Nat.mul_le_mul (show n + 1 ≤ 6 by omega) (show T * (70 + 8) + 5 ≤ 1253 by omega)) (by decide)
    · exact Nat.le_trans (Nat.mul_le_mul (show n + 1 ≤ 9 by omega) (show T * (20 + 8) + 5 ≤ 453 by omega)) (by decide)
  have e2 : n * (T * (X + 8) + 5) + 1 ≤ 22000 := by
    rw [Nat.succ_mul] at e
    omega
  exact ⟨h1.mono e, fun c => (h2 c).mono e2⟩
end
theorem rAdd_assoc : ∀ {a b c : List Rat}, rAdd (rAdd a b) c = rAdd a (rAdd b c)
  | [], b, c => rfl
  | x :: a, [], c => rfl
  | x :: a, y :: b, [] => rfl
  | x :: a, y :: b, z :: c => by
    show (x + y + z) :: rAdd (rAdd a b) c = (x + (y + z)) :: rAdd a (rAdd b c)
    rw [rAdd_assoc, Rat.add_assoc]
def ends (M L : Gr) (s : List Rat) (P : Gr) : List Rat := P.foldl (mv M L) s
def adR (M L : Gr) : Nat → Gr
  | 0 => []
  | T + 1 => L.map (pw M T) ++ adR M L T
theorem adR_mem {M L : Gr} : ∀ {T : Nat} {r : List Rat}, r ∈ adR M L T ↔ r ∈ adF M L T
  | 0, r => by
    constructor
    · intro h
      cases h
    · intro h
      obtain ⟨k, hk, _⟩ := adF_mem.mp h
      omega
  | T + 1, r => by
    unfold adR
    rw [List.mem_append, adR_mem, adF_succ, List.mem_append]
    exact Or.comm
section
variable {n : Nat} {M L : Gr} (hM : M.length = n) (hW : Wide n M) (hL : Wide n L)
include hM
theorem pw_add {s t : List Rat} (hs : s.length = n) (ht : t.length = n) : ∀ k, pw M k (rAdd s t) = rAdd (pw M k s) (pw M k t)
  | 0 => rfl
  | k + 1 => by
    show gOn M (pw M k (rAdd s t)) = rAdd (gOn M (pw M k s)) (gOn M (pw M k t))
    rw [pw_add hs ht k, gOn_add (by rw [pw_len hM hs, pw_len hM ht])]
theorem pw_mul {c : Rat} {s : List Rat} : ∀ k, pw M k (rMul c s) = rMul c (pw M k s)
  | 0 => rfl
  | k + 1 => by
    show gOn M (pw M k (rMul c s)) = rMul c (gOn M (pw M k s))
    rw [pw_mul k, gOn_mul]
theorem pw_nul : ∀ k, pw M k (nul n) = nul n
  | 0 => rfl
  | k + 1 => by
    show gOn M (pw M k (nul n)) = nul n
    rw [pw_nul k, gOn_nul, hM]
theorem pw_step {s : List Rat} : ∀ k, pw M k (gOn M s) = pw M (k + 1) s
  | 0 => rfl
  | k + 1 => by
    show gOn M (pw M k (gOn M s)) = gOn M (pw M (k + 1) s)
    rw [pw_step k]
theorem pw_puts (k : Nat) : ∀ (p : List Rat) (L : Gr) (t : List Rat), Wide n L → t.length = n → pw M k (addPuts t p L) = addPuts (pw M k t) p (L.map (pw M k))
  | [], L, t, _, _ => by unfold addPuts; rfl
  | c :: p, [], t, _, _ => by
    unfold addPuts
    rfl
  | c :: p, r :: L, t, hL, ht => by
    have hr := hL r List.mem_cons_self
    show pw M k (addPuts (rAdd t (rMul c r)) p L) = addPuts (rAdd (pw M k t) (rMul c (pw M k r))) p (L.map (pw M k))
    rw [pw_puts k p L _ (fun x hx => hL x (List.mem_cons_of_mem _ hx)) (by rw [rAdd_len, rMul_len, ht, hr, Nat.min_self]), pw_add hM ht (by rw [rMul_len, hr]), pw_mul hM]
include hL
theorem adR_wide : ∀ T, Wide n (adR M L T) := fun T r hr => adF_wide hM hL T r (adR_mem.mp hr)
theorem ends_eq : ∀ (P : Gr) (s : List Rat), Wide L.length P → s.length = n → ends M L s P = rAdd (pw M P.length s) (addPuts (nul n) P.flatten (adR M L P.length))
  | [], s, _, hs => by
    show s = rAdd s (addPuts (nul n) [] [])
    rw [addPuts_nil, rAdd_nul hs]
  | p :: P, s, hP, hs => by
    have hp := hP p List.mem_cons_self
    have hm : (mv M L s p).length = n := by
      unfold mv
      rw [addPuts_len fun r hr => by rw [gOn_len, hM]; exact hL r hr, gOn_len, hM]
    show ends M L (mv M L s p) P = _
    rw [ends_eq P (mv M L s p) (fun x hx => hP x (List.mem_cons_of_mem _ hx)) hm]
    show rAdd (pw M P.length (mv M L s p)) _ = rAdd (pw M (P.length + 1) s) (addPuts (nul n) (p ++ P.flatten) (L.map (pw M P.length) ++ adR M L P.length))
    have hg : (gOn M s).length = n := by rw [gOn_len, hM]
    have la : (addPuts (nul n) p (L.map (pw M P.length))).length = n := by
      rw [addPuts_len fun r hr => ?_, nul_len]
      obtain ⟨x, hx, rfl⟩ := List.mem_map.mp hr
      rw [nul_len, pw_len hM (hL x hx)]
    have e1 : mv M L s p = rAdd (gOn M s) (addPuts (nul n) p L) := by
      unfold mv
      exact addPuts_from hL hg
    have l2 : (addPuts (nul n) p L).length = n := by
      rw [addPuts_len fun r hr => by rw [nul_len]; exact hL r hr, nul_len]
    rw [e1, pw_add hM hg l2, pw_step hM, pw_puts hM _ p L _ hL nul_len, pw_nul hM, addPuts_app (by rw [List.length_map]; exact hp), addPuts_from (n := n) (s := addPuts (nul n) p (L.map (pw M P.length))) (adR_wide hM hL _) la, rAdd_assoc]
end
def Gm (B : Nat) (g : Gr) : Prop := ∃ f, 0 < f ∧ f < 2 ^ B ∧ CmG B f g
theorem Gm.pm {B : Nat} {g : Gr} (h : Gm B g) : PmG B g := fun r hr =>
  let ⟨f, h0, h1, h2⟩ := h
  ⟨f, h0, h1, h2 r hr⟩
theorem Gm.bd {B : Nat} {g : Gr} (h : Gm B g) : BdG B g := h.pm.bd
theorem Gm.mono {A B : Nat} {g : Gr} (h : Gm A g) (e : A ≤ B) : Gm B g :=
  let ⟨f, h0, h1, h2⟩ := h
  ⟨f, h0, pow2_le e h1, h2.up2 e⟩
theorem Gm.sub {B : Nat} {g g' : Gr} (h : Gm B g) (e : ∀ r ∈ g', r ∈ g) : Gm B g' :=
  let ⟨f, h0, h1, h2⟩ := h
  ⟨f, h0, h1, fun r hr => h2 r (e r hr)⟩
theorem Gm.of {B : Nat} {g : Gr} {r : List Rat} (h : Pm B r) (e : ∀ x ∈ g, ∀ q ∈ x, q ∈ r) : Gm B g :=
  let ⟨f, h0, h1, h2⟩ := h
  ⟨f, h0, h1, fun x hx q hq => h2 q (e x hx q hq)⟩
theorem cm_nul {N d n : Nat} : Cm N d (nul n) := fun q hq => ⟨0, by rw [(List.mem_replicate.mp hq).2]; exact Rat.zero_mul _, Nat.two_pow_pos _⟩
section
variable {n X d : Nat} {M L U : Gr} {k : Bool} {b : List Rat} {p : P}
end
local macro_rules | `(tactic| trivial) => `(tactic| simp only [gnD, endV, outsV, vSq, Vt.andThen, vIf, vAs, vRt, vRn, vEx, vNx, vBad, vBk, vCt, Vr.st, Vr.bind, vBor, vBor1, vwE, vV, vMv, vFrM1, Vt.upd, vLc, wipeV, atP_0, atP_1, atP_2, atP_3, vC, vBi, vUn, vCal, vK, vN, vCll0, vCll1, vCllT, vT, vL, vTst, vTru, vNotB, vAndB, vOrB, vNotD, vAndD, vOrD, vIfD, vPr, vgV, vgC, vgT, vgN, vFr, vRng1, vRng2, vEnu, vZp, vWalk, vSet, vMeN, vMe, vAugI, vAugV, updL, subT, repT, apF, exF, isLst, pa0, paI, vSli, vNoP, vP, vYes0, subP, mulP, modP, divP, ltP, leP, gtP, geP, iiP, tr2, negP, absP, maxP, minP, intP, eqP, neP, isP, isnP, isbP, isnbP, noo, noos, nob, nobs, fr, frs, vw, vws, vi, vis, noN, noNs, nobX_none, nobX_some, Option.map_some, Option.map_none, Option.bind_some, Option.bind_none, Option.isSome_some, List.length_cons, List.length_nil, List.map_cons, List.map_nil, List.getElem?_cons_zero, List.getElem?_cons_succ, List.getElem?_nil, List.set_cons_zero, List.set_cons_succ, List.cons_append, List.nil_append, List.replicate_succ, List.replicate_zero, Nat.sub_self, Nat.reduceSub, Nat.reduceAdd, Nat.reduceLT, Nat.reduceLeDiff, Nat.zero_lt_succ, Nat.lt_add_one, Nat.zero_add, Int.reduceEq, Int.reduceLT, Int.reduceLE, if_true, if_false, Bool.false_eq_true, reduceCtorEq, ite_true, ite_false, decide_true, decide_false, not_true_eq_false, not_false_eq_true, Bool.not_true, Bool.not_false, Bool.and_true, Bool.true_and, Bool.and_self, Bool.and_false, Bool.false_and, eq_self, and_self, and_true, true_and, isNonP, noo_nP, nob_nP, noN_nP, fr_nP, vw_nP, vi_nP, noos_nPs, nobs_nPs, noNs_nPs, frs_nPs, vws_nPs, vis_nPs, noos_gPs, nobs_oPs, nobs_gPs, frs_oPs, frs_gPs, vws_oPs, vws_gPs, nPs_len, gPs_len, oPs_len, eqQ_num, eqQ_row, eqQ_grid, eqQ_int, ixP_t0, ixP_t1, ixP_t2, ixP_n0, ixP_n1, ixP_l0, ixP_l1, ixP_l2, ixP_l3, atP_n0, atP_n1, lenP_l, lenP_o, lenP_t, lenP_n, addP_ii, truP_bl, isi_tn, isi_tt, isi_ll, isi_lo, isi_lt, isi_int, isi_bool, seqP_n, seqP_l, seqP_o, seqP_t, lstP_l, lstP_o, lsP_l, lsP_o, listP_l, setF_0, setF_1, setF_2, sz0, sz1, sz2, sz3, sz4, sz5, noos_ints, nobs_ints, noNs_ints, vws_ints, vis_ints, frs_ints, Int.cast_ofNat_Int, eqQ_r1, eqQ_r2, eqQ_r3, eqQ_r4, eqQ_g1, eqQ_g2, eqQ_g3, eqQ_g4, eqQ_g5, eqQ_g6, vRv, vFz, vMth0, vFrM2, vFld, vMk, vClr, vPopI, vTk, vCll1M, noo_sys, noo_sysO, nob_sys, nob_sysO, fr_sys, fr_sysO, vw_sys, vw_sysO, fld_move, fld_put, fld_look, fld_states, fld_ins, fld_outs, has_moved, has_seen, has_turned, nobs_nat, frs_nat, vws_nat, vis_nat, noos_nat, noNs_nat, natPs_len, vSetH, vgS, ixN_10, ixN_20, ixN_21, ixN_30, ixN_31, ixN_32])
local macro_rules | `(tactic| walk_at "go") => `(tactic| simp only [gnD, endV, outsV, vSq, Vt.andThen, vIf, vAs, vRt, vRn, vEx, vNx, vBad, vBk, vCt, Vr.st, Vr.bind, vBor, vBor1, vwE, vV, vMv, vFrM1, Vt.upd, vLc, wipeV, atP_0, atP_1, atP_2, atP_3, vC, vBi, vUn, vCal, vK, vN, vCll0, vCll1, vCllT, vT, vL, vTst, vTru, vNotB, vAndB, vOrB, vNotD, vAndD, vOrD, vIfD, vPr, vgV, vgC, vgT, vgN, vFr, vRng1, vRng2, vEnu, vZp, vWalk, vSet, vMeN, vMe, vAugI, vAugV, updL, subT, repT, apF, exF, isLst, pa0, paI, vSli, vNoP, vP, vYes0, subP, mulP, modP, divP, ltP, leP, gtP, geP, iiP, tr2, negP, absP, maxP, minP, intP, eqP, neP, isP, isnP, isbP, isnbP, noo, noos, nob, nobs, fr, frs, vw, vws, vi, vis, noN, noNs, nobX_none, nobX_some, Option.map_some, Option.map_none, Option.bind_some, Option.bind_none, Option.isSome_some, List.length_cons, List.length_nil, List.map_cons, List.map_nil, List.getElem?_cons_zero, List.getElem?_cons_succ, List.getElem?_nil, List.set_cons_zero, List.set_cons_succ, List.cons_append, List.nil_append, List.replicate_succ, List.replicate_zero, Nat.sub_self, Nat.reduceSub, Nat.reduceAdd, Nat.reduceLT, Nat.reduceLeDiff, Nat.zero_lt_succ, Nat.lt_add_one, Nat.zero_add, Int.reduceEq, Int.reduceLT, Int.reduceLE, if_true, if_false, Bool.false_eq_true, reduceCtorEq, ite_true, ite_false, decide_true, decide_false, not_true_eq_false, not_false_eq_true, Bool.not_true, Bool.not_false, Bool.and_true, Bool.true_and, Bool.and_self, Bool.and_false, Bool.false_and, eq_self, and_self, and_true, true_and, isNonP, noo_nP, nob_nP, noN_nP, fr_nP, vw_nP, vi_nP, noos_nPs, nobs_nPs, noNs_nPs, frs_nPs, vws_nPs, vis_nPs, noos_gPs, nobs_oPs, nobs_gPs, frs_oPs, frs_gPs, vws_oPs, vws_gPs, nPs_len, gPs_len, oPs_len, eqQ_num, eqQ_row, eqQ_grid, eqQ_int, ixP_t0, ixP_t1, ixP_t2, ixP_n0, ixP_n1, ixP_l0, ixP_l1, ixP_l2, ixP_l3, atP_n0, atP_n1, lenP_l, lenP_o, lenP_t, lenP_n, addP_ii, truP_bl, isi_tn, isi_tt, isi_ll, isi_lo, isi_lt, isi_int, isi_bool, seqP_n, seqP_l, seqP_o, seqP_t, lstP_l, lstP_o, lsP_l, lsP_o, listP_l, setF_0, setF_1, setF_2, sz0, sz1, sz2, sz3, sz4, sz5, noos_ints, nobs_ints, noNs_ints, vws_ints, vis_ints, frs_ints, Int.cast_ofNat_Int, eqQ_r1, eqQ_r2, eqQ_r3, eqQ_r4, eqQ_g1, eqQ_g2, eqQ_g3, eqQ_g4, eqQ_g5, eqQ_g6, vRv, vFz, vMth0, vFrM2, vFld, vMk, vClr, vPopI, vTk, vCll1M, noo_sys, noo_sysO, nob_sys, nob_sysO, fr_sys, fr_sysO, vw_sys, vw_sysO, fld_move, fld_put, fld_look, fld_states, fld_ins, fld_outs, has_moved, has_seen, has_turned, nobs_nat, frs_nat, vws_nat, vis_nat, noos_nat, noNs_nat, natPs_len, vSetH, vgS, ixN_10, ixN_20, ixN_21, ixN_30, ixN_31, ixN_32, *])
local macro_rules | `(tactic| walk_at "un") => `(tactic| simp only [gnD, endV, outsV, vSq, Vt.andThen, vIf, vAs, vRt, vRn, vEx, vNx, vBad, vBk, vCt, Vr.st, Vr.bind, vBor, vBor1, vwE, vV, vMv, vFrM1, Vt.upd, vLc, wipeV, atP_0, atP_1, atP_2, atP_3, vC, vBi, vUn, vCal, vK, vN, vCll0, vCll1, vCllT, vT, vL, vTst, vTru, vNotB, vAndB, vOrB, vNotD, vAndD, vOrD, vIfD, vPr, vgV, vgC, vgT, vgN, vFr, vRng1, vRng2, vEnu, vZp, vWalk, vSet, vMeN, vMe, vAugI, vAugV, updL, subT, repT, apF, exF, isLst, pa0, paI, vSli, vNoP, vP, vYes0, subP, mulP, modP, divP, ltP, leP, gtP, geP, iiP, tr2, negP, absP, maxP, minP, intP, eqP, neP, isP, isnP, isbP, isnbP, noo, noos, nob, nobs, fr, frs, vw, vws, vi, vis, noN, noNs, nobX_none, nobX_some, Option.map_some, Option.map_none, Option.bind_some, Option.bind_none, Option.isSome_some, List.length_cons, List.length_nil, List.map_cons, List.map_nil, List.getElem?_cons_zero, List.getElem?_cons_succ, List.getElem?_nil, List.set_cons_zero, List.set_cons_succ, List.cons_append, List.nil_append, List.replicate_succ, List.replicate_zero, Nat.sub_self, Nat.reduceSub, Nat.reduceAdd, Nat.reduceLT, Nat.reduceLeDiff, Nat.zero_lt_succ, Nat.lt_add_one, Nat.zero_add, Int.reduceEq, Int.reduceLT, Int.reduceLE, if_true, if_false, Bool.false_eq_true, reduceCtorEq, ite_true, ite_false, decide_true, decide_false, not_true_eq_false, not_false_eq_true, Bool.not_true, Bool.not_false, Bool.and_true, Bool.true_and, Bool.and_self, Bool.and_false, Bool.false_and, eq_self, and_self, and_true, true_and, isNonP, noo_nP, nob_nP, noN_nP, fr_nP, vw_nP, vi_nP, noos_nPs, nobs_nPs, noNs_nPs, frs_nPs, vws_nPs, vis_nPs, noos_gPs, nobs_oPs, nobs_gPs, frs_oPs, frs_gPs, vws_oPs, vws_gPs, nPs_len, gPs_len, oPs_len, eqQ_num, eqQ_row, eqQ_grid, eqQ_int, ixP_t0, ixP_t1, ixP_t2, ixP_n0, ixP_n1, ixP_l0, ixP_l1, ixP_l2, ixP_l3, atP_n0, atP_n1, lenP_l, lenP_o, lenP_t, lenP_n, addP_ii, truP_bl, isi_tn, isi_tt, isi_ll, isi_lo, isi_lt, isi_int, isi_bool, seqP_n, seqP_l, seqP_o, seqP_t, lstP_l, lstP_o, lsP_l, lsP_o, listP_l, setF_0, setF_1, setF_2, sz0, sz1, sz2, sz3, sz4, sz5, noos_ints, nobs_ints, noNs_ints, vws_ints, vis_ints, frs_ints, Int.cast_ofNat_Int, eqQ_r1, eqQ_r2, eqQ_r3, eqQ_r4, eqQ_g1, eqQ_g2, eqQ_g3, eqQ_g4, eqQ_g5, eqQ_g6, vRv, vFz, vMth0, vFrM2, vFld, vMk, vClr, vPopI, vTk, vCll1M, noo_sys, noo_sysO, nob_sys, nob_sysO, fr_sys, fr_sysO, vw_sys, vw_sysO, fld_move, fld_put, fld_look, fld_states, fld_ins, fld_outs, has_moved, has_seen, has_turned, nobs_nat, frs_nat, vws_nat, vis_nat, noos_nat, noNs_nat, natPs_len, vSetH, vgS, ixN_10, ixN_20, ixN_21, ixN_30, ixN_31, ixN_32, vlcGo, vFrGo, ptV, setAllV, *])
local macro_rules | `(tactic| walk_at "at") => `(tactic| simp only [gnD, endV, outsV, vSq, Vt.andThen, vIf, vAs, vRt, vRn, vEx, vNx, vBad, vBk, vCt, Vr.st, Vr.bind, vBor, vBor1, vwE, vV, vMv, vFrM1, Vt.upd, vLc, wipeV, atP_0, atP_1, atP_2, atP_3, vC, vBi, vUn, vCal, vK, vN, vCll0, vCll1, vCllT, vT, vL, vTst, vTru, vNotB, vAndB, vOrB, vNotD, vAndD, vOrD, vIfD, vPr, vgV, vgC, vgT, vgN, vFr, vRng1, vRng2, vEnu, vZp, vWalk, vSet, vMeN, vMe, vAugI, vAugV, updL, subT, repT, apF, exF, isLst, pa0, paI, vSli, vNoP, vP, vYes0, subP, mulP, modP, divP, ltP, leP, gtP, geP, iiP, tr2, negP, absP, maxP, minP, intP, eqP, neP, isP, isnP, isbP, isnbP, noo, noos, nob, nobs, fr, frs, vw, vws, vi, vis, noN, noNs, nobX_none, nobX_some, Option.map_some, Option.map_none, Option.bind_some, Option.bind_none, Option.isSome_some, List.length_cons, List.length_nil, List.map_cons, List.map_nil, List.getElem?_cons_zero, List.getElem?_cons_succ, List.getElem?_nil, List.set_cons_zero, List.set_cons_succ, List.cons_append, List.nil_append, List.replicate_succ, List.replicate_zero, Nat.sub_self, Nat.reduceSub, Nat.reduceAdd, Nat.reduceLT, Nat.reduceLeDiff, Nat.zero_lt_succ, Nat.lt_add_one, Nat.zero_add, Int.reduceEq, Int.reduceLT, Int.reduceLE, if_true, if_false, Bool.false_eq_true, reduceCtorEq, ite_true, ite_false, decide_true, decide_false, not_true_eq_false, not_false_eq_true, Bool.not_true, Bool.not_false, Bool.and_true, Bool.true_and, Bool.and_self, Bool.and_false, Bool.false_and, eq_self, and_self, and_true, true_and, isNonP, noo_nP, nob_nP, noN_nP, fr_nP, vw_nP, vi_nP, noos_nPs, nobs_nPs, noNs_nPs, frs_nPs, vws_nPs, vis_nPs, noos_gPs, nobs_oPs, nobs_gPs, frs_oPs, frs_gPs, vws_oPs, vws_gPs, nPs_len, gPs_len, oPs_len, eqQ_num, eqQ_row, eqQ_grid, eqQ_int, ixP_t0, ixP_t1, ixP_t2, ixP_n0, ixP_n1, ixP_l0, ixP_l1, ixP_l2, ixP_l3, atP_n0, atP_n1, lenP_l, lenP_o, lenP_t, lenP_n, addP_ii, truP_bl, isi_tn, isi_tt, isi_ll, isi_lo, isi_lt, isi_int, isi_bool, seqP_n, seqP_l, seqP_o, seqP_t, lstP_l, lstP_o, lsP_l, lsP_o, listP_l, setF_0, setF_1, setF_2, sz0, sz1, sz2, sz3, sz4, sz5, noos_ints, nobs_ints, noNs_ints, vws_ints, vis_ints, frs_ints, Int.cast_ofNat_Int, eqQ_r1, eqQ_r2, eqQ_r3, eqQ_r4, eqQ_g1, eqQ_g2, eqQ_g3, eqQ_g4, eqQ_g5, eqQ_g6, vRv, vFz, vMth0, vFrM2, vFld, vMk, vClr, vPopI, vTk, vCll1M, noo_sys, noo_sysO, nob_sys, nob_sysO, fr_sys, fr_sysO, vw_sys, vw_sysO, fld_move, fld_put, fld_look, fld_states, fld_ins, fld_outs, has_moved, has_seen, has_turned, nobs_nat, frs_nat, vws_nat, vis_nat, noos_nat, noNs_nat, natPs_len, vSetH, vgS, ixN_10, ixN_20, ixN_21, ixN_30, ixN_31, ixN_32, vAt, *])
theorem Gm.nuls {T l : Nat} : Gm 1 (List.replicate T (nul l)) := ⟨1, by decide, by decide, fun r hr => by
  rw [(List.mem_replicate.mp hr).2]
  exact cm_nul⟩
def CameBy (n : Nat) (M L : Gr) (s g : List Rat) (T B : Nat) (word : Str) (v : P) : Prop :=
  (word = "puts" ∧ ∃ P, v = .own (oPs true P) ∧ P.length = T ∧ Wide L.length P ∧ ends M L s P = g ∧ Gm B P) ∨
  (word = "never" ∧ ∃ y, v = .own (nPs y) ∧ y.length = n ∧ (∀ r ∈ adF M L T, rDot y r = 0) ∧ rDot y (rSub g (pw M T s)) = 1 ∧ Pm B y)
section
variable {n X d : Nat} {M L U : Gr} {k : Bool} {s g : List Rat}
theorem Pm.less {a b : Nat} {x y : List Rat} (hx : Pm a x) (hy : Pm b y) : Pm (a + b + 1) (rSub x y) := by
  obtain ⟨d, d0, d1, d2⟩ := hx
  obtain ⟨e, e0, e1, e2⟩ := hy
  have u := cm_up d2 e1
  have v := cm_up e2 d1
  rw [Nat.mul_comm, Nat.add_comm b] at v
  refine ⟨d * e, Nat.mul_pos d0 e0, pow2_le (Nat.le_succ _) (pow2_mul d1 e1), fun q hq => ?_⟩
  obtain ⟨i, hi, rfl⟩ := List.getElem_of_mem hq
  have hi2 := hi
  rw [rSub_len] at hi2
  have ee : (rSub x y)[i] = x[i]'(by omega) - y[i]'(by omega) := by simp only [rSub, List.getElem_zipWith]
  rw [ee]
  obtain ⟨a1, h1, h2⟩ := u _ (List.getElem_mem (show i < x.length by omega))
  obtain ⟨b1, k1, k2⟩ := v _ (List.getElem_mem (show i < y.length by omega))
  refine ⟨a1 - b1, ?_, ?_⟩
  · rw [Rat.intCast_sub, ← h1, ← k1]
    grind
  · rw [Nat.pow_succ]
    omega
end
section
variable {n X d : Nat} {M L U : Gr} {k k2 k3 a b1 c a2 b2 c2 : Bool} {s g : List Rat} {Q : Gr}
end
section
variable {p : P} {r0 r1 r2 r3 r4 r5 r6 : Option P}
end
theorem lin_rDot (N : Nat) (y : List Rat) : Lin N (rDot y) := ⟨fun {a b} ha hb => by rw [rDot_comm, rDot_sub (by omega), rDot_comm a, rDot_comm b], fun {a} c _ => by rw [rDot_comm, rDot_mul, rDot_comm]⟩
theorem CameBy.puts {n T B : Nat} {M L : Gr} {s g : List Rat} {word : Str} {v : P} (W : CameBy n M L s g T B word v) (h : ∀ φ, Lin n φ → Kr φ (adF M L T) → φ (rSub g (pw M T s)) = 0) :
    word = "puts" ∧ ∃ Q : Gr, v = .own (oPs true Q) ∧ Q.length = T ∧ Wide L.length Q ∧ ends M L s Q = g ∧ Gm B Q := by
  rcases W with W | ⟨rfl, y, rfl, h1, h2, h3, _⟩
  · exact W
  · have := h (rDot y) (lin_rDot n y) h2
    rw [h3] at this
    exact absurd this (by decide)
section
variable {n X d : Nat} {M L U : Gr} {k k2 k3 a b1 c a2 b2 c2 : Bool} {s g : List Rat} {Q : Gr}
end
theorem Lin.add {N : Nat} {φ : List Rat → Rat} (L : Lin N φ) {a b : List Rat} (ha : a.length = N) (hb : b.length = N) : φ (rAdd a b) = φ a + φ b := by
  have e : rAdd a b = rSub a (rMul (-1) b) := by
    refine row_ext (n := N) (by rw [rAdd_len]; omega) (by rw [rSub_len, rMul_len]; omega) fun j _ => ?_
    rw [rAdd_at (by omega), rSub_at (by rw [rMul_len]; omega), rMul_at]
    grind
  rw [e, L.sub ha (by rw [rMul_len, hb]), L.mul _ hb]
  grind
theorem lin_puts {N : Nat} {φ : List Rat → Rat} (Lφ : Lin N φ) : ∀ (ws : List Rat) (rows : Gr) (t : List Rat), Wide N rows → t.length = N → Kr φ rows → φ (addPuts t ws rows) = φ t
  | [], rows, t, _, _, _ => by unfold addPuts; rfl
  | w :: ws, [], t, _, _, _ => by unfold addPuts; rfl
  | w :: ws, r :: rows, t, hw, ht, hk => by
    have hr := hw r List.mem_cons_self
    show φ (addPuts (rAdd t (rMul w r)) ws rows) = φ t
    rw [lin_puts Lφ ws rows _ (fun x hx => hw x (List.mem_cons_of_mem _ hx)) (by rw [rAdd_len, rMul_len, ht, hr, Nat.min_self]) (fun x hx => hk x (List.mem_cons_of_mem _ hx)), Lφ.add ht (by rw [rMul_len, hr]), Lφ.mul _ hr, hk r List.mem_cons_self]
    grind
theorem kr_ends {n : Nat} {M L : Gr} (hM : M.length = n) (hL : Wide n L) {Q : Gr} {s : List Rat} (hQ : Wide L.length Q) (ls : s.length = n) {φ : List Rat → Rat} (Lφ : Lin n φ) (k : Kr φ (adF M L Q.length)) : φ (ends M L s Q) = φ (pw M Q.length s) := by
  have wa := adR_wide hM hL Q.length
  rw [ends_eq hM hL Q s hQ ls, Lφ.add (pw_len hM ls _) (by rw [addPuts_len fun r hr => by rw [nul_len]; exact wa r hr, nul_len]), lin_puts Lφ _ _ _ wa nul_len fun r hr => k r (adR_mem.mp hr), lin_nul Lφ]
  grind
section
variable {n X d : Nat} {M L U : Gr} {k k2 k3 a b1 c a2 b2 c2 : Bool} {s g : List Rat} {Q : Gr} {w : Int} {p : P}
end
section
variable {n X d : Nat} {M L U : Gr} {k k2 k3 a b1 c a2 b2 c2 : Bool} {s g : List Rat} {Q : Gr} {w : Int} {p : P}
end
noncomputable def nuls (N : Nat) (g : Gr) : Gr := (frees N (red N g)).map (nulR N (red N g))
theorem nuls_wide {N : Nat} {g : Gr} : Wide N (nuls N g) := fun r hr => by
  obtain ⟨f, _, rfl⟩ := List.mem_map.mp hr
  exact nulR_len
theorem nuls_len {N : Nat} {g : Gr} : (nuls N g).length ≤ N := by
  unfold nuls
  rw [List.length_map]
  exact frees_lt
theorem nuls_dot {N : Nat} {g : Gr} (hw : Wide N g) {r x : List Rat} (hr : r ∈ nuls N g) (hx : x ∈ g) : rDot x r = 0 := by
  obtain ⟨left, I⟩ := red_is hw
  obtain ⟨f, hf, rfl⟩ := List.mem_map.mp hr
  exact nulR_kills I hw hf hx
def ovr (M : Gr) (n : Nat) (r : List Rat) : List Rat := gOn (gT' M n) r
section
variable {n X d : Nat} {M L U : Gr} {k : Bool} {s g : List Rat}
theorem cm_col {N d : Nat} {g : Gr} (h : CmG N d g) (j : Nat) : Cm N d (col g j) := fun q hq => by
  obtain ⟨r, hr, rfl⟩ := List.mem_map.mp hq
  exact (h r hr).gd j
theorem Sk.gT_cm (h : Sk n X d M L U) : CmG X d (gT' M n) := fun r hr => by
  obtain ⟨j, _, rfl⟩ := List.mem_map.mp hr
  exact cm_col h.cm.1 j
theorem Sk.gT_wide (h : Sk n X d M L U) : Wide n (gT' M n) := by
  have := wide_gT (g := M) (w := n)
  rw [h.nM] at this
  exact this
noncomputable def shutR (n : Nat) (M L : Gr) : Gr := nuls n (adF M L n)
theorem nuls_pm (h : Sk n X d M L U) {T : Nat} (hT : T ≤ 16) : PmG 22000 (nuls n (adF M L T)) ∧ ∀ j, Pm 22000 (col (nuls n (adF M L T)) j) := by
  have wa := h.ad_wide T
  obtain ⟨p1, p2⟩ := h.reach_pm (T := T) hT
  obtain ⟨left, I⟩ := red_is wa
  constructor
  · intro r hr
    obtain ⟨f, _, rfl⟩ := List.mem_map.mp hr
    exact pm_nulR (p2 f)
  · intro j
    by_cases hj : ∃ a ∈ red n (adF M L T), a.1 = j
    · obtain ⟨a, ha, rfl⟩ := hj
      obtain ⟨e, e0, e1, e2⟩ := p1 a.2 (List.mem_map.mpr ⟨a, ha, rfl⟩)
      refine ⟨e, e0, e1, fun q hq => ?_⟩
      obtain ⟨r, hr, rfl⟩ := List.mem_map.mp hq
      obtain ⟨f, hf, rfl⟩ := List.mem_map.mp hr
      have v : (nulR n (red n (adF M L T)) f).getD a.1 0 = 0 - a.2.getD f 0 := by
        have h1 := nulR_dot I.rr hf (u := unit n a.1) unit_len
        rw [rDot_unit _ (I.rr.ld a ha).1 nulR_len] at h1
        rw [h1, unit_at (I.rr.ld a ha).1, if_neg (fun z => (frees_mem.mp hf).2 a ha z.symm), I.rr.one ha (fun b hb hn => by rw [unit_at (I.rr.ld a ha).1, if_neg hn]), unit_at (I.rr.ld a ha).1, if_pos rfl]
        grind
      rw [v]
      obtain ⟨x, x1, x2⟩ := Cm.gd e2 f
      refine ⟨-x, ?_, by omega⟩
      rw [Rat.intCast_neg, ← x1]
      grind
    · refine ⟨1, by decide, Nat.one_lt_two_pow (by decide), fun q hq => ?_⟩
      obtain ⟨r, hr, rfl⟩ := List.mem_map.mp hq
      obtain ⟨f, hf, rfl⟩ := List.mem_map.mp hr
      by_cases c : j < n
      · rw [nulR_at hf (frees_mem.mpr ⟨c, fun a ha e => hj ⟨a, ha, e⟩⟩)]
        by_cases e : j = f
        · rw [if_pos e]
          exact ⟨1, by decide +kernel, Nat.one_lt_two_pow (by decide)⟩
        · rw [if_neg e]
          exact ⟨0, Rat.zero_mul _, Nat.two_pow_pos _⟩
      · rw [List.getD_eq_getElem?_getD, List.getElem?_eq_none (by rw [nulR_len]; omega)]
        exact ⟨0, Rat.zero_mul _, Nat.two_pow_pos _⟩
theorem shut_pm (h : Sk n X d M L U) : PmG 22000 (shutR n M L) ∧ ∀ j, Pm 22000 (col (shutR n M L) j) := nuls_pm h (by have := h.sy.n8; omega)
theorem shut_dot (h : Sk n X d M L U) {r x : List Rat} {T : Nat} (hr : r ∈ shutR n M L) (hx : x ∈ adF M L T) : rDot r x = 0 := by
  have wa := h.ad_wide n
  have k : Kr (rDot r) (adF M L n) := fun y hy => by rw [rDot_comm]; exact nuls_dot wa hr hy
  rcases Nat.le_total T n with c | c
  · exact k x (adF_sub c x hx)
  · have e := red_stands h.nM h.sy.wL c
    have a := red_span (h.ad_wide T) (rDot r) (lin_rDot n r)
    have b := red_span wa (rDot r) (lin_rDot n r)
    unfold redR at a b
    rw [e] at a
    exact (a.mp (b.mpr k)) x hx
structure Ways (n : Nat) (M R W : Gr) : Prop where
  len : W.length = R.length
  wide : Wide R.length W
  at_ : ∀ (i : Nat) (h : i < R.length) (h' : i < W.length) (j : Nat), j < n → rDot (col R j) W[i] = (ovr M n R[i]).getD j 0
  pm : PmG 400500 W
end
def Priced (n : Nat) (M L : Gr) (s g : List Rat) (B i : Nat) (y : List Rat) : Prop := y.length = n ∧ (∀ r ∈ adF M L i, rDot y r = 0) ∧ rDot y (rSub g (pw M i s)) = 1 ∧ Pm B y
def SoonBy (n : Nat) (M L : Gr) (s g : List Rat) (most B : Nat) (v : P) : Prop :=
  (∃ t Q Y, t ≤ most ∧ v = .tup [.int ((t : Nat) : Int), .own (oPs true Q), .own (oPs true Y)] ∧ Q.length = t ∧ Wide L.length Q ∧ ends M L s Q = g ∧ Gm B Q ∧ Y.length = t ∧ ∀ i (h : i < Y.length), Priced n M L s g B i Y[i]) ∨
  (∃ Y, v = .tup [.non, .own [], .own (oPs true Y)] ∧ Y.length = most + 1 ∧ ∀ i (h : i < Y.length), Priced n M L s g B i Y[i])
section
variable {n X d : Nat} {M L U : Gr} {k k2 k3 : Bool} {s g : List Rat}
end
def pah {α : Type} (a : Nat) (xs : List α) : List α := (xs.drop a).take 1 ++ (xs.take a ++ xs.drop (a + 1))
theorem pah_mem {α : Type} {a : Nat} {xs : List α} {x : α} (h : x ∈ pah a xs) : x ∈ xs := by
  unfold pah at h
  rcases List.mem_append.mp h with h | h
  · exact List.mem_of_mem_drop (List.mem_of_mem_take h)
  · rcases List.mem_append.mp h with h | h
    · exact List.mem_of_mem_take h
    · exact List.mem_of_mem_drop h
theorem pah_len {α : Type} {a : Nat} {xs : List α} (h : a < xs.length) : (pah a xs).length = xs.length := by
  unfold pah
  rw [List.length_append, List.length_append, List.length_take, List.length_drop, List.length_take, List.length_drop]
  omega
theorem pah_head {α : Type} {a : Nat} {xs : List α} (h : a < xs.length) : pah a xs = xs[a] :: (xs.take a ++ xs.drop (a + 1)) := by
  unfold pah
  rw [List.drop_eq_getElem_cons h]
  rfl
section
variable {n X d : Nat} {M L U : Gr} {k k2 k3 : Bool} {s g : List Rat}
end
structure Shuts (n : Nat) (M L R : Gr) (g : List Rat) : Prop where
  wide : Wide n R
  len : R.length ≤ n
  pm : PmG 22000 R
  dot : ∀ r ∈ R, ∀ T, ∀ x ∈ adF M L T, rDot r x = 0
  head : ∃ r R', R = r :: R' ∧ rDot r g ≠ 0
section
variable {n X d : Nat} {M L U : Gr} {k k2 k3 a b1 c a2 b2 c2 : Bool} {s g : List Rat} {R : Gr} {w : Int} {p : P}
theorem Shuts.of (h : Sk n X d M L U) {i : Nat} (hi : i < (shutR n M L).length) (h0 : rDot ((shutR n M L).getD i []) g ≠ 0) : Shuts n M L (pah i (shutR n M L)) g where
  wide := fun r hr => nuls_wide r (pah_mem hr)
  len := by rw [pah_len hi]; exact nuls_len
  pm := fun r hr => (shut_pm h).1 r (pah_mem hr)
  dot := fun r hr T x hx => shut_dot h (pah_mem hr) hx
  head := ⟨_, _, pah_head hi, by rw [getD_l hi] at h0; exact h0⟩
theorem Shuts.no (S : Shuts n M L R g) (hM : M.length = n) (hL : Wide n L) {Q : Gr} (wQ : Wide L.length Q) : ends M L (nul n) Q ≠ g := fun e => by
  obtain ⟨r, R', hR, h0⟩ := S.head
  have hr : r ∈ R := by rw [hR]; exact List.mem_cons_self
  have k := kr_ends hM hL wQ nul_len (lin_rDot n r) (S.dot r hr _)
  rw [e, pw_nul hM, rDot_nulr] at k
  exact h0 k
end
section
variable {n X d : Nat} {M L U : Gr} {k k2 k3 a b1 c a2 b2 c2 : Bool} {s g : List Rat}
theorem Sk.turned (h : Sk n X d M L U) : Sk n X d (gT' M n) U L :=
  Sk.of gT_len h.gT_wide h.sy.wU h.sy.wL h.sy.n8 h.sy.u4 h.sy.l4 h.d0 h.d1 ⟨h.gT_cm, h.cm.2.2, h.cm.2.1⟩ h.kd
end
section
variable {n X d : Nat} {M L U : Gr} {k k2 k3 a b1 c a2 b2 c2 : Bool} {s g : List Rat}
end
section
variable {n : Nat} {p : P} {r0 r1 r2 r3 r4 r5 : Option P}
end
section
variable {n X d : Nat} {M L U : Gr} {k k2 k3 a b1 c a2 b2 c2 : Bool} {s g y q : List Rat} {P : Gr}
end
section
variable {n X d : Nat} {M L U : Gr} {k k2 k3 k4 k5 k6 a b1 c a2 b2 c2 : Bool} {s g y q : List Rat} {P : Gr}
end
section
variable {n X d : Nat} {M L U : Gr} {k k2 k3 : Bool} {p : P} {w : Int}
end
section
variable {n X d : Nat} {M L U : Gr} {k k2 k3 k4 : Bool} {p : P} {w : Int} {q : List Rat}
end
section
variable {n X d : Nat} {M L U : Gr} {k k2 k3 k4 : Bool} {q : List Rat}
end
section
variable {n X d : Nat} {M L U : Gr} {k k2 k3 k4 a b1 c a2 b2 c2 : Bool} {s : List Rat} {p : P}
end
section
variable {n X d : Nat} {M L U : Gr} {k k2 k3 k4 a b1 c a2 b2 c2 : Bool} {s q : List Rat} {P : Gr}
end
section
variable {n A C : Nat} {M L U R : Gr} {k k2 k3 a b1 c a2 b2 c2 : Bool}
end
section
variable {n A C : Nat} {M L U R : Gr} {k k2 k3 a b1 c a2 b2 c2 : Bool}
end
section
variable {n : Nat} {M M2 L : Gr}
end
section
variable {n A C : Nat} {M L U R : Gr}
end
section
variable {p : P} {n i o : Nat} {w way first : Int}
end
section
variable {n A : Nat} {M L U R : Gr}
end
section
variable {n X d d2 : Nat} {M L U R : Gr}
end
theorem sq_ex {a b : VS} {ρ ρ1 : VEnv} {p : P} (h : a ρ = .nx ρ1) (h2 : ∃ ρ', b ρ1 = .rt p ρ') : ∃ ρ', vSq a b ρ = .rt p ρ' := by
  obtain ⟨ρ', e⟩ := h2
  exact ⟨ρ', by show (a ρ).andThen b = _; rw [h]; exact e⟩
theorem law_of {N : Nat} {b : VS} {x : P} {v : P} (h : ∃ ρ, b (some x :: List.replicate (N - 1) none) = .rt v ρ) : gnD 0 1 N b [x] = .ok v [] := by
  obtain ⟨ρ, e⟩ := h
  have e : b ([x].map some ++ List.replicate (N - [x].length) none) = .rt v ρ := e
  unfold gnD
  rw [e]
  rfl
section
variable {n : Nat} {A R : Gr}
theorem gr_getD {i : Nat} (h : i < A.length) : A.getD i [] = A[i] := by
  rw [List.getD_eq_getElem?_getD, List.getElem?_eq_getElem h]
  rfl
section
variable {N : Nat} {g left : Gr} {fl : List (Nat × List Rat)}
theorem Inv.rr' (I : Inv N g n fl left) (hn : n ≤ N) : RR N fl := ⟨I.wf, fun a ha => ⟨Nat.lt_of_lt_of_le (I.ld a ha).1 hn, (I.ld a ha).2⟩, I.pw⟩
theorem Inv.leads (I : Inv N g n fl left) (h : fl.length = n) : fl.map Prod.fst = List.range n := by
  have pw1 : (fl.map Prod.fst).Pairwise (· < ·) := List.pairwise_map.mpr (I.pw.imp And.left)
  have sub : ∀ z ∈ fl.map Prod.fst, z ∈ List.range n := fun z hz => by
    obtain ⟨a, ha, rfl⟩ := List.mem_map.mp hz
    exact List.mem_range.mpr (I.ld a ha).1
  have back := nodup_back (pw1.imp Nat.ne_of_lt) List.nodup_range sub (by rw [List.length_map, List.length_range, h]; exact Nat.le_refl _)
  exact sorted_ext pw1 (List.pairwise_lt_range) fun x => ⟨sub x, back x⟩
theorem Inv.lead_at (I : Inv N g n fl left) (h : fl.length = n) {i : Nat} (hi : i < fl.length) : (fl[i]).1 = i := by
  have e := I.leads h
  have z : (fl.map Prod.fst)[i]'(by rw [List.length_map]; exact hi) = (List.range n)[i]'(by rw [List.length_range]; omega) := by
    congr 1
  rw [List.getElem_map, List.getElem_range] at z
  exact z
theorem Inv.unit_at (I : Inv N g n fl left) (hn : n ≤ N) (h : fl.length = n) {i c : Nat} (hi : i < fl.length) (hc : c < n) : (fl[i]).2.getD c 0 = if c = i then 1 else 0 := by
  have r := I.rr' hn
  have ei := I.lead_at h hi
  by_cases e : c = i
  · rw [if_pos e, e]
    have := (I.ld _ (List.getElem_mem hi)).2.2
    rw [ei] at this
    exact this
  · rw [if_neg e]
    have ec := I.lead_at h (i := c) (by omega)
    have := r.off (List.getElem_mem hi) (List.getElem_mem (show c < fl.length by omega)) (by rw [ei, ec]; exact e)
    rw [ec] at this
    exact this
end
theorem gT_wide (hR : R.length = n) : Wide n (gT' R n) := fun r hr => by
  obtain ⟨j, _, rfl⟩ := List.mem_map.mp hr
  rw [col_len, hR]
end
mutual
def okS : Nat → P → Bool
  | 0, _ => false
  | j + 1, .tup xs => okSs j xs
  | j + 1, .ow k .lst xs => !k && (decide (xs.length < sizeLine) && okSs j xs)
  | _ + 1, .int _ => true
  | _ + 1, .str _ => true
  | _ + 1, .bl _ => true
  | _ + 1, .non => true
  | _ + 1, _ => false
def okSs : Nat → List P → Bool
  | _, [] => true
  | j, x :: xs => okS j x && okSs j xs
end
mutual
def okK : Nat → P → Bool
  | 0, _ => false
  | j + 1, .tup xs => decide (xs.length ≤ sizeLine) && okKs j xs
  | j + 1, .nd k .lst xs => !k && (decide (xs.length ≤ sizeLine) && okKs j xs)
  | _ + 1, .int _ => true
  | _ + 1, .str _ => true
  | _ + 1, .bl _ => true
  | _ + 1, .non => true
  | _ + 1, _ => false
def okKs : Nat → List P → Bool
  | _, [] => true
  | j, x :: xs => okK j x && okKs j xs
end
mutual
def cpy : P → P
  | .tup xs => .tup (cpys xs)
  | .nd _ .lst xs => .own (cpys xs)
  | p => p
def cpys : List P → List P
  | [] => []
  | x :: xs => cpy x :: cpys xs
end
theorem okK_nP {j : Nat} {q : Rat} : okK (j + 2) (nP q) = true := by
  show (decide (2 ≤ sizeLine) && (true && (true && true))) = true
  rw [decide_eq_true (by rw [sizeLine_eq]; decide : 2 ≤ sizeLine)]
  rfl
theorem okS_nP {j : Nat} {q : Rat} : okS (j + 2) (nP q) = true := rfl
local macro_rules | `(tactic| walk_at "st") => `(tactic| refine sq_ex (by walk_at "go"; exact rfl) ?_)
local macro_rules | `(tactic| walk_at "end") => `(tactic| exact ⟨_, by walk_at "go"; exact rfl⟩)
section
variable {n X d : Nat} {M L U : Gr} {s g : List Rat} {k k2 k3 a b1 c a2 b2 c2 : Bool}
end
section
variable {n X d : Nat} {M L U : Gr} {s g : List Rat} {k k2 k3 a b1 c a2 b2 c2 : Bool}
end
structure Tld (j : Nat) (v : P) : Prop where
  ok : okK j (vw v) = true
  cp : cpy (vw v) = v
  sp : okS j (vi v) = true
  d1 : dtt (j + 2) v = true
  d2 : dtt (j + 2) (vw v) = true
  nb : nob v = true
structure Tlds (j : Nat) (xs : List P) : Prop where
  ok : okKs j (vws xs) = true
  cp : cpys (vws xs) = xs
  sp : okSs j (vis xs) = true
  d1 : dtts (j + 2) xs = true
  d2 : dtts (j + 2) (vws xs) = true
  nb : nobs xs = true
theorem Tlds.nil {j : Nat} : Tlds j [] := ⟨rfl, rfl, rfl, rfl, rfl, rfl⟩
theorem Tlds.cons {j : Nat} {x : P} {xs : List P} (a : Tld j x) (b : Tlds j xs) : Tlds j (x :: xs) where
  ok := by rw [vws]; exact Bool.and_eq_true_iff.mpr ⟨a.ok, b.ok⟩
  cp := by rw [vws, cpys, a.cp, b.cp]
  sp := by rw [vis]; exact Bool.and_eq_true_iff.mpr ⟨a.sp, b.sp⟩
  d1 := by rw [dtts]; exact Bool.and_eq_true_iff.mpr ⟨a.d1, b.d1⟩
  d2 := by rw [vws, dtts]; exact Bool.and_eq_true_iff.mpr ⟨a.d2, b.d2⟩
  nb := Bool.and_eq_true_iff.mpr ⟨a.nb, b.nb⟩
theorem Tlds.all {j : Nat} : ∀ {xs : List P}, (∀ x ∈ xs, Tld j x) → Tlds j xs
  | [], _ => .nil
  | x :: xs, h => .cons (h x List.mem_cons_self) (Tlds.all fun y hy => h y (List.mem_cons_of_mem _ hy))
theorem vws_len : ∀ xs : List P, (vws xs).length = xs.length
  | [] => rfl
  | x :: xs => by rw [vws, List.length_cons, List.length_cons, vws_len xs]
theorem vis_len : ∀ xs : List P, (vis xs).length = xs.length
  | [] => rfl
  | x :: xs => by rw [vis, List.length_cons, List.length_cons, vis_len xs]
theorem Tlds.tup {j : Nat} {xs : List P} (h : Tlds j xs) (hz : xs.length ≤ sizeLine) : Tld (j + 1) (.tup xs) where
  ok := by
    rw [vw]
    show (decide ((vws xs).length ≤ sizeLine) && okKs j (vws xs)) = true
    rw [h.ok, vws_len, decide_eq_true hz]
    rfl
  cp := by rw [vw, cpy, h.cp]
  sp := by rw [vi]; exact h.sp
  d1 := by rw [dtt]; exact h.d1
  d2 := by rw [vw, dtt]; exact h.d2
  nb := h.nb
theorem Tlds.own {j : Nat} {xs : List P} (h : Tlds j xs) (hz : xs.length < sizeLine) : Tld (j + 1) (.own xs) where
  ok := by
    rw [vw]
    show (true && (decide ((vws xs).length ≤ sizeLine) && okKs j (vws xs))) = true
    rw [h.ok, vws_len, decide_eq_true (Nat.le_of_lt hz)]
    rfl
  cp := by rw [vw, cpy, h.cp]
  sp := by
    rw [vi]
    show (true && (decide ((vis xs).length < sizeLine) && okSs j (vis xs))) = true
    rw [h.sp, vis_len, decide_eq_true hz]
    rfl
  d1 := by rw [dtt]; exact h.d1
  d2 := by rw [vw, dtt]; exact h.d2
  nb := Bool.and_eq_true_iff.mpr ⟨rfl, h.nb⟩
theorem Tld.int {j : Nat} {i : Int} : Tld (j + 1) (.int i) := ⟨rfl, rfl, rfl, by rw [dtt], by rw [vw, dtt], rfl⟩
theorem Tld.non {j : Nat} : Tld (j + 1) .non := ⟨rfl, rfl, rfl, by rw [dtt], by rw [vw, dtt], rfl⟩
theorem Tld.str {j : Nat} {z : Str} (h : PyData.strOk z = true) : Tld (j + 1) (.str z) := ⟨rfl, rfl, rfl, by rw [dtt]; exact h, by rw [vw, dtt]; exact h, rfl⟩
theorem Tld.num {j : Nat} {q : Rat} : Tld (j + 2) (nP q) := ⟨okK_nP, rfl, okS_nP, dtt_nP q, dtt_nP q, rfl⟩
theorem Tld.row {j : Nat} {r : List Rat} (h : r.length < sizeLine) : Tld (j + 3) (.own (nPs r)) :=
  (Tlds.all (j := j + 2) fun x hx => by
    obtain ⟨q, _, rfl⟩ := List.mem_map.mp hx
    exact .num).own (by rw [nPs_len]; exact h)
theorem Tld.grid {j : Nat} {g : Gr} (h : g.length < sizeLine) (hr : ∀ r ∈ g, r.length < sizeLine) : Tld (j + 4) (.own (oPs true g)) :=
  (Tlds.all (j := j + 3) fun x hx => by
    obtain ⟨r, h, rfl⟩ := List.mem_map.mp hx
    exact .row (hr r h)).own (by rw [oPs_len]; exact h)
section
variable {n : Nat} {M L : Gr} {s g : List Rat}
theorem lt_line {i : Nat} (h : i ≤ 100) : i < sizeLine := by rw [sizeLine_eq]; omega
theorem CameBy.told {T B : Nat} {word : Str} {v : P} (W : CameBy n M L s g T B word v) (hT : T ≤ 100) (l4 : L.length ≤ 100) (n8 : n ≤ 100) : Tld 6 (.tup [.str word, v]) := by
  refine Tlds.tup ?_ (by show (2 : Nat) ≤ sizeLine; exact Nat.le_of_lt (lt_line (by decide)))
  rcases W with ⟨rfl, Q, rfl, x1, x2, _⟩ | ⟨rfl, y, rfl, y1, _⟩
  · exact .cons (.str (by decide +kernel)) (.cons (.grid (lt_line (by omega)) fun r hr => lt_line (by rw [x2 r hr]; exact l4)) .nil)
  · exact .cons (.str (by decide +kernel)) (.cons (.row (lt_line (by omega))) .nil)
theorem SoonBy.told {most B : Nat} {v : P} (W : SoonBy n M L s g most B v) (hT : most ≤ 90) (l4 : L.length ≤ 100) (n8 : n ≤ 100) : Tld 6 v := by
  have three : ∀ {x y z : P}, Tlds 5 [x, y, z] → Tld 6 (.tup [x, y, z]) := fun h => h.tup (by show (3 : Nat) ≤ sizeLine; exact Nat.le_of_lt (lt_line (by decide)))
  have pr : ∀ {Y : Gr}, (∀ i (h : i < Y.length), Priced n M L s g B i Y[i]) → ∀ r ∈ Y, r.length < sizeLine := fun h r hr => by
    obtain ⟨i, hi, rfl⟩ := List.getElem_of_mem hr
    exact lt_line (by rw [(h i hi).1]; exact n8)
  rcases W with ⟨t, Q, Y, ht, rfl, x1, x2, x3, x4, y1, y2⟩ | ⟨Y, rfl, y1, y2⟩
  · exact three (.cons .int (.cons (.grid (lt_line (by omega)) fun r hr => lt_line (by rw [x2 r hr]; exact l4)) (.cons (.grid (lt_line (by omega)) (pr y2)) .nil)))
  · exact three (.cons .non (.cons (Tlds.nil.own (lt_line (by decide))) (.cons (.grid (lt_line (by omega)) (pr y2)) .nil)))
end
def CapT (p B : Nat) : Prop := 4 * ((p + 1) * (B + 5)) + 20 ≤ LIM
theorem CapT.le {p q B C : Nat} (h : CapT p B) (h1 : q ≤ p) (h2 : C ≤ B) : CapT q C := by
  unfold CapT at *
  have := Nat.mul_le_mul (show q + 1 ≤ p + 1 by omega) (show C + 5 ≤ B + 5 by omega)
  omega
section
variable {n : Nat} {A : Gr}
end
section
variable {n X d : Nat} {M L U R G : Gr} {k k2 k3 : Bool}
end
section
variable {n : Nat} {φ : List Rat → Rat}
end
section
variable {n : Nat} {fl : List (Nat × List Rat)}
end
section
variable {n X d : Nat} {M L U R G : Gr}
end
section
variable {n X d : Nat} {M L U R G : Gr} {k : Bool}
end
section
variable {n r : Nat} {M L U : Gr} {k : Bool}
end
section
variable {n X d : Nat} {M L U : Gr} {k k2 a b1 c a2 b2 c2 : Bool}
end
section
variable {n X d : Nat} {M L U : Gr} {k k2 a b1 c a2 b2 c2 : Bool}
end
section
variable {n X d : Nat} {M L U R G : Gr} {k : Bool}
end
theorem Bd.pm {B : Nat} : ∀ {r : List Rat}, Bd B r → Pm (r.length * B + 1) r
  | [], _ => ⟨1, by decide, by rw [List.length_nil, Nat.zero_mul]; decide, fun q hq => nomatch hq⟩
  | q :: r, h => by
    obtain ⟨h1, h2⟩ := h.cons
    have ih := Bd.pm h2
    have e : q :: r = [q] ++ r := rfl
    have pq : Pm B [q] := ⟨q.den, q.den_pos, h1.2, fun x hx => by
      rw [List.mem_singleton.mp hx]
      exact ⟨q.num, mul_den q, h1.1⟩⟩
    rw [e]
    refine (pq.app ih).mono ?_
    rw [List.length_append, Nat.add_mul, List.length_singleton, Nat.one_mul]
    omega
section
variable {k k2 k3 : Bool} {g : Gr} {r due pr : List Rat} {A B : Nat}
end
section
variable {k k2 k3 : Bool} {g : Gr} {due : List Rat} {n : Nat}
end
section
variable {k k2 k3 k4 k5 : Bool} {g : Gr} {r ans : List Rat} {n : Nat} {word : Str}
end
section
variable {p : P} {n : Nat}
end
section
variable {p : P} {n : Nat} {A G G2 : Gr}
end
section
variable {a b : Gr} {n A B : Nat} {k k2 k3 k4 : Bool}
end
section
variable {n X d : Nat} {M L U R W P : Gr} {k k2 k3 k4 k5 k6 k7 a b1 c a2 b2 c2 : Bool} {s : List Rat}
end
section
variable {n X d m : Nat} {M L U R G P : Gr} {x p s : List Rat}
end
section
variable {n m : Nat} {M L U R I L' U' P : Gr} {k k2 k3 a b1 c a2 b2 c2 : Bool}
end
section
variable {n X d m : Nat} {M L U R G P : Gr} {k k2 k3 a b1 c a2 b2 c2 : Bool} {x : List Rat}
end
section
variable {n X d m : Nat} {M L U R G P : Gr} {k k2 k3 a b1 c a2 b2 c2 : Bool}
end
section
variable {a b : Gr} {A B n : Nat} {k k2 k3 k4 : Bool}
end
section
variable {n X d A B : Nat} {M L U : Gr} {k : Bool}
end
local macro_rules | `(tactic| walk_at "go") => `(tactic| simp only [gnD, endV, outsV, vSq, Vt.andThen, vIf, vAs, vRt, vRn, vEx, vNx, vBad, vBk, vCt, Vr.st, Vr.bind, vBor, vBor1, vwE, vV, vMv, vFrM1, Vt.upd, vLc, wipeV, atP_0, atP_1, atP_2, atP_3, vC, vBi, vUn, vCal, vK, vN, vCll0, vCll1, vCllT, vT, vL, vTst, vTru, vNotB, vAndB, vOrB, vNotD, vAndD, vOrD, vIfD, vPr, vgV, vgC, vgT, vgN, vFr, vRng1, vRng2, vEnu, vZp, vWalk, vSet, vMeN, vMe, vAugI, vAugV, updL, subT, repT, apF, exF, isLst, pa0, paI, vSli, vNoP, vP, vYes0, subP, mulP, modP, divP, ltP, leP, gtP, geP, iiP, tr2, negP, absP, maxP, minP, intP, eqP, neP, isP, isnP, isbP, isnbP, noo, noos, nob, nobs, fr, frs, vw, vws, vi, vis, noN, noNs, nobX_none, nobX_some, Option.map_some, Option.map_none, Option.bind_some, Option.bind_none, Option.isSome_some, List.length_cons, List.length_nil, List.map_cons, List.map_nil, List.getElem?_cons_zero, List.getElem?_cons_succ, List.getElem?_nil, List.set_cons_zero, List.set_cons_succ, List.cons_append, List.nil_append, List.replicate_succ, List.replicate_zero, Nat.sub_self, Nat.reduceSub, Nat.reduceAdd, Nat.reduceLT, Nat.reduceLeDiff, Nat.zero_lt_succ, Nat.lt_add_one, Nat.zero_add, Int.reduceEq, Int.reduceLT, Int.reduceLE, if_true, if_false, Bool.false_eq_true, reduceCtorEq, ite_true, ite_false, decide_true, decide_false, not_true_eq_false, not_false_eq_true, Bool.not_true, Bool.not_false, Bool.and_true, Bool.true_and, Bool.and_self, Bool.and_false, Bool.false_and, eq_self, and_self, and_true, true_and, isNonP, noo_nP, nob_nP, noN_nP, fr_nP, vw_nP, vi_nP, noos_nPs, nobs_nPs, noNs_nPs, frs_nPs, vws_nPs, vis_nPs, noos_gPs, nobs_oPs, nobs_gPs, frs_oPs, frs_gPs, vws_oPs, vws_gPs, nPs_len, gPs_len, oPs_len, eqQ_num, eqQ_row, eqQ_grid, eqQ_int, ixP_t0, ixP_t1, ixP_t2, ixP_n0, ixP_n1, ixP_l0, ixP_l1, ixP_l2, ixP_l3, atP_n0, atP_n1, lenP_l, lenP_o, lenP_t, lenP_n, addP_ii, truP_bl, isi_tn, isi_tt, isi_ll, isi_lo, isi_lt, isi_int, isi_bool, seqP_n, seqP_l, seqP_o, seqP_t, lstP_l, lstP_o, lsP_l, lsP_o, listP_l, setF_0, setF_1, setF_2, sz0, sz1, sz2, sz3, sz4, sz5, noos_ints, nobs_ints, noNs_ints, vws_ints, vis_ints, frs_ints, Int.cast_ofNat_Int, eqQ_r1, eqQ_r2, eqQ_r3, eqQ_r4, eqQ_g1, eqQ_g2, eqQ_g3, eqQ_g4, eqQ_g5, eqQ_g6, vRv, vFz, vMth0, vFrM2, vFld, vMk, vClr, vPopI, vTk, vCll1M, noo_sys, noo_sysO, nob_sys, nob_sysO, fr_sys, fr_sysO, vw_sys, vw_sysO, fld_move, fld_put, fld_look, fld_states, fld_ins, fld_outs, has_moved, has_seen, has_turned, nobs_nat, frs_nat, vws_nat, vis_nat, noos_nat, noNs_nat, natPs_len, vSetH, vgS, ixN_10, ixN_20, ixN_21, ixN_30, ixN_31, ixN_32, vTryA, Vt.unset, vIsD, vAnD, vXf, anyT, vRz0, vRz1, nobX, vTryM, vClGo, Vt.noexc, vDc, Option.map_none, Option.map_some, *])
local macro_rules | `(tactic| walk_at "un") => `(tactic| simp only [gnD, endV, outsV, vSq, Vt.andThen, vIf, vAs, vRt, vRn, vEx, vNx, vBad, vBk, vCt, Vr.st, Vr.bind, vBor, vBor1, vwE, vV, vMv, vFrM1, Vt.upd, vLc, wipeV, atP_0, atP_1, atP_2, atP_3, vC, vBi, vUn, vCal, vK, vN, vCll0, vCll1, vCllT, vT, vL, vTst, vTru, vNotB, vAndB, vOrB, vNotD, vAndD, vOrD, vIfD, vPr, vgV, vgC, vgT, vgN, vFr, vRng1, vRng2, vEnu, vZp, vWalk, vSet, vMeN, vMe, vAugI, vAugV, updL, subT, repT, apF, exF, isLst, pa0, paI, vSli, vNoP, vP, vYes0, subP, mulP, modP, divP, ltP, leP, gtP, geP, iiP, tr2, negP, absP, maxP, minP, intP, eqP, neP, isP, isnP, isbP, isnbP, noo, noos, nob, nobs, fr, frs, vw, vws, vi, vis, noN, noNs, nobX_none, nobX_some, Option.map_some, Option.map_none, Option.bind_some, Option.bind_none, Option.isSome_some, List.length_cons, List.length_nil, List.map_cons, List.map_nil, List.getElem?_cons_zero, List.getElem?_cons_succ, List.getElem?_nil, List.set_cons_zero, List.set_cons_succ, List.cons_append, List.nil_append, List.replicate_succ, List.replicate_zero, Nat.sub_self, Nat.reduceSub, Nat.reduceAdd, Nat.reduceLT, Nat.reduceLeDiff, Nat.zero_lt_succ, Nat.lt_add_one, Nat.zero_add, Int.reduceEq, Int.reduceLT, Int.reduceLE, if_true, if_false, Bool.false_eq_true, reduceCtorEq, ite_true, ite_false, decide_true, decide_false, not_true_eq_false, not_false_eq_true, Bool.not_true, Bool.not_false, Bool.and_true, Bool.true_and, Bool.and_self, Bool.and_false, Bool.false_and, eq_self, and_self, and_true, true_and, isNonP, noo_nP, nob_nP, noN_nP, fr_nP, vw_nP, vi_nP, noos_nPs, nobs_nPs, noNs_nPs, frs_nPs, vws_nPs, vis_nPs, noos_gPs, nobs_oPs, nobs_gPs, frs_oPs, frs_gPs, vws_oPs, vws_gPs, nPs_len, gPs_len, oPs_len, eqQ_num, eqQ_row, eqQ_grid, eqQ_int, ixP_t0, ixP_t1, ixP_t2, ixP_n0, ixP_n1, ixP_l0, ixP_l1, ixP_l2, ixP_l3, atP_n0, atP_n1, lenP_l, lenP_o, lenP_t, lenP_n, addP_ii, truP_bl, isi_tn, isi_tt, isi_ll, isi_lo, isi_lt, isi_int, isi_bool, seqP_n, seqP_l, seqP_o, seqP_t, lstP_l, lstP_o, lsP_l, lsP_o, listP_l, setF_0, setF_1, setF_2, sz0, sz1, sz2, sz3, sz4, sz5, noos_ints, nobs_ints, noNs_ints, vws_ints, vis_ints, frs_ints, Int.cast_ofNat_Int, eqQ_r1, eqQ_r2, eqQ_r3, eqQ_r4, eqQ_g1, eqQ_g2, eqQ_g3, eqQ_g4, eqQ_g5, eqQ_g6, vRv, vFz, vMth0, vFrM2, vFld, vMk, vClr, vPopI, vTk, vCll1M, noo_sys, noo_sysO, nob_sys, nob_sysO, fr_sys, fr_sysO, vw_sys, vw_sysO, fld_move, fld_put, fld_look, fld_states, fld_ins, fld_outs, has_moved, has_seen, has_turned, nobs_nat, frs_nat, vws_nat, vis_nat, noos_nat, noNs_nat, natPs_len, vSetH, vgS, ixN_10, ixN_20, ixN_21, ixN_30, ixN_31, ixN_32, vlcGo, vFrGo, ptV, setAllV, vTryA, Vt.unset, vIsD, vAnD, vXf, anyT, vRz0, vRz1, nobX, vTryM, vClGo, Vt.noexc, vDc, Option.map_none, Option.map_some, *])
local macro_rules | `(tactic| walk_at "at") => `(tactic| simp only [gnD, endV, outsV, vSq, Vt.andThen, vIf, vAs, vRt, vRn, vEx, vNx, vBad, vBk, vCt, Vr.st, Vr.bind, vBor, vBor1, vwE, vV, vMv, vFrM1, Vt.upd, vLc, wipeV, atP_0, atP_1, atP_2, atP_3, vC, vBi, vUn, vCal, vK, vN, vCll0, vCll1, vCllT, vT, vL, vTst, vTru, vNotB, vAndB, vOrB, vNotD, vAndD, vOrD, vIfD, vPr, vgV, vgC, vgT, vgN, vFr, vRng1, vRng2, vEnu, vZp, vWalk, vSet, vMeN, vMe, vAugI, vAugV, updL, subT, repT, apF, exF, isLst, pa0, paI, vSli, vNoP, vP, vYes0, subP, mulP, modP, divP, ltP, leP, gtP, geP, iiP, tr2, negP, absP, maxP, minP, intP, eqP, neP, isP, isnP, isbP, isnbP, noo, noos, nob, nobs, fr, frs, vw, vws, vi, vis, noN, noNs, nobX_none, nobX_some, Option.map_some, Option.map_none, Option.bind_some, Option.bind_none, Option.isSome_some, List.length_cons, List.length_nil, List.map_cons, List.map_nil, List.getElem?_cons_zero, List.getElem?_cons_succ, List.getElem?_nil, List.set_cons_zero, List.set_cons_succ, List.cons_append, List.nil_append, List.replicate_succ, List.replicate_zero, Nat.sub_self, Nat.reduceSub, Nat.reduceAdd, Nat.reduceLT, Nat.reduceLeDiff, Nat.zero_lt_succ, Nat.lt_add_one, Nat.zero_add, Int.reduceEq, Int.reduceLT, Int.reduceLE, if_true, if_false, Bool.false_eq_true, reduceCtorEq, ite_true, ite_false, decide_true, decide_false, not_true_eq_false, not_false_eq_true, Bool.not_true, Bool.not_false, Bool.and_true, Bool.true_and, Bool.and_self, Bool.and_false, Bool.false_and, eq_self, and_self, and_true, true_and, isNonP, noo_nP, nob_nP, noN_nP, fr_nP, vw_nP, vi_nP, noos_nPs, nobs_nPs, noNs_nPs, frs_nPs, vws_nPs, vis_nPs, noos_gPs, nobs_oPs, nobs_gPs, frs_oPs, frs_gPs, vws_oPs, vws_gPs, nPs_len, gPs_len, oPs_len, eqQ_num, eqQ_row, eqQ_grid, eqQ_int, ixP_t0, ixP_t1, ixP_t2, ixP_n0, ixP_n1, ixP_l0, ixP_l1, ixP_l2, ixP_l3, atP_n0, atP_n1, lenP_l, lenP_o, lenP_t, lenP_n, addP_ii, truP_bl, isi_tn, isi_tt, isi_ll, isi_lo, isi_lt, isi_int, isi_bool, seqP_n, seqP_l, seqP_o, seqP_t, lstP_l, lstP_o, lsP_l, lsP_o, listP_l, setF_0, setF_1, setF_2, sz0, sz1, sz2, sz3, sz4, sz5, noos_ints, nobs_ints, noNs_ints, vws_ints, vis_ints, frs_ints, Int.cast_ofNat_Int, eqQ_r1, eqQ_r2, eqQ_r3, eqQ_r4, eqQ_g1, eqQ_g2, eqQ_g3, eqQ_g4, eqQ_g5, eqQ_g6, vRv, vFz, vMth0, vFrM2, vFld, vMk, vClr, vPopI, vTk, vCll1M, noo_sys, noo_sysO, nob_sys, nob_sysO, fr_sys, fr_sysO, vw_sys, vw_sysO, fld_move, fld_put, fld_look, fld_states, fld_ins, fld_outs, has_moved, has_seen, has_turned, nobs_nat, frs_nat, vws_nat, vis_nat, noos_nat, noNs_nat, natPs_len, vSetH, vgS, ixN_10, ixN_20, ixN_21, ixN_30, ixN_31, ixN_32, vAt, vTryA, Vt.unset, vIsD, vAnD, vXf, anyT, vRz0, vRz1, nobX, vTryM, vClGo, Vt.noexc, vDc, Option.map_none, Option.map_some, *])
section
variable {A B : Nat} {p q : Rat} (hp : Hb A p) (hq : Hb B q) (hl : A + B ≤ LIM)
include hp hq hl
end
abbrev xFit : Vf := .exc ⟨"NoFit", none⟩ []
abbrev xMany (k : Int) : Vf := .exc ⟨"TooMany", some ("most", .int k)⟩ []
section
variable {n m A : Nat} {k k2 : Bool} {M L U M' L' U' : Gr}
inductive Oc where
  | fit | many (k : Int) | told (a b c : Nat)
def Oc.R (r : Vf) : Oc → Prop
  | .fit => r = xFit
  | .many k => r = xMany k
  | .told a b c => ∃ M L U : Gr, r = .ok (sysO true M L U) [] ∧ M.length = a ∧ L.length = b ∧ U.length = c
end
inductive Odd : P → Prop
  | tt : Odd (.bl true)
  | ff : Odd (.bl false)
  | no : Odd .non
  | s1 : Odd (.str "1")
  | pr : Odd (.tup [.int 1, .int 1])
  | ls (k : Bool) : Odd (.nd k .lst [.int 1])
  | dc (k : Bool) : Odd (.nd k (.dic []) [])
  | s0 : Odd (.str "")
theorem Odd.fr {p : P} (h : Odd p) : Odd (fr p) := by cases h <;> constructor
theorem Odd.vw {p : P} (h : Odd p) : Odd (vw p) := by cases h <;> constructor
theorem Odd.noo {p : P} (h : Odd p) : noo p = true := by cases h <;> rfl
theorem Odd.whole {p : P} (h : Odd p) : g_is_whole [p] = .ok (.bl false) [] := by
  cases h
  · have e1 : isiP "int" [.bl true] = some (.bl true) := rfl
    have e2 : isiP "bool" [.bl true] = some (.bl true) := rfl
    unfold g_is_whole w_is_whole
    walk_at "go"
  · have e1 : isiP "int" [.bl false] = some (.bl true) := rfl
    have e2 : isiP "bool" [.bl false] = some (.bl true) := rfl
    unfold g_is_whole w_is_whole
    walk_at "go"
  · have e1 : isiP "int" [.non] = some (.bl false) := rfl
    unfold g_is_whole w_is_whole
    walk_at "go"
  · have e1 : isiP "int" [.str "1"] = some (.bl false) := rfl
    unfold g_is_whole w_is_whole
    walk_at "go"
  · have e1 : isiP "int" [.tup [.int 1, .int 1]] = some (.bl false) := rfl
    unfold g_is_whole w_is_whole
    walk_at "go"
  · have e1 : ∀ k, isiP "int" [.nd k .lst [.int 1]] = some (.bl false) := fun _ => rfl
    unfold g_is_whole w_is_whole
    walk_at "go"
  · have e1 : ∀ k, isiP "int" [.nd k (.dic []) []] = some (.bl false) := fun _ => rfl
    unfold g_is_whole w_is_whole
    walk_at "go"
  · have e1 : isiP "int" [.str ""] = some (.bl false) := rfl
    unfold g_is_whole w_is_whole
    walk_at "go"
def Arg (p : P) : Prop := Odd p ∨ ∃ i : Int, p = .int i
theorem Arg.fr {p : P} (h : Arg p) : Arg (fr p) := by
  rcases h with h | ⟨i, rfl⟩
  · exact .inl h.fr
  · exact .inr ⟨i, rfl⟩
theorem Arg.vw {p : P} (h : Arg p) : Arg (vw p) := by
  rcases h with h | ⟨i, rfl⟩
  · exact .inl h.vw
  · exact .inr ⟨i, rfl⟩
theorem Arg.noo {p : P} (h : Arg p) : Hm.noo p = true := by
  rcases h with h | ⟨i, rfl⟩
  · exact h.noo
  · rfl
def zs (i n : Nat) : Gr := List.replicate i (nul n)
section
variable {n m A : Nat} {k k2 : Bool} {M L U M' L' U' : Gr}
def Oc.P : Oc → P
  | .fit => .tup [.str "fit", .int 0]
  | .many k => .tup [.str "many", .int k]
  | .told a b c => .tup [.str "told", .own [.int (a : Int), .int (b : Int), .int (c : Int)]]
end
section
variable {n i o n' i' o' : Nat}
abbrev n3 (k : Bool) (n i o : Nat) : P := .nd k .lst [.int (n : Int), .int (i : Int), .int (o : Int)]
end
inductive Cel : P → Bool → Prop
  | num (q : Rat) : Cel (nP q) true
  | non : Cel .non false
  | one : Cel (.int 1) false
  | t10 : Cel (.tup [.int 1, .int 0]) false
  | t24 : Cel (.tup [.int 2, .int 4]) false
  | tt1 : Cel (.tup [.bl true, .int 1]) false
  | s0 : Cel (.str "0") false
  | t0m : Cel (.tup [.int 0, .int (-1)]) false
  | l01 (k : Bool) : Cel (.nd k .lst [.int 0, .int 1]) false
  | t011 : Cel (.tup [.int 0, .int 1, .int 1]) false
  | emp (k : Bool) : Cel (.nd k .lst []) false
  | et : Cel (.tup []) false
theorem Cel.fr {x : P} {b : Bool} (h : Cel x b) : Cel (Hm.fr x) b := by
  cases h <;> first | (rw [fr_nP]; exact .num _) | constructor
theorem Cel.vw {x : P} {b : Bool} (h : Cel x b) : Cel (Hm.vw x) b := by
  cases h <;> first | (rw [vw_nP]; exact .num _) | constructor
theorem Cel.noo {x : P} {b : Bool} (h : Cel x b) : Hm.noo x = true := by
  cases h <;> first | exact noo_nP _ | rfl
theorem is_number_no {x : P} (h : isiP "tuple" [Hm.vw x] = some (.bl false)) (hn : Hm.noo (Hm.vw x) = true) : g_is_number [x] = .ok (.bl false) [] := by
  unfold g_is_number w_is_number
  walk_at "go"
theorem law_is_number_no {x : P} (h : isiP "tuple" [Hm.vw x] = some (.bl false)) (hn : Hm.noo (Hm.vw x) = true) : g_law_is_number [x] = .ok (.bl false) [] := by
  unfold g_law_is_number w_law_is_number
  walk_at "go"
theorem whole_bl : g_is_whole [.bl true] = .ok (.bl false) [] := by
  have e1 : isiP "int" [.bl true] = some (.bl true) := rfl
  have e2 : isiP "bool" [.bl true] = some (.bl true) := rfl
  unfold g_is_whole w_is_whole
  walk_at "go"
theorem Cel.is {x : P} {b : Bool} (h : Cel x b) : g_is_number [x] = .ok (.bl b) [] := by
  have w := is_whole_ok
  have w2 := whole_bl
  have it : ∀ xs, isiP "tuple" [.tup xs] = some (.bl true) := fun _ => rfl
  have c := common_ok 4 2
  have c2 : eqQ (P.int 2) (.int 1) = some false := rfl
  cases h with
  | num q => exact is_number_ok q
  | non => exact is_number_no rfl rfl
  | one => exact is_number_no rfl rfl
  | s0 => exact is_number_no rfl rfl
  | l01 k => exact is_number_no rfl rfl
  | emp k => exact is_number_no rfl rfl
  | t10 =>
    clear c
    unfold g_is_number w_is_number
    walk_at "go"
  | t24 =>
    have c : g_common [.int 4, .int 2] = .ok (.int 2) [] := c
    unfold g_is_number w_is_number
    walk_at "go"
  | tt1 =>
    clear c
    unfold g_is_number w_is_number
    walk_at "go"
  | t0m =>
    clear c
    unfold g_is_number w_is_number
    walk_at "go"
  | t011 =>
    clear c
    unfold g_is_number w_is_number
    walk_at "go"
  | et =>
    clear c
    unfold g_is_number w_is_number
    walk_at "go"
theorem Cel.law {x : P} {b : Bool} (h : Cel x b) : g_law_is_number [x] = .ok (.bl b) [] := by
  have it : ∀ xs, isiP "tuple" [.tup xs] = some (.bl true) := fun _ => rfl
  have ii : ∀ i, isiP "int" [.int i] = some (.bl true) := fun _ => rfl
  have ib : ∀ i, isiP "bool" [.int i] = some (.bl false) := fun _ => rfl
  have bi : isiP "int" [.bl true] = some (.bl true) := rfl
  have bb : isiP "bool" [.bl true] = some (.bl true) := rfl
  have l : g_law_low [.int 2, .int 4] = .ok (.tup [.int 1, .int 2]) [] := by
    have := law_low_ok 2 (b := 4) (by decide)
    rw [nP_mk (by decide)] at this
    exact this
  have c2 : eqQ (P.tup [.int 1, .int 2]) (.tup [.int 2, .int 4]) = some false := by decide +kernel
  cases h with
  | num q => exact law_is_number_ok q
  | non => exact law_is_number_no rfl rfl
  | one => exact law_is_number_no rfl rfl
  | s0 => exact law_is_number_no rfl rfl
  | l01 k => exact law_is_number_no rfl rfl
  | emp k => exact law_is_number_no rfl rfl
  | t10 =>
    unfold g_law_is_number w_law_is_number
    walk_at "un"
  | t24 =>
    unfold g_law_is_number w_law_is_number
    walk_at "un"
  | tt1 =>
    unfold g_law_is_number w_law_is_number
    walk_at "un"
  | t0m =>
    unfold g_law_is_number w_law_is_number
    walk_at "un"
  | t011 =>
    unfold g_law_is_number w_law_is_number
    walk_at "un"
  | et =>
    unfold g_law_is_number w_law_is_number
    walk_at "un"
abbrev Cs := List (P × Bool)
def cP (cs : Cs) : List P := cs.map (·.1)
def CsOk (cs : Cs) : Prop := ∀ c ∈ cs, Cel c.1 c.2
def cFr (cs : Cs) : Cs := cs.map fun c => (Hm.fr c.1, c.2)
def cVw (cs : Cs) : Cs := cs.map fun c => (Hm.vw c.1, c.2)
theorem CsOk.fr {cs : Cs} (h : CsOk cs) : CsOk (cFr cs) := fun c hc => by
  obtain ⟨d, hd, rfl⟩ := List.mem_map.mp hc
  exact (h d hd).fr
theorem CsOk.vw {cs : Cs} (h : CsOk cs) : CsOk (cVw cs) := fun c hc => by
  obtain ⟨d, hd, rfl⟩ := List.mem_map.mp hc
  exact (h d hd).vw
theorem frs_cP : ∀ cs : Cs, frs (cP cs) = cP (cFr cs)
  | [] => rfl
  | c :: cs => by
    show Hm.fr c.1 :: frs (cP cs) = Hm.fr c.1 :: cP (cFr cs)
    rw [frs_cP cs]
theorem vws_cP : ∀ cs : Cs, vws (cP cs) = cP (cVw cs)
  | [] => rfl
  | c :: cs => by
    show Hm.vw c.1 :: vws (cP cs) = Hm.vw c.1 :: cP (cVw cs)
    rw [vws_cP cs]
theorem noos_cP : ∀ {cs : Cs}, CsOk cs → noos (cP cs) = true
  | [], _ => rfl
  | c :: cs, h => by
    show (Hm.noo c.1 && noos (cP cs)) = true
    rw [(h c List.mem_cons_self).noo, noos_cP fun d hd => h d (List.mem_cons_of_mem _ hd)]
    rfl
theorem cP_len {cs : Cs} : (cP cs).length = cs.length := List.length_map ..
theorem cFr_all {cs : Cs} : (cFr cs).all (·.2) = cs.all (·.2) := by
  unfold cFr
  rw [List.all_map]
  rfl
theorem cVw_all {cs : Cs} : (cVw cs).all (·.2) = cs.all (·.2) := by
  unfold cVw
  rw [List.all_map]
  rfl
theorem cFr_len {cs : Cs} : (cFr cs).length = cs.length := List.length_map ..
theorem cVw_len {cs : Cs} : (cVw cs).length = cs.length := List.length_map ..
theorem isrow_go {A M : P} : ∀ {cs : Cs}, CsOk cs → ∀ o, ∃ o', vFrGo (vgV 2) w_is_row_f1 (cP cs) [some A, some M, o] = if cs.all (·.2) then .nx [some A, some M, o'] else .rt (.bl false) [some A, some M, o']
  | [], _, o => ⟨o, rfl⟩
  | (x, b) :: cs, h, o => by
    have hx := h (x, b) List.mem_cons_self
    have e1 : g_is_number [Hm.fr (Hm.vw x)] = .ok (.bl b) [] := hx.vw.fr.is
    have n1 : Hm.noo (Hm.vw x) = true := hx.vw.noo
    have hb : w_is_row_f1 [some A, some M, some x] = if b then .nx [some A, some M, some x] else .rt (.bl false) [some A, some M, some x] := by
      clear h hx
      unfold w_is_row_f1
      cases b <;> walk_at "go"
    show ∃ o', (match w_is_row_f1 [some A, some M, some x] with
      | .nx ρ2 => vFrGo (vgV 2) w_is_row_f1 (cP cs) ρ2
      | .ct ρ2 => vFrGo (vgV 2) w_is_row_f1 (cP cs) ρ2
      | .bk ρ2 => .nx ρ2
      | y => y) = _
    rw [hb]
    cases b with
    | false => exact ⟨some x, rfl⟩
    | true =>
      obtain ⟨o', e⟩ := isrow_go (A := A) (M := M) (cs := cs) (fun d hd => h d (List.mem_cons_of_mem _ hd)) (some x)
      exact ⟨o', e⟩
theorem is_row_c {cs : Cs} (h : CsOk cs) (hl : cs.length ≤ 1000) (k : Bool) (m : Int) : g_is_row [.nd k .lst (cP cs), .int m] = .ok (.bl (decide ((cs.length : Int) = m) && cs.all (·.2))) [] := by
  have il : ∀ k xs, isiP "list" [.nd k .lst xs] = some (.bl true) := fun _ _ => rfl
  have z : (cs.length ≤ sizeLine) = True := size_le (by omega)
  have v1 := vws_cP cs
  have l1 : (cP (cVw cs)).length = cs.length := by rw [cP_len, cVw_len]
  have l2 : (cP cs).length = cs.length := cP_len
  have n1 := noos_cP h
  have n2 := noos_cP h.vw
  obtain ⟨o', e⟩ := isrow_go (A := .nd k .lst (cP cs)) (M := .int m) h.fr none
  rw [cFr_all] at e
  have f1 := frs_cP cs
  by_cases c : (cs.length : Int) = m
  · have c1 : decide ((cs.length : Int) = m) = true := decide_eq_true c
    rw [c1, Bool.true_and]
    cases hb : cs.all (·.2) with
    | true =>
      rw [hb] at e
      clear hl h hb c1
      subst c
      unfold g_is_row w_is_row
      walk_at "go"
    | false =>
      rw [hb] at e
      clear hl h hb c1
      subst c
      unfold g_is_row w_is_row
      walk_at "go"
  · have c1 : decide ((cs.length : Int) = m) = false := decide_eq_false c
    rw [c1, Bool.false_and]
    clear hl h e c1
    unfold g_is_row w_is_row
    walk_at "go"
theorem law_row_c {cs : Cs} (h : CsOk cs) (hl : cs.length ≤ 1000) (k : Bool) (m : Int) : g_law_is_row [.nd k .lst (cP cs), .int m] = .ok (.bl (decide ((cs.length : Int) = m) && cs.all (·.2))) [] := by
  have il : ∀ k xs, isiP "list" [.nd k .lst xs] = some (.bl true) := fun _ _ => rfl
  have z : (cs.length ≤ sizeLine) = True := size_le (by omega)
  have v1 := vws_cP cs
  have l1 : (cP (cVw cs)).length = cs.length := by rw [cP_len, cVw_len]
  have l2 : (cP cs).length = cs.length := cP_len
  have n1 := noos_cP h
  have n2 := noos_cP h.vw
  have n3 := noos_cP h.vw.vw
  have v2 := vws_cP (cVw cs)
  have e : ∀ A : Option P, vlcGo (.nm 2) vYes0 (vCll0 g_law_is_number (vK (vV 2) vN)) [2] (cP (cFr (cVw cs))) [A, some (.int m), none] = .ok (cs.map fun c => .bl c.2) [A, some (.int m), none] := fun A => by
    have hv := h.vw.fr
    have : (cs.map fun c => P.bl c.2) = (cFr (cVw cs)).map fun c => P.bl c.2 := by
      unfold cVw cFr
      rw [List.map_map, List.map_map]
      rfl
    rw [this]
    unfold cP
    refine vlcGo_as (τ := fun c : P × Bool => c.1) (fun c => .bl c.2) (cFr (cVw cs)) fun c hc => ?_
    obtain ⟨x, b⟩ := c
    have hx : Cel x b := hv _ hc
    have e1 := hx.fr.law
    have e2 := hx.noo
    refine ⟨[A, some (.int m), some x], _, [A, some (.int m), some x], rfl, rfl, ?_, rfl⟩
    clear this hv hc hx h z l1 l2 n1 n2 n3 v1 v2 hl
    walk_at "go"
  have f1 := frs_cP (cVw cs)
  have l3 : (cP (cFr (cVw cs))).length = cs.length := by rw [cP_len, cFr_len, cVw_len]
  have ha : allP [.own (cs.map fun c => P.bl c.2)] = some (.bl (cs.all (·.2))) := by
    have := allP_b (k := true) (cs.map (·.2))
    rw [List.map_map, List.all_map] at this
    exact this
  have lm : (cs.map fun c => P.bl c.2).length = cs.length := List.length_map ..
  by_cases c : (cs.length : Int) = m
  · have c1 : decide ((cs.length : Int) = m) = true := decide_eq_true c
    rw [c1, Bool.true_and]
    clear hl h c1
    subst c
    unfold g_law_is_row w_law_is_row
    walk_at "go"
  · have c1 : decide ((cs.length : Int) = m) = false := decide_eq_false c
    rw [c1, Bool.false_and]
    clear hl h c1 e
    unfold g_law_is_row w_law_is_row
    walk_at "go"
theorem told_c {cs : Cs} (h : CsOk cs) (hl : cs.length ≤ 1000) (k : Bool) (m : Int) : g_law_told [.nd k .lst (cP cs), .int m] = .ok (.bl true) [] := by
  have e1 := fun k => is_row_c h.vw.fr (by rw [cFr_len, cVw_len]; exact hl) k m
  have e2 := fun k => law_row_c h.vw.fr (by rw [cFr_len, cVw_len]; exact hl) k m
  rw [cFr_len, cFr_all, cVw_len, cVw_all] at e1 e2
  have f1 := frs_cP (cVw cs)
  have v1 := vws_cP cs
  have n1 := noos_cP h
  have n2 := noos_cP h.vw
  have n3 := noos_cP h.vw.vw
  have v2 := vws_cP (cVw cs)
  have ib : ∀ b, isiP "bool" [.bl b] = some (.bl true) := fun _ => rfl
  have qb : ∀ b, eqQ (.bl b) (.bl b) = some true := fun b => by cases b <;> decide +kernel
  clear h hl
  generalize (decide ((cs.length : Int) = m) && cs.all (·.2)) = B at *
  unfold g_law_told w_law_told
  walk_at "go"
theorem told_no {x : P} {m : Int} (h1 : isiP "list" [Hm.vw (Hm.vw x)] = some (.bl false)) (h2 : Hm.noo (Hm.vw x) = true) (h3 : Hm.fr (Hm.vw x) = Hm.vw x) (h4 : Hm.noo (Hm.vw (Hm.vw x)) = true) : g_law_told [x, .int m] = .ok (.bl true) [] := by
  have e1 : g_is_row [Hm.vw x, .int m] = .ok (.bl false) [] := by
    unfold g_is_row w_is_row
    walk_at "go"
  have e2 : g_law_is_row [Hm.vw x, .int m] = .ok (.bl false) [] := by
    unfold g_law_is_row w_law_is_row
    walk_at "go"
  have ib : ∀ b, isiP "bool" [.bl b] = some (.bl true) := fun _ => rfl
  have qb : ∀ b, eqQ (.bl b) (.bl b) = some true := fun b => by cases b <;> decide +kernel
  unfold g_law_told w_law_told
  walk_at "go"
inductive ThF : P → Prop
  | cs (k : Bool) (cs : Cs) (h : CsOk cs) (hl : cs.length ≤ 1000) : ThF (.nd k .lst (cP cs))
  | tup (xs : List Rat) : ThF (.tup (nPs xs))
  | non : ThF .non
  | str (s : Str) : ThF (.str s)
  | int (i : Int) : ThF (.int i)
  | bl (b : Bool) : ThF (.bl b)
  | dc (k : Bool) : ThF (.nd k (.dic []) [])
theorem ThF.fr {y : P} (h : ThF y) : ThF (Hm.fr y) := by
  cases h with
  | cs k cs h hl =>
    show ThF (.nd k .lst (frs (cP cs)))
    rw [frs_cP]
    exact .cs k _ h.fr (by rw [cFr_len]; exact hl)
  | tup xs =>
    show ThF (.tup (frs (nPs xs)))
    rw [frs_nPs]
    exact .tup xs
  | non => exact .non
  | str s => exact .str s
  | int i => exact .int i
  | bl b => exact .bl b
  | dc k => exact .dc k
theorem ThF.vw {y : P} (h : ThF y) : ThF (Hm.vw y) := by
  cases h with
  | cs k cs h hl =>
    show ThF (.nd false .lst (vws (cP cs)))
    rw [vws_cP]
    exact .cs _ _ h.vw (by rw [cVw_len]; exact hl)
  | tup xs =>
    show ThF (.tup (vws (nPs xs)))
    rw [vws_nPs]
    exact .tup xs
  | non => exact .non
  | str s => exact .str s
  | int i => exact .int i
  | bl b => exact .bl b
  | dc k => exact .dc _
theorem ThF.noo {y : P} (h : ThF y) : Hm.noo y = true := by
  cases h with
  | cs k cs h hl => exact noos_cP h
  | tup xs => exact noos_nPs xs
  | non => rfl
  | str s => rfl
  | int i => rfl
  | bl b => rfl
  | dc k => rfl
theorem ThF.told {y : P} (h : ThF y) (m : Int) : g_law_told [y, .int m] = .ok (.bl true) [] := by
  cases h with
  | cs k cs h hl => exact told_c h hl k m
  | tup xs => exact told_no (by rw [Hm.vw, Hm.vw, vws_nPs, vws_nPs]; rfl) (by rw [Hm.vw, vws_nPs]; exact noos_nPs xs) (by rw [Hm.vw, vws_nPs, Hm.fr, frs_nPs]) (by rw [Hm.vw, Hm.vw, vws_nPs, vws_nPs]; exact noos_nPs xs)
  | non => exact told_no rfl rfl rfl rfl
  | str s => exact told_no rfl rfl rfl rfl
  | int i => exact told_no rfl rfl rfl rfl
  | bl b => exact told_no rfl rfl rfl rfl
  | dc k => exact told_no rfl rfl rfl rfl
def cw (p : Nat) (w : List Rat) (R : Gr) : List Rat := List.zipWith (fun c r => r.getD p 0 / c) w R
def uw (y w : List Rat) (R : Gr) : List Rat := List.zipWith (fun c r => rDot y r / c) w R
def wR (n p : Nat) (w : List Rat) (M L : Gr) : Nat → List Rat
  | 0 => nul n
  | t + 1 => addPuts (wR n p w M L t) (cw p w (L.map (pw M t))) (L.map (pw M t))
def wGr (n : Nat) (w : List Rat) (M L : Gr) (T : Nat) : Gr := (List.range n).map fun p => wR n p w M L T
def lG (y w : List Rat) (M L : Gr) : Nat → Gr
  | 0 => []
  | t + 1 => uw y w (L.map (pw M t)) :: lG y w M L t
theorem uw_len {y w : List Rat} {R : Gr} (h : w.length = R.length) : (uw y w R).length = R.length := by unfold uw; rw [List.length_zipWith]; omega
theorem lG_len {y w : List Rat} {M L : Gr} : ∀ {T : Nat}, (lG y w M L T).length = T
  | 0 => rfl
  | T + 1 => by unfold lG; rw [List.length_cons, lG_len]
theorem lG_wide {y w : List Rat} {M L : Gr} (h : w.length = L.length) : ∀ {T : Nat}, Wide L.length (lG y w M L T)
  | 0 => fun _ hr => nomatch hr
  | T + 1 => fun r hr => by
    unfold lG at hr
    rcases List.mem_cons.mp hr with rfl | hr
    · rw [uw_len (by rw [List.length_map]; exact h), List.length_map]
    · exact lG_wide h r hr
section
variable {n : Nat} {w : List Rat} {M L : Gr} (hM : M.length = n) (hL : Wide n L)
include hM hL
end
section
variable {n T : Nat} {w : List Rat} {M L : Gr} (hM : M.length = n) (hL : Wide n L) (hw : w.length = L.length) (hp : ∀ c ∈ w, 0 < c)
include hM hL hw hp
end
structure Wt (w : List Rat) : Prop where
  pos : ∀ c ∈ w, 0 < c
  bd : Bd 11 w
theorem Wt.tail {c : Rat} {w : List Rat} (h : Wt (c :: w)) : Wt w := ⟨fun d hd => h.pos d (List.mem_cons_of_mem _ hd), fun d hd => h.bd d (List.mem_cons_of_mem _ hd)⟩
section
variable {n X d : Nat} {M L U : Gr} {w : List Rat}
end
section
variable {n T : Nat} {a b b2 : Bool} {w : List Rat} {M L : Gr}
end
section
variable {n X d T : Nat} {M L U : Gr} {w y : List Rat}
end
def LeastBy (n : Nat) (w : List Rat) (M L : Gr) (s g : List Rat) (T B : Nat) (v : P) : Prop :=
  (∃ y, v = .tup [.str "never", .own (nPs y)] ∧ y.length = n ∧ (∀ r ∈ adF M L T, rDot y r = 0) ∧ rDot y (rSub g (pw M T s)) = 1 ∧ Pm B y) ∨
  (∃ y, v = .tup [.str "puts", nP (eff w (lG y w M L T)), .nd true .lst (gPs true (lG y w M L T)), .own (nPs y)] ∧ y.length = n ∧ ends M L s (lG y w M L T) = g ∧ Pm B y ∧
    ∀ i, (hi : i < (wGr n w M L T).length) → rDot (wGr n w M L T)[i] y = (rSub g (pw M T s)).getD i 0)
section
variable {n T : Nat} {w y s g : List Rat} {M L V : Gr} (hM : M.length = n) (hL : Wide n L) (hw : w.length = L.length) (hp : ∀ c ∈ w, 0 < c) (ls : s.length = n) (hU : ends M L s (lG y w M L T) = g) (lV : V.length = T) (wV : Wide L.length V) (hV : ends M L s V = g)
include hM hL hw hp ls hU lV wV hV
end
section
variable {A B : Nat} {k k2 k3 k4 k5 : Bool}
end
theorem LeastBy.puts {n T B : Nat} {w : List Rat} {M L : Gr} {s g : List Rat} {v : P} (W : LeastBy n w M L s g T B v) (h : ∀ φ, Lin n φ → Kr φ (adF M L T) → φ (rSub g (pw M T s)) = 0) :
    ∃ y, v = .tup [.str "puts", nP (eff w (lG y w M L T)), .nd true .lst (gPs true (lG y w M L T)), .own (nPs y)] ∧ y.length = n ∧ ends M L s (lG y w M L T) = g ∧ Pm B y ∧
    ∀ i, (hi : i < (wGr n w M L T).length) → rDot (wGr n w M L T)[i] y = (rSub g (pw M T s)).getD i 0 := by
  rcases W with ⟨y, rfl, h1, h2, h3, _⟩ | W
  · have := h (rDot y) (lin_rDot n y) h2
    rw [h3] at this
    exact absurd this (by decide)
  · exact W
section
variable {n T : Nat} {s g : List Rat} {M L V Q : Gr} (hM : M.length = n) (hL : Wide n L) (ls : s.length = n) (lV : V.length = T) (lQ : Q.length = T) (wV : Wide L.length V) (wQ : Wide L.length Q) (hV : ends M L s V = g) (hQ : ends M L s Q = g)
include hM hL ls lV lQ wV wQ hV hQ
end
section
variable {n T : Nat} {w y y' g g' : List Rat} {M L : Gr} (hM : M.length = n) (hL : Wide n L) (hw : w.length = L.length) (hp : ∀ c ∈ w, 0 < c) (h : ends M L (nul n) (lG y w M L T) = g) (h' : ends M L (nul n) (lG y' w M L T) = g')
include hM hL hw hp h h'
end
def LeastW (n : Nat) (w : List Rat) (M L : Gr) (s g : List Rat) (T B : Nat) (v : P) : Prop :=
  (∃ y, v = .tup [.str "never", .own (nPs y)] ∧ y.length = n ∧ (∀ r ∈ adF M L T, rDot y r = 0) ∧ rDot y (rSub g (pw M T s)) = 1 ∧ Pm B y) ∨
  (∃ y, v = .tup [.str "puts", nP (eff w (lG y w M L T)), .own (oPs true (lG y w M L T)), .own (nPs y)] ∧ y.length = n ∧ ends M L s (lG y w M L T) = g ∧ Pm B y ∧
    ∀ i, (hi : i < (wGr n w M L T).length) → rDot (wGr n w M L T)[i] y = (rSub g (pw M T s)).getD i 0)
theorem LeastW.puts {n T B : Nat} {w : List Rat} {M L : Gr} {s g : List Rat} {v : P} (W : LeastW n w M L s g T B v) (h : ∀ φ, Lin n φ → Kr φ (adF M L T) → φ (rSub g (pw M T s)) = 0) :
    ∃ y, v = .tup [.str "puts", nP (eff w (lG y w M L T)), .own (oPs true (lG y w M L T)), .own (nPs y)] ∧ y.length = n ∧ ends M L s (lG y w M L T) = g ∧ Pm B y ∧
    ∀ i, (hi : i < (wGr n w M L T).length) → rDot (wGr n w M L T)[i] y = (rSub g (pw M T s)).getD i 0 := by
  rcases W with ⟨y, rfl, h1, h2, h3, _⟩ | W
  · have := h (rDot y) (lin_rDot n y) h2
    rw [h3] at this
    exact absurd this (by decide)
  · exact W
section
variable {p : P}
end
section
variable {n X d B C : Nat} {M L U P' : Gr} {w y : List Rat} {k k2 k3 k4 a b1 c a2 b2 c2 : Bool}
end
section
variable {n X d : Nat} {M L U : Gr} {w s g : List Rat} {k k1 k2 k3 a b1 c a2 b2 c2 : Bool}
end
theorem LeastW.told {n T B : Nat} {w : List Rat} {M L : Gr} {s g : List Rat} {v : P} (W : LeastW n w M L s g T B v) (lw : w.length = L.length) (hT : T ≤ 100) (l4 : L.length ≤ 100) (n8 : n ≤ 100) : Tld 6 v := by
  rcases W with ⟨y, rfl, y1, _⟩ | ⟨y, rfl, y1, _⟩
  · refine Tlds.tup ?_ (by show (2 : Nat) ≤ sizeLine; exact Nat.le_of_lt (lt_line (by decide)))
    exact .cons (.str (by decide +kernel)) (.cons (.row (lt_line (by omega))) .nil)
  · refine Tlds.tup ?_ (by show (4 : Nat) ≤ sizeLine; exact Nat.le_of_lt (lt_line (by decide)))
    exact .cons (.str (by decide +kernel)) (.cons .num (.cons (.grid (lt_line (by rw [lG_len]; exact hT)) fun r hr => lt_line (by rw [lG_wide lw r hr]; exact l4)) (.cons (.row (lt_line (by omega))) .nil)))
section
variable {n X d : Nat} {M L U : Gr} {w s g : List Rat} {V : Nat → P} {B : Nat} {q : Rat}
end
section
variable {n X d : Nat} {M L U : Gr} {w s g : List Rat} {V : Nat → P} {B : Nat} {q : Rat} {k k1 k2 k3 a b1 c a2 b2 c2 : Bool} {p : P}
end
section
variable {n X d B C : Nat} {M L U P' : Gr} {w y s g : List Rat} {k k1 k2 k3 k4 k5 k6 kk : Bool}
end
section
variable {n X d T : Nat} {M L U P0 : Gr} {y0 : List Rat} {k k2 k3 k4 : Bool} {p : P} {wd : Int}
end
def sm : Nat → (Nat → Rat) → Rat
  | 0, _ => 0
  | n + 1, f => sm n f + f n
abbrev Fn := Nat → Nat → Rat
def mm (n : Nat) (A B : Fn) : Fn := fun i j => sm n fun k => A i k * B k j
def dl : Fn := fun i j => if i = j then 1 else 0
def pwF (n : Nat) (A : Fn) : Nat → Fn
  | 0 => dl
  | k + 1 => mm n A (pwF n A k)
def tp (n : Nat) (A : Fn) (k : Nat) : Rat := sm n fun i => pwF n A k i i
section
variable {n : Nat} {A : Fn}
end
def Ov (D b : Nat) (q : Rat) : Prop := ∃ z : Int, q * (D : Rat) = (z : Rat) ∧ z.natAbs ≤ 2 ^ b
section
variable {D E a b n X d : Nat} {x y : Rat} {A : Fn}
theorem Ov.mono (h : Ov D a x) (e : a ≤ b) : Ov D b x :=
  let ⟨z, h1, h2⟩ := h
  ⟨z, h1, Nat.le_trans h2 (Nat.pow_le_pow_right (by decide) e)⟩
theorem Ov.zero : Ov D b 0 := ⟨0, by show (0 : Rat) * _ = 0; exact Rat.zero_mul _, by simp⟩
theorem Ov.one : Ov 1 0 1 := ⟨1, by decide +kernel, by decide⟩
theorem Ov.mul (hx : Ov D a x) (hy : Ov E b y) : Ov (D * E) (a + b) (x * y) := by
  obtain ⟨z, h1, h2⟩ := hx
  obtain ⟨w, h3, h4⟩ := hy
  refine ⟨z * w, ?_, ?_⟩
  · rw [Rat.natCast_mul, Rat.intCast_mul, ← h1, ← h3]
    grind
  · rw [Int.natAbs_mul, Nat.pow_add]
    exact Nat.mul_le_mul h2 h4
theorem Ov.neg (hx : Ov D a x) : Ov D a (0 - x) := by
  obtain ⟨z, h1, h2⟩ := hx
  refine ⟨-z, ?_, by omega⟩
  rw [Rat.intCast_neg, ← h1]
  grind
theorem Ov.up {k : Nat} (hx : Ov D a x) (hk : k ≤ 8) : Ov (D * k) (a + 3) x := by
  obtain ⟨z, h1, h2⟩ := hx
  refine ⟨z * (k : Int), ?_, ?_⟩
  · rw [Rat.natCast_mul, Rat.intCast_mul, ← h1, Rat.intCast_natCast]
    grind
  · rw [Int.natAbs_mul, Nat.pow_add]
    exact Nat.mul_le_mul h2 (by show k ≤ 8; omega)
theorem Ov.add (hx : Ov D a x) (hy : Ov D a y) : Ov D (a + 1) (x + y) := by
  obtain ⟨z, h1, h2⟩ := hx
  obtain ⟨w, h3, h4⟩ := hy
  refine ⟨z + w, ?_, ?_⟩
  · rw [Rat.intCast_add, ← h1, ← h3]
    grind
  · rw [Nat.pow_succ]
    omega
theorem Ov.sm' {f : Nat → Rat} : ∀ {n : Nat}, (∀ k, k < n → Ov D a (f k)) → ∃ z : Int, sm n f * (D : Rat) = (z : Rat) ∧ z.natAbs ≤ n * 2 ^ a
  | 0, _ => ⟨0, by show (0 : Rat) * _ = 0; exact Rat.zero_mul _, by simp⟩
  | n + 1, h => by
    obtain ⟨z, h1, h2⟩ := Ov.sm' (n := n) fun k hk => h k (by omega)
    obtain ⟨w, h3, h4⟩ := h n (by omega)
    refine ⟨z + w, ?_, ?_⟩
    · rw [Rat.intCast_add, ← h1, ← h3, sm]
      grind
    · rw [Nat.succ_mul]
      omega
theorem Ov.sm {f : Nat → Rat} (h : ∀ k, k < n → Ov D a (f k)) (hn : n ≤ 8) : Ov D (a + 3) (sm n f) := by
  obtain ⟨z, h1, h2⟩ := Ov.sm' h
  refine ⟨z, h1, Nat.le_trans h2 ?_⟩
  rw [Nat.pow_add, Nat.mul_comm]
  exact Nat.mul_le_mul_left _ hn
theorem Ov.hb (h : Ov D b x) (h0 : 0 < D) (h1 : D ≤ 2 ^ b) : Hb (b + 1) x := by
  obtain ⟨z, h2, h3⟩ := h
  have e : (2 : Nat) ^ (b + 1) = 2 ^ b * 2 := Nat.pow_succ ..
  have p := Nat.two_pow_pos b
  have : Pm (b + 1) [x] := ⟨D, h0, by omega, fun q hq => by
    rw [List.mem_singleton.mp hq]
    exact ⟨z, h2, by omega⟩⟩
  exact this.bd x (List.mem_singleton.mpr rfl)
end
def en (g : Gr) : Fn := fun i j => (g.getD i []).getD j 0
section
variable {a b g M : Gr} {n w i j X d B : Nat} {c : Rat} {k k2 k3 k4 : Bool}
end
section
variable {n X d : Nat} {M L U : Gr} {k : Bool}
end
section
variable {a b M G : Gr} {n A B X d : Nat} {c : Rat} {k k2 k3 k4 : Bool}
end
section
variable {M G : Gr} {n B X d : Nat} {k k2 : Bool}
end
section
variable {M G : Gr} {n B X d : Nat} {k k2 k3 : Bool} {w : List Rat}
end
section
variable {M G : Gr} {n X d : Nat} {k k2 k3 : Bool} {w : List Rat}
end
section
variable {M L U : Gr} {n X d B : Nat} {r : List Rat} {k : Bool}
end
section
variable {M L U : Gr} {n X d B : Nat} {s w : List Rat} {k k2 k3 a a2 b1 b2 c c2 : Bool}
end
def T3 (t : Nat) (r : List Rat) : Prop := ∀ q ∈ r, ∃ a : Int, q * ((3 ^ t : Nat) : Rat) = (a : Rat) ∧ a.natAbs ≤ 9 ^ t
section
variable {n t : Nat} {r s : List Rat} {g : Gr} {p : P} {k k2 : Bool}
theorem p3s {q : Rat} : q * ((3 ^ (t + 1) : Nat) : Rat) = q * ((3 ^ t : Nat) : Rat) * 3 := by
  rw [Nat.pow_succ, Rat.natCast_mul]
  have : ((3 : Nat) : Rat) = 3 := rfl
  rw [this]
  grind
theorem p9s : 9 ^ (t + 1) = 9 ^ t * 9 := Nat.pow_succ ..
theorem T3.up (h : T3 t r) : T3 (t + 1) r := fun q hq => by
  obtain ⟨a, h1, h2⟩ := h q hq
  refine ⟨a * 3, ?_, ?_⟩
  · rw [p3s, h1, Rat.intCast_mul]
    rfl
  · rw [Int.natAbs_mul, p9s]
    exact Nat.mul_le_mul h2 (by decide)
def T3G (t : Nat) (g : Gr) : Prop := ∀ r ∈ g, T3 t r
theorem T3G.set (h : T3G t g) (h2 : T3 (t + 1) r) {i : Nat} : T3G (t + 1) (g.set i r) := fun x hx => by
  rcases List.mem_or_eq_of_mem_set hx with hx | rfl
  · exact (h x hx).up
  · exact h2
theorem T3G.id : T3G 0 (idG n) := fun r hr q hq => by
  obtain ⟨i, _, rfl⟩ := List.mem_map.mp hr
  unfold unit at hq
  rcases List.mem_or_eq_of_mem_set hq with h | rfl
  · refine ⟨0, ?_, by decide⟩
    rw [(List.mem_replicate.mp h).2]
    exact Rat.zero_mul _
  · exact ⟨1, by decide +kernel, by decide⟩
end
section
variable {n X d : Nat} {M L U R G : Gr} {s x : List Rat} {k k2 k3 k4 a a2 b1 b2 c c2 : Bool}
end
section
variable {n X d : Nat} {M L U R G Q : Gr} {s x : List Rat} {k k2 k3 k4 a a2 b1 b2 c c2 a3 a4 b3 b4 c3 c4 : Bool}
end
section
variable {n X d : Nat} {M L U R G Q : Gr} {s x : List Rat} {k k2 k3 k4 k5 k6 a a2 b1 b2 c c2 : Bool}
end
section
variable {N j B : Nat} {g0 left : Gr} {fl : List (Nat × List Rat)} {R : P} {w : Int} {k : Bool} {XS : List P}
end
section
variable {n X d : Nat} {M L U : Gr} {k k2 k3 k4 : Bool} {q : List Rat}
end
section
variable {n X d : Nat} {M L U : Gr} {k k2 k3 k4 : Bool}
end
section
variable {n X d : Nat} {M L U : Gr} {y : List Rat}
end
section
variable {r0 r1 r2 r3 r4 r5 r6 r7 : Option P}
end
section
variable {n X d : Nat} {M L U : Gr} {k a a2 b1 b2 c c2 : Bool}
end
section
variable {n X d : Nat} {M L U P Y : Gr} {x s : List Rat} {fl : List (Nat × List Rat)}
theorem Pm.sub_mul {a b f : Nat} {r : List Rat} (hx : Pm a x) (hr : Pm b r) (hl : x.length = r.length) : Pm (a + b + 1) (rSub x (rMul (x.getD f 0) r)) := by
  obtain ⟨d, d0, d1, h1⟩ := hx
  obtain ⟨e, e0, e1, h2⟩ := hr
  obtain ⟨c, c1, c2⟩ := Cm.gd h1 f
  have hlt := Nat.mul_lt_mul_of_lt_of_lt d1 e1
  rw [← Nat.pow_add] at hlt
  refine ⟨d * e, Nat.mul_pos d0 e0, Nat.lt_of_lt_of_le hlt (Nat.pow_le_pow_right (by decide) (by omega)), fun q hq => ?_⟩
  obtain ⟨i, hi, rfl⟩ := List.getElem_of_mem hq
  have hi2 := hi
  rw [rSub_len, rMul_len] at hi2
  have ee : (rSub x (rMul (x.getD f 0) r))[i] = x[i]'(by omega) - x.getD f 0 * r[i]'(by omega) := by
    simp only [rSub, rMul, List.getElem_zipWith, List.getElem_map]
  rw [ee]
  obtain ⟨u, u1, u2⟩ := h1 _ (List.getElem_mem (show i < x.length by omega))
  obtain ⟨v, v1, v2⟩ := h2 _ (List.getElem_mem (show i < r.length by omega))
  refine ⟨u * (e : Int) - c * v, ?_, ?_⟩
  · rw [Rat.intCast_sub, Rat.intCast_mul, Rat.intCast_mul, ← u1, ← v1, ← c1, Rat.natCast_mul, Rat.intCast_natCast]
    grind
  · have t1 := Int.natAbs_sub_le (u * (e : Int)) (c * v)
    have t2 : (u * (e : Int)).natAbs < 2 ^ a * 2 ^ b := by
      rw [Int.natAbs_mul, Int.natAbs_natCast]
      exact Nat.mul_lt_mul_of_lt_of_lt u2 e1
    have t3 : (c * v).natAbs < 2 ^ a * 2 ^ b := by
      rw [Int.natAbs_mul]
      exact Nat.mul_lt_mul_of_lt_of_lt c2 v2
    rw [Nat.pow_succ, Nat.pow_add]
    omega
end
section
variable {n X d : Nat} {M L U Q Y : Gr} {x s : List Rat} {fl : List (Nat × List Rat)} {k k2 k3 k4 k5 : Bool}
variable {G4 : Gr} {q5 : List Rat} {word : Str}
end
section
variable {n X d : Nat} {M L U Q Y : Gr} {x s ws : List Rat} {k k2 k3 k4 k5 : Bool}
end
section
variable {n X d : Nat} {M L U Q Y : Gr} {x s ws : List Rat} {k k2 k3 k4 k5 k6 k7 a a2 b1 b2 c c2 : Bool} {p : P} {w : Int} {fl : List (Nat × List Rat)}
end
section
variable {n X d : Nat} {M L U Q Y : Gr} {x s ws : List Rat} {k k2 k3 k4 k5 k6 k7 a a2 b1 b2 c c2 : Bool} {p : P} {w : Int}
end
section
variable {n X d : Nat} {M L U Q Y : Gr} {x s ws : List Rat} {k k2 k3 k4 k5 k6 k7 a a2 b1 b2 c c2 : Bool} {p : P} {w : Int}
end
section
variable {n X d : Nat} {M L U Q Y : Gr} {x s ws : List Rat} {k k2 k3 k4 k5 k6 k7 a a2 b1 b2 c c2 : Bool} {p : P} {w : Int}
end
section
variable {n X d : Nat} {M L U Q Y : Gr} {x s ws : List Rat} {k k2 k3 k4 k5 k6 k7 a a2 b1 b2 c c2 : Bool} {p : P} {w : Int}
end
section
variable {n X d : Nat} {M L U Q Y : Gr} {x s ws : List Rat} {k k2 k3 k4 k5 k6 k7 a a2 b1 b2 c c2 : Bool} {p : P} {w : Int}
end
section
variable {n X d : Nat} {M L U R W : Gr} {k k2 k3 : Bool} {p : P} {g : List Rat}
end
structure Ppr (n : Nat) (R W : Gr) : Prop where
  wide : Wide n R
  len : R.length ≤ 9
  pm : PmG 30000 R
  bw : BdG 4000000 W
  lw : W.length ≤ 10
  ww : ∀ w ∈ W, w.length ≤ 10
section
variable {n X d : Nat} {M L U R W : Gr} {k k2 k3 k4 k5 k6 k7 a a2 b1 b2 c c2 : Bool} {p : P} {g : List Rat}
theorem Ppr.at_ (S : Ppr n R W) {i : Nat} (hi : i < R.length) : R.getD i [] ∈ R := by
  rw [gr_getD hi]
  exact List.getElem_mem _
end
section
variable {n X d : Nat} {M L U R W : Gr} {k k2 k3 k4 k5 k6 k7 a a2 b1 b2 c c2 : Bool} {p : P} {g : List Rat}
end
structure Tol (n : Nat) (R W : Gr) : Prop where
  wide : Wide n R
  n8 : n ≤ 8
  len : R.length ≤ 8
  pm : PmG 22000 R
  lw : W.length = R.length
  ww : Wide R.length W
  bw : BdG 400500 W
section
variable {n X d : Nat} {M L U R W : Gr} {k k2 k3 k4 k5 k6 k7 a a2 b1 b2 c c2 : Bool} {p : P} {g : List Rat}
theorem Tol.ppr (T : Tol n R W) : Ppr n R W := ⟨T.wide, by have := T.len; omega, fun r hr => Pm.mono (T.pm r hr) (by decide), T.bw.mono (by decide), by have := T.len; have := T.lw; omega, fun w hw => by have := T.ww w hw; have := T.len; omega⟩
end
section
variable {n X d : Nat} {M L U R W Y : Gr} {k k2 k3 k4 k5 k6 k7 a a2 b1 b2 c c2 : Bool} {p : P} {g : List Rat}
theorem Tol.rows (T : Tol n R W) {R' : Gr} (h : ∀ r ∈ R', r.length = n ∧ Pm 22010 r) (l : R'.length ≤ 9) : Ppr n R' W := ⟨fun r hr => (h r hr).1, l, fun r hr => (h r hr).2.mono (by decide), T.ppr.bw, T.ppr.lw, T.ppr.ww⟩
end
def PpP (n : Nat) (x : P) : Prop := nob x = true ∧ ∃ a b c d R W, fr x = .tup [.nd a .lst (gPs b R), .nd c .lst (gPs d W)] ∧ Ppr n R W
mutual
theorem fr_frW : ∀ p : P, fr (fr p) = fr p
  | .tup xs => by rw [fr, fr, frs_frsW xs]
  | .nd k sh xs => by rw [fr, fr, frs_frsW xs]
  | .ow k sh xs => by rw [fr, fr, frs_frsW xs]
  | .non => rfl
  | .bl _ => rfl
  | .int _ => rfl
  | .str _ => rfl
  | .scr _ => rfl
  | .hol => rfl
theorem frs_frsW : ∀ ps : List P, frs (frs ps) = frs ps
  | [] => rfl
  | p :: ps => by rw [frs, frs, fr_frW p, frs_frsW ps]
end
mutual
theorem nob_frW : ∀ p : P, nob (fr p) = nob p
  | .tup xs => by rw [fr, nob, nob, nobs_frsW xs]
  | .nd k sh xs => by rw [fr, nob, nob, nobs_frsW xs]
  | .ow k sh xs => by rw [fr, nob, nob, nobs_frsW xs]
  | .non => rfl
  | .bl _ => rfl
  | .int _ => rfl
  | .str _ => rfl
  | .scr _ => rfl
  | .hol => rfl
theorem nobs_frsW : ∀ ps : List P, nobs (frs ps) = nobs ps
  | [] => rfl
  | p :: ps => by rw [frs, nobs, nobs, nob_frW p, nobs_frsW ps]
end
section
variable {n X d : Nat} {M L U R W Y : Gr} {k k2 k3 k4 k5 k6 k7 a a2 b1 b2 c c2 : Bool} {p : P} {g : List Rat} {xs ys : List P}
theorem PpP.ff {x : P} (h : PpP n x) : PpP n (fr x) := by
  obtain ⟨h0, a, b, c, d, R, W, e, hp⟩ := h
  exact ⟨by rw [nob_frW, h0], a, b, c, d, R, W, by rw [fr_frW, e], hp⟩
theorem frs_memP : ∀ {xs : List P} {x : P}, x ∈ frs xs → ∃ y ∈ xs, x = fr y
  | y :: xs, x, h => by
    rw [frs] at h
    rcases List.mem_cons.mp h with rfl | h
    · exact ⟨y, List.mem_cons_self, rfl⟩
    · obtain ⟨z, hz, e⟩ := frs_memP h
      exact ⟨z, List.mem_cons_of_mem _ hz, e⟩
theorem PpP.more (h : ∀ x ∈ xs, PpP n x) (h2 : ∀ x ∈ ys, PpP n x) : ∀ x ∈ frs xs ++ ys, PpP n x := fun x hx => by
  rcases List.mem_append.mp hx with hx | hx
  · obtain ⟨y, hy, rfl⟩ := frs_memP hx
    exact (h y hy).ff
  · exact h2 x hx
theorem PpP.nn (h : Ppr n R W) : PpP n (.tup [.nd true .lst (gPs true R), .nd true .lst (gPs true W)]) := ⟨by simp only [nob, nobs, nobs_gPs, Bool.and_self], true, true, true, true, R, W, by simp only [fr, frs, frs_gPs], h⟩
theorem PpP.no (h : Ppr n R W) : PpP n (.tup [.nd true .lst (gPs true R), .own (oPs true W)]) := ⟨by simp only [nob, nobs, P.own, nobs_gPs, nobs_oPs, Bool.and_self], true, true, true, true, R, W, by simp only [fr, frs, frs_gPs, P.own, frs_oPs], h⟩
theorem PpP.go (h : Ppr n R W) : PpP n (.tup [.own (gPs true R), .own (oPs true W)]) := ⟨by simp only [nob, nobs, P.own, nobs_gPs, nobs_oPs, Bool.and_self], true, true, true, true, R, W, by simp only [fr, frs, frs_gPs, P.own, frs_oPs], h⟩
end
section
variable {n X d : Nat} {M L U R W Y : Gr} {k k2 k3 k4 k5 k6 k7 a a2 b1 b2 c c2 : Bool} {p : P} {g : List Rat} {xs ys : List P}
theorem Ways.tol (h : Sk n X d M L U) (V : Ways n M (shutR n M L) W) : Tol n (shutR n M L) W :=
  ⟨nuls_wide, h.sy.n8, Nat.le_trans nuls_len h.sy.n8, (shut_pm h).1, V.len, V.wide, fun w hw => (V.pm w hw).bd⟩
theorem Ways.pah (h : Sk n X d M L U) (V : Ways n M (shutR n M L) W) {i : Nat} (hi : i < (shutR n M L).length) : Tol n (pah i (shutR n M L)) ((pah i W).map (pah i)) := by
  have T := V.tol h
  have hiW : i < W.length := by rw [V.len]; exact hi
  refine ⟨fun r hr => T.wide r (pah_mem hr), T.n8, by rw [pah_len hi]; exact T.len, fun r hr => T.pm r (pah_mem hr), by rw [List.length_map, pah_len hi, pah_len hiW]; exact V.len, fun w hw => ?_, fun w hw => ?_⟩
  · obtain ⟨w', hw', rfl⟩ := List.mem_map.mp hw
    have := T.ww w' (pah_mem hw')
    rw [pah_len hi, pah_len (by omega)]
    exact this
  · obtain ⟨w', hw', rfl⟩ := List.mem_map.mp hw
    exact fun q hq => T.bw w' (pah_mem hw') q (pah_mem hq)
end
section
variable {n X d : Nat} {M L U R W Y : Gr} {k k2 k3 k4 k5 k6 k7 a a2 b1 b2 c c2 : Bool} {p : P} {g : List Rat} {xs ys : List P}
end
section
variable {n X d : Nat} {M L U R W Y : Gr} {k k2 k3 k4 k5 k6 k7 a a2 b1 b2 c c2 : Bool} {p : P} {g : List Rat} {xs ys : List P}
end
section
variable {n X d : Nat} {M L U R W Y : Gr} {k k2 k3 k4 k5 k6 k7 a a2 b1 b2 c c2 : Bool} {p : P} {g : List Rat}
end
section
variable {n X d : Nat} {M L U R W Y : Gr} {k k2 k3 k4 k5 k6 k7 a a2 b1 b2 c c2 : Bool} {p : P} {g : List Rat}
end
def hL : Gr := [rMul 2 (eR 8 7)]
def hQ (a : Nat) : Gr := [1 / 2] :: List.replicate (7 - a) [0]
section
variable {p : P} {r0 r1 r2 r3 r4 r5 r6 r7 : Option P}
end
section
variable {n X d : Nat} {M L U : Gr} {k k2 k3 : Bool} {s g : List Rat}
end
open TL (tl numL)
def txI (i : Int) : Str := Str.ofString (toString i)
theorem tl_nat (n : Nat) : tl (txI (n : Int)) = numL n := TL.tl_num n
theorem tl_neg (n : Nat) : tl (txI (-((n + 1 : Nat) : Int))) = 45 :: numL (n + 1) := by
  have e : toString (-((n + 1 : Nat) : Int)) = "-" ++ toString ((n + 1 : Nat) : Int) := rfl
  unfold txI
  rw [e, TL.tl_ofString, String.toList_append, List.map_append]
  have := TL.tl_num (n + 1)
  rw [TL.tl_ofString] at this
  rw [this]
  rfl
theorem tl_txI (i : Int) : tl (txI i) = if 0 ≤ i then numL i.natAbs else 45 :: numL i.natAbs := by
  rcases Int.lt_or_le i 0 with h | h
  · rw [if_neg (by omega)]
    have e : i = -((i.natAbs - 1 + 1 : Nat) : Int) := by omega
    have := tl_neg (i.natAbs - 1)
    rw [← e] at this
    rw [this]
    congr 2
    omega
  · rw [if_pos h]
    have := tl_nat i.natAbs
    rw [show ((i.natAbs : Nat) : Int) = i by omega] at this
    exact this
theorem numL_head (n : Nat) (h : 10 ≤ n) : ∃ c r, numL n = c :: r ∧ c ≠ 48 := by
  induction n using Nat.strongRecOn with
  | _ n ih =>
    rw [TL.numL_step h]
    by_cases h2 : n / 10 < 10
    · rw [TL.numL_lt h2]
      exact ⟨_, _, rfl, by omega⟩
    · obtain ⟨c, r, e, hc⟩ := ih (n / 10) (by omega) (by omega)
      rw [e]
      exact ⟨c, r ++ [48 + n % 10], rfl, hc⟩
theorem numL_one (n : Nat) (h : n < 10) : numL n = [48 + n] := TL.numL_lt h
theorem numL_pos (n : Nat) : 1 ≤ (numL n).length := by
  have := TL.numL_ne n
  cases e : numL n with
  | nil => exact absurd e this
  | cons c r => simp
theorem sl_free {i : Int} : (47 : Nat) ∉ tl (txI i) := by
  rw [tl_txI]
  split
  · exact TL.numL_free (by omega)
  · intro h
    rcases List.mem_cons.mp h with h | h
    · omega
    · exact TL.numL_free (by omega) h
theorem bl_free {i : Int} : (32 : Nat) ∉ tl (txI i) := by
  rw [tl_txI]
  split
  · exact TL.numL_free (by omega)
  · intro h
    rcases List.mem_cons.mp h with h | h
    · omega
    · exact TL.numL_free (by omega) h
def Fg (q : Rat) : Prop := q.num.natAbs < 10 ^ 1000 ∧ q.den < 10 ^ 1000
def txN (q : Rat) : Str := if q.den = 1 then txI q.num else txI q.num ++ ("/" : Str) ++ txI (q.den : Int)
theorem lt_num {n : Nat} (h : n < 10 ^ 1000) : (numL n).length ≤ 1000 := TL.numL_len (by decide) h
theorem txI_len {i : Int} (h : i.natAbs < 10 ^ 1000) : (txI i).length ≤ 1001 := by
  rw [TL.len_tl, tl_txI]
  have := lt_num h
  split
  · omega
  · rw [List.length_cons]
    omega
theorem tl_cat (x y : Str) : tl (x ++ y) = tl x ++ tl y := TL.tl_append x y
theorem tl_slash : tl ("/" : Str) = [47] := by decide
theorem tl_blank : tl (" " : Str) = [32] := by decide
theorem txN_len {q : Rat} (h : Fg q) : (txN q).length ≤ 2003 := by
  unfold txN
  split
  · exact Nat.le_trans (txI_len h.1) (by omega)
  · have h1 := txI_len h.1
    have h2 := txI_len (i := (q.den : Int)) h.2
    rw [TL.len_tl, tl_cat, tl_cat, List.length_append, List.length_append, tl_slash, ← TL.len_tl, ← TL.len_tl]
    simp only [List.length_cons, List.length_nil]
    omega
theorem txN_bl {q : Rat} : (32 : Nat) ∉ tl (txN q) := by
  unfold txN
  split
  · exact bl_free
  · rw [tl_cat, tl_cat, tl_slash]
    simp only [List.mem_append, List.mem_cons, List.not_mem_nil, or_false]
    rintro ((h | h) | h)
    · exact bl_free h
    · omega
    · exact bl_free h
theorem txI_ne (i : Int) : tl (txI i) ≠ [] := by
  rw [tl_txI]
  split
  · exact TL.numL_ne _
  · simp
theorem txN_ne (q : Rat) : tl (txN q) ≠ [] := by
  unfold txN
  split
  · exact txI_ne _
  · rw [tl_cat, tl_cat, tl_slash]
    simp
theorem wr_of {i : Int} (h : i.natAbs < 10 ^ 1000) : wrC i = true := by
  refine decide_eq_true ?_
  by_cases h0 : i.natAbs = 0
  · rw [h0]
    decide
  · rw [Nat.log2_lt h0]
    refine Nat.lt_of_lt_of_le h (Nat.le_trans (Nat.pow_le_pow_left (show 10 ≤ 2 ^ 4 by decide) 1000) ?_)
    rw [← Nat.pow_mul]
    exact Nat.pow_le_pow_right (by decide) (by decide)
theorem str_ok {x : Str} (h : ∀ c ∈ tl x, c < 128) : PyData.strOk x = true := by
  unfold PyData.strOk
  rw [Array.all_eq_true']
  intro c hc
  have := h c (Array.mem_toList_iff.mpr hc)
  exact decide_eq_true (by omega)
def Asc (x : Str) : Prop := ∀ c ∈ tl x, c < 128
theorem Asc.cat {x y : Str} (hx : Asc x) (hy : Asc y) : Asc (x ++ y) := by
  intro c hc
  rw [tl_cat] at hc
  rcases List.mem_append.mp hc with h | h
  · exact hx c h
  · exact hy c h
theorem num_asc (n : Nat) : ∀ c ∈ numL n, c < 128 := fun c hc => by
  have := TL.numL_digits n c hc
  omega
theorem asc_txI (i : Int) : Asc (txI i) := by
  unfold Asc
  rw [tl_txI]
  split
  · exact num_asc _
  · intro c hc
    rcases List.mem_cons.mp hc with h | h
    · omega
    · exact num_asc _ c h
theorem asc_slash : Asc ("/" : Str) := by
  intro c hc
  rw [tl_slash] at hc
  simp at hc
  omega
theorem asc_txN (q : Rat) : Asc (txN q) := by
  unfold txN
  split
  · exact asc_txI _
  · exact ((asc_txI _).cat asc_slash).cat (asc_txI _)
theorem eqQ_str {x y : Str} (hx : Asc x) (hy : Asc y) : eqQ (.str x) (.str y) = some (decide (x = y)) := by
  rw [eqQ_dtt (by rw [dtt]; exact str_ok hx) (by rw [dtt]; exact str_ok hy)]
  congr 1
  rw [decide_eq_decide]
  constructor
  · intro h
    rw [vw, vw] at h
    cases h
    rfl
  · intro h
    rw [h]
theorem ext_of {x y : Str} (h : tl x = tl y) : x = y := TL.ext_tl h
open TL (tl numL)
theorem isi_ss (z : Str) : isiP "str" [.str z] = some (.bl true) := rfl
local macro_rules | `(tactic| trivial) => `(tactic| simp only [gnD, endV, outsV, vSq, Vt.andThen, vIf, vAs, vRt, vRn, vEx, vNx, vBad, vBk, vCt, Vr.st, Vr.bind, vBor, vBor1, vwE, vV, vMv, vFrM1, Vt.upd, vLc, wipeV, atP_0, atP_1, atP_2, atP_3, vC, vBi, vUn, vCal, vK, vN, vCll0, vCll1, vCllT, vT, vL, vTst, vTru, vNotB, vAndB, vOrB, vNotD, vAndD, vOrD, vIfD, vPr, vgV, vgC, vgT, vgN, vFr, vRng1, vRng2, vEnu, vZp, vWalk, vSet, vMeN, vMe, vAugI, vAugV, updL, subT, repT, apF, exF, isLst, pa0, paI, vSli, vNoP, vP, vYes0, subP, mulP, modP, divP, ltP, leP, gtP, geP, iiP, tr2, negP, absP, maxP, minP, intP, eqP, neP, isP, isnP, isbP, isnbP, noo, noos, nob, nobs, fr, frs, vw, vws, vi, vis, noN, noNs, nobX_none, nobX_some, Option.map_some, Option.map_none, Option.bind_some, Option.bind_none, Option.isSome_some, List.length_cons, List.length_nil, List.map_cons, List.map_nil, List.getElem?_cons_zero, List.getElem?_cons_succ, List.getElem?_nil, List.set_cons_zero, List.set_cons_succ, List.cons_append, List.nil_append, List.replicate_succ, List.replicate_zero, Nat.sub_self, Nat.reduceSub, Nat.reduceAdd, Nat.reduceLT, Nat.reduceLeDiff, Nat.zero_lt_succ, Nat.lt_add_one, Nat.zero_add, Int.reduceEq, Int.reduceLT, Int.reduceLE, if_true, if_false, Bool.false_eq_true, reduceCtorEq, ite_true, ite_false, decide_true, decide_false, not_true_eq_false, not_false_eq_true, Bool.not_true, Bool.not_false, Bool.and_true, Bool.true_and, Bool.and_self, Bool.and_false, Bool.false_and, eq_self, and_self, and_true, true_and, isNonP, noo_nP, nob_nP, noN_nP, fr_nP, vw_nP, vi_nP, noos_nPs, nobs_nPs, noNs_nPs, frs_nPs, vws_nPs, vis_nPs, noos_gPs, nobs_oPs, nobs_gPs, frs_oPs, frs_gPs, vws_oPs, vws_gPs, nPs_len, gPs_len, oPs_len, eqQ_num, eqQ_row, eqQ_grid, eqQ_int, ixP_t0, ixP_t1, ixP_t2, ixP_n0, ixP_n1, ixP_l0, ixP_l1, ixP_l2, ixP_l3, atP_n0, atP_n1, lenP_l, lenP_o, lenP_t, lenP_n, addP_ii, truP_bl, isi_tn, isi_tt, isi_ll, isi_lo, isi_lt, isi_int, isi_bool, seqP_n, seqP_l, seqP_o, seqP_t, lstP_l, lstP_o, lsP_l, lsP_o, listP_l, setF_0, setF_1, setF_2, sz0, sz1, sz2, sz3, sz4, sz5, noos_ints, nobs_ints, noNs_ints, vws_ints, vis_ints, frs_ints, Int.cast_ofNat_Int, eqQ_r1, eqQ_r2, eqQ_r3, eqQ_r4, eqQ_g1, eqQ_g2, eqQ_g3, eqQ_g4, eqQ_g5, eqQ_g6, vRv, vFz, vMth0, vFrM2, vFld, vMk, vClr, vPopI, vTk, vCll1M, noo_sys, noo_sysO, nob_sys, nob_sysO, fr_sys, fr_sysO, vw_sys, vw_sysO, fld_move, fld_put, fld_look, fld_states, fld_ins, fld_outs, has_moved, has_seen, has_turned, nobs_nat, frs_nat, vws_nat, vis_nat, noos_nat, noNs_nat, natPs_len, vSetH, vgS, ixN_10, ixN_20, ixN_21, ixN_30, ixN_31, ixN_32, vWalkS, vSme, vSliS, vJo, vjK, vjN, vgU, vChn, isi_ss])
local macro_rules | `(tactic| walk_at "go") => `(tactic| simp only [gnD, endV, outsV, vSq, Vt.andThen, vIf, vAs, vRt, vRn, vEx, vNx, vBad, vBk, vCt, Vr.st, Vr.bind, vBor, vBor1, vwE, vV, vMv, vFrM1, Vt.upd, vLc, wipeV, atP_0, atP_1, atP_2, atP_3, vC, vBi, vUn, vCal, vK, vN, vCll0, vCll1, vCllT, vT, vL, vTst, vTru, vNotB, vAndB, vOrB, vNotD, vAndD, vOrD, vIfD, vPr, vgV, vgC, vgT, vgN, vFr, vRng1, vRng2, vEnu, vZp, vWalk, vSet, vMeN, vMe, vAugI, vAugV, updL, subT, repT, apF, exF, isLst, pa0, paI, vSli, vNoP, vP, vYes0, subP, mulP, modP, divP, ltP, leP, gtP, geP, iiP, tr2, negP, absP, maxP, minP, intP, eqP, neP, isP, isnP, isbP, isnbP, noo, noos, nob, nobs, fr, frs, vw, vws, vi, vis, noN, noNs, nobX_none, nobX_some, Option.map_some, Option.map_none, Option.bind_some, Option.bind_none, Option.isSome_some, List.length_cons, List.length_nil, List.map_cons, List.map_nil, List.getElem?_cons_zero, List.getElem?_cons_succ, List.getElem?_nil, List.set_cons_zero, List.set_cons_succ, List.cons_append, List.nil_append, List.replicate_succ, List.replicate_zero, Nat.sub_self, Nat.reduceSub, Nat.reduceAdd, Nat.reduceLT, Nat.reduceLeDiff, Nat.zero_lt_succ, Nat.lt_add_one, Nat.zero_add, Int.reduceEq, Int.reduceLT, Int.reduceLE, if_true, if_false, Bool.false_eq_true, reduceCtorEq, ite_true, ite_false, decide_true, decide_false, not_true_eq_false, not_false_eq_true, Bool.not_true, Bool.not_false, Bool.and_true, Bool.true_and, Bool.and_self, Bool.and_false, Bool.false_and, eq_self, and_self, and_true, true_and, isNonP, noo_nP, nob_nP, noN_nP, fr_nP, vw_nP, vi_nP, noos_nPs, nobs_nPs, noNs_nPs, frs_nPs, vws_nPs, vis_nPs, noos_gPs, nobs_oPs, nobs_gPs, frs_oPs, frs_gPs, vws_oPs, vws_gPs, nPs_len, gPs_len, oPs_len, eqQ_num, eqQ_row, eqQ_grid, eqQ_int, ixP_t0, ixP_t1, ixP_t2, ixP_n0, ixP_n1, ixP_l0, ixP_l1, ixP_l2, ixP_l3, atP_n0, atP_n1, lenP_l, lenP_o, lenP_t, lenP_n, addP_ii, truP_bl, isi_tn, isi_tt, isi_ll, isi_lo, isi_lt, isi_int, isi_bool, seqP_n, seqP_l, seqP_o, seqP_t, lstP_l, lstP_o, lsP_l, lsP_o, listP_l, setF_0, setF_1, setF_2, sz0, sz1, sz2, sz3, sz4, sz5, noos_ints, nobs_ints, noNs_ints, vws_ints, vis_ints, frs_ints, Int.cast_ofNat_Int, eqQ_r1, eqQ_r2, eqQ_r3, eqQ_r4, eqQ_g1, eqQ_g2, eqQ_g3, eqQ_g4, eqQ_g5, eqQ_g6, vRv, vFz, vMth0, vFrM2, vFld, vMk, vClr, vPopI, vTk, vCll1M, noo_sys, noo_sysO, nob_sys, nob_sysO, fr_sys, fr_sysO, vw_sys, vw_sysO, fld_move, fld_put, fld_look, fld_states, fld_ins, fld_outs, has_moved, has_seen, has_turned, nobs_nat, frs_nat, vws_nat, vis_nat, noos_nat, noNs_nat, natPs_len, vSetH, vgS, ixN_10, ixN_20, ixN_21, ixN_30, ixN_31, ixN_32, vWalkS, vSme, vSliS, vJo, vjK, vjN, vgU, vChn, isi_ss, vTryA, Vt.unset, vIsD, vAnD, vXf, anyT, vRz0, vRz1, nobX, vTryM, vClGo, Vt.noexc, vDc, Option.map_none, Option.map_some, *])
local macro_rules | `(tactic| walk_at "un") => `(tactic| simp only [gnD, endV, outsV, vSq, Vt.andThen, vIf, vAs, vRt, vRn, vEx, vNx, vBad, vBk, vCt, Vr.st, Vr.bind, vBor, vBor1, vwE, vV, vMv, vFrM1, Vt.upd, vLc, wipeV, atP_0, atP_1, atP_2, atP_3, vC, vBi, vUn, vCal, vK, vN, vCll0, vCll1, vCllT, vT, vL, vTst, vTru, vNotB, vAndB, vOrB, vNotD, vAndD, vOrD, vIfD, vPr, vgV, vgC, vgT, vgN, vFr, vRng1, vRng2, vEnu, vZp, vWalk, vSet, vMeN, vMe, vAugI, vAugV, updL, subT, repT, apF, exF, isLst, pa0, paI, vSli, vNoP, vP, vYes0, subP, mulP, modP, divP, ltP, leP, gtP, geP, iiP, tr2, negP, absP, maxP, minP, intP, eqP, neP, isP, isnP, isbP, isnbP, noo, noos, nob, nobs, fr, frs, vw, vws, vi, vis, noN, noNs, nobX_none, nobX_some, Option.map_some, Option.map_none, Option.bind_some, Option.bind_none, Option.isSome_some, List.length_cons, List.length_nil, List.map_cons, List.map_nil, List.getElem?_cons_zero, List.getElem?_cons_succ, List.getElem?_nil, List.set_cons_zero, List.set_cons_succ, List.cons_append, List.nil_append, List.replicate_succ, List.replicate_zero, Nat.sub_self, Nat.reduceSub, Nat.reduceAdd, Nat.reduceLT, Nat.reduceLeDiff, Nat.zero_lt_succ, Nat.lt_add_one, Nat.zero_add, Int.reduceEq, Int.reduceLT, Int.reduceLE, if_true, if_false, Bool.false_eq_true, reduceCtorEq, ite_true, ite_false, decide_true, decide_false, not_true_eq_false, not_false_eq_true, Bool.not_true, Bool.not_false, Bool.and_true, Bool.true_and, Bool.and_self, Bool.and_false, Bool.false_and, eq_self, and_self, and_true, true_and, isNonP, noo_nP, nob_nP, noN_nP, fr_nP, vw_nP, vi_nP, noos_nPs, nobs_nPs, noNs_nPs, frs_nPs, vws_nPs, vis_nPs, noos_gPs, nobs_oPs, nobs_gPs, frs_oPs, frs_gPs, vws_oPs, vws_gPs, nPs_len, gPs_len, oPs_len, eqQ_num, eqQ_row, eqQ_grid, eqQ_int, ixP_t0, ixP_t1, ixP_t2, ixP_n0, ixP_n1, ixP_l0, ixP_l1, ixP_l2, ixP_l3, atP_n0, atP_n1, lenP_l, lenP_o, lenP_t, lenP_n, addP_ii, truP_bl, isi_tn, isi_tt, isi_ll, isi_lo, isi_lt, isi_int, isi_bool, seqP_n, seqP_l, seqP_o, seqP_t, lstP_l, lstP_o, lsP_l, lsP_o, listP_l, setF_0, setF_1, setF_2, sz0, sz1, sz2, sz3, sz4, sz5, noos_ints, nobs_ints, noNs_ints, vws_ints, vis_ints, frs_ints, Int.cast_ofNat_Int, eqQ_r1, eqQ_r2, eqQ_r3, eqQ_r4, eqQ_g1, eqQ_g2, eqQ_g3, eqQ_g4, eqQ_g5, eqQ_g6, vRv, vFz, vMth0, vFrM2, vFld, vMk, vClr, vPopI, vTk, vCll1M, noo_sys, noo_sysO, nob_sys, nob_sysO, fr_sys, fr_sysO, vw_sys, vw_sysO, fld_move, fld_put, fld_look, fld_states, fld_ins, fld_outs, has_moved, has_seen, has_turned, nobs_nat, frs_nat, vws_nat, vis_nat, noos_nat, noNs_nat, natPs_len, vSetH, vgS, ixN_10, ixN_20, ixN_21, ixN_30, ixN_31, ixN_32, vWalkS, vSme, vSliS, vJo, vjK, vjN, vgU, vChn, isi_ss, vAt, vlcGo, vFrGo, ptV, setAllV, vTryA, Vt.unset, vIsD, vAnD, vXf, anyT, vRz0, vRz1, nobX, vTryM, vClGo, Vt.noexc, vDc, Option.map_none, Option.map_some, *])
local macro_rules | `(tactic| walk_at "at") => `(tactic| simp only [gnD, endV, outsV, vSq, Vt.andThen, vIf, vAs, vRt, vRn, vEx, vNx, vBad, vBk, vCt, Vr.st, Vr.bind, vBor, vBor1, vwE, vV, vMv, vFrM1, Vt.upd, vLc, wipeV, atP_0, atP_1, atP_2, atP_3, vC, vBi, vUn, vCal, vK, vN, vCll0, vCll1, vCllT, vT, vL, vTst, vTru, vNotB, vAndB, vOrB, vNotD, vAndD, vOrD, vIfD, vPr, vgV, vgC, vgT, vgN, vFr, vRng1, vRng2, vEnu, vZp, vWalk, vSet, vMeN, vMe, vAugI, vAugV, updL, subT, repT, apF, exF, isLst, pa0, paI, vSli, vNoP, vP, vYes0, subP, mulP, modP, divP, ltP, leP, gtP, geP, iiP, tr2, negP, absP, maxP, minP, intP, eqP, neP, isP, isnP, isbP, isnbP, noo, noos, nob, nobs, fr, frs, vw, vws, vi, vis, noN, noNs, nobX_none, nobX_some, Option.map_some, Option.map_none, Option.bind_some, Option.bind_none, Option.isSome_some, List.length_cons, List.length_nil, List.map_cons, List.map_nil, List.getElem?_cons_zero, List.getElem?_cons_succ, List.getElem?_nil, List.set_cons_zero, List.set_cons_succ, List.cons_append, List.nil_append, List.replicate_succ, List.replicate_zero, Nat.sub_self, Nat.reduceSub, Nat.reduceAdd, Nat.reduceLT, Nat.reduceLeDiff, Nat.zero_lt_succ, Nat.lt_add_one, Nat.zero_add, Int.reduceEq, Int.reduceLT, Int.reduceLE, if_true, if_false, Bool.false_eq_true, reduceCtorEq, ite_true, ite_false, decide_true, decide_false, not_true_eq_false, not_false_eq_true, Bool.not_true, Bool.not_false, Bool.and_true, Bool.true_and, Bool.and_self, Bool.and_false, Bool.false_and, eq_self, and_self, and_true, true_and, isNonP, noo_nP, nob_nP, noN_nP, fr_nP, vw_nP, vi_nP, noos_nPs, nobs_nPs, noNs_nPs, frs_nPs, vws_nPs, vis_nPs, noos_gPs, nobs_oPs, nobs_gPs, frs_oPs, frs_gPs, vws_oPs, vws_gPs, nPs_len, gPs_len, oPs_len, eqQ_num, eqQ_row, eqQ_grid, eqQ_int, ixP_t0, ixP_t1, ixP_t2, ixP_n0, ixP_n1, ixP_l0, ixP_l1, ixP_l2, ixP_l3, atP_n0, atP_n1, lenP_l, lenP_o, lenP_t, lenP_n, addP_ii, truP_bl, isi_tn, isi_tt, isi_ll, isi_lo, isi_lt, isi_int, isi_bool, seqP_n, seqP_l, seqP_o, seqP_t, lstP_l, lstP_o, lsP_l, lsP_o, listP_l, setF_0, setF_1, setF_2, sz0, sz1, sz2, sz3, sz4, sz5, noos_ints, nobs_ints, noNs_ints, vws_ints, vis_ints, frs_ints, Int.cast_ofNat_Int, eqQ_r1, eqQ_r2, eqQ_r3, eqQ_r4, eqQ_g1, eqQ_g2, eqQ_g3, eqQ_g4, eqQ_g5, eqQ_g6, vRv, vFz, vMth0, vFrM2, vFld, vMk, vClr, vPopI, vTk, vCll1M, noo_sys, noo_sysO, nob_sys, nob_sysO, fr_sys, fr_sysO, vw_sys, vw_sysO, fld_move, fld_put, fld_look, fld_states, fld_ins, fld_outs, has_moved, has_seen, has_turned, nobs_nat, frs_nat, vws_nat, vis_nat, noos_nat, noNs_nat, natPs_len, vSetH, vgS, ixN_10, ixN_20, ixN_21, ixN_30, ixN_31, ixN_32, vWalkS, vSme, vSliS, vJo, vjK, vjN, vgU, vChn, isi_ss, vAt, vTryA, Vt.unset, vIsD, vAnD, vXf, anyT, vRz0, vRz1, nobX, vTryM, vClGo, Vt.noexc, vDc, Option.map_none, Option.map_some, *])
theorem lenP_s {z : Str} (h : z.length ≤ sizeLine) : lenP [.str z] = some (.int z.length) := if_pos h
theorem empty_cat (x : Str) : Str.empty ++ x = x := ext_of (by rw [tl_cat]; rfl)
theorem strP_i {i : Int} (h : i.natAbs < 10 ^ 1000) : strP [.int i] = some (.str (txI i)) := if_pos (wr_of h)
theorem fmtP_i {i : Int} (h : i.natAbs < 10 ^ 1000) : fmtP [.int i] = some (.str (txI i)) := if_pos (wr_of h)
theorem addP_ss {x y : Str} (h : x.length + y.length ≤ sizeLine) : addP [.str x, .str y] = some (.str (x ++ y)) := if_pos h
theorem cat_len (x y : Str) : (x ++ y).length = x.length + y.length := by
  rw [TL.len_tl, TL.len_tl, TL.len_tl, tl_cat, List.length_append]
theorem show_number_ok {q : Rat} (hq : Fg q) : g_show_number [nP q] = .ok (.str (txN q)) [] := by
  have h1 := strP_i hq.1
  have h2 := fmtP_i hq.1
  have h3 := fmtP_i (i := (q.den : Int)) hq.2
  have l1 := txI_len hq.1
  have l2 := txI_len (i := (q.den : Int)) hq.2
  have ls : ("/" : Str).length = 1 := by decide
  have sz := sizeLine_eq
  have e0 := empty_cat (txI q.num)
  have z0 : ((txI q.num).length ≤ sizeLine) = True := eq_true (by omega)
  have z1 : ((txI q.num ++ "/").length ≤ sizeLine) = True := eq_true (by rw [cat_len]; omega)
  have z2 : ((txI q.num ++ "/" ++ txI (q.den : Int)).length ≤ sizeLine) = True := eq_true (by rw [cat_len, cat_len]; omega)
  clear hq l1 l2 ls sz
  by_cases hd : q.den = 1
  · have e1 : txN q = txI q.num := if_pos hd
    have d1 : eqQ (.int (q.den : Int)) (.int 1) = some true := by rw [hd]; rfl
    rw [e1]
    clear e1 hd
    unfold g_show_number w_show_number nP
    walk_at "go"
  · have e1 : txN q = txI q.num ++ "/" ++ txI (q.den : Int) := if_neg hd
    have d1 : eqQ (.int (q.den : Int)) (.int 1) = some false := by
      rw [eqQ_int, decide_eq_false (by omega)]
    rw [e1]
    clear e1 hd
    unfold g_show_number w_show_number nP
    walk_at "go"
theorem law_number_text_ok {q : Rat} (hq : Fg q) : g_law_number_text [nP q] = .ok (.str (txN q)) [] := by
  have h1 := strP_i hq.1
  have h3 := strP_i (i := (q.den : Int)) hq.2
  have l1 := txI_len hq.1
  have l2 := txI_len (i := (q.den : Int)) hq.2
  have ls : ("/" : Str).length = 1 := by decide
  have sz := sizeLine_eq
  have z1 := addP_ss (x := txI q.num) (y := "/") (by omega)
  have z2 := addP_ss (x := txI q.num ++ "/") (y := txI (q.den : Int)) (by rw [cat_len]; omega)
  clear hq l1 l2 ls sz
  by_cases hd : q.den = 1
  · have e1 : txN q = txI q.num := if_pos hd
    have d1 : eqQ (.int (q.den : Int)) (.int 1) = some true := by rw [hd]; rfl
    rw [e1]
    clear e1 hd
    unfold g_law_number_text w_law_number_text nP
    walk_at "go"
  · have e1 : txN q = txI q.num ++ "/" ++ txI (q.den : Int) := if_neg hd
    have d1 : eqQ (.int (q.den : Int)) (.int 1) = some false := by
      rw [eqQ_int, decide_eq_false (by omega)]
    rw [e1]
    clear e1 hd
    unfold g_law_number_text w_law_number_text nP
    walk_at "go"
open TL (tl numL)
theorem ixP_s {z : Str} {c : Nat} {r : List Nat} (h : z.length ≤ sizeLine) (e : tl z = c :: r) : ixP [.str z, .int 0] = some (.str ⟨#[c]⟩) := by
  show (if z.length ≤ sizeLine then (atI z.cps.toList 0).map fun c => P.str ⟨#[c]⟩ else none) = _
  rw [if_pos h]
  have e' : z.cps.toList = c :: r := e
  rw [e']
  have := ixN_nat (n := (c :: r).length) (j := 0) (by simp)
  unfold atI
  rw [show (0 : Int) = ((0 : Nat) : Int) from rfl, this]
  rfl
theorem sg_asc {c : Nat} (h : c < 128) : Asc ⟨#[c]⟩ := by
  intro d hd
  have : d = c := by
    have e : tl ⟨#[c]⟩ = [c] := rfl
    rw [e] at hd
    exact List.mem_singleton.mp hd
  omega
theorem fig_tl : tl ("0123456789" : Str) = [48, 49, 50, 51, 52, 53, 54, 55, 56, 57] := by decide
theorem in_fig {c : Nat} (h : 48 ≤ c ∧ c ≤ 57) : inSP true [.str ⟨#[c]⟩, .str "0123456789"] = some (.bl false) := by
  show some (P.bl (if true = true then !decide (c ∈ tl ("0123456789" : Str)) else decide (c ∈ tl ("0123456789" : Str)))) = _
  rw [fig_tl, if_pos rfl, decide_eq_true]
  · rfl
  · simp only [List.mem_cons, List.not_mem_nil, or_false]
    omega
theorem figs_loop {z : Str} (h : NumText.AllDigits (tl z)) (o : Option P) : ∃ o', vFrGo (vgV 1) w_figures_of_f1 (sgP z) [some (.str z), o] = .nx [some (.str z), o'] := by
  obtain ⟨ρ', h1, o', rfl⟩ := vFrGo_run (g := vgV 1) (b := w_figures_of_f1) (xs := sgP z) (fun _ ρ => ∃ o, ρ = [some (.str z), o]) (fun i x ρ hx hρ => by
    obtain ⟨o, rfl⟩ := hρ
    unfold sgP at hx
    rw [List.getElem?_map] at hx
    cases e : z.cps.toList[i]? with
    | none => rw [e] at hx; cases hx
    | some c =>
      rw [e] at hx
      cases hx
      have hc := in_fig (h c (List.mem_of_getElem? e))
      refine ⟨[some (.str z), some (.str ⟨#[c]⟩)], [some (.str z), some (.str ⟨#[c]⟩)], rfl, .inl ?_, _, rfl⟩
      clear h e
      unfold w_figures_of_f1
      walk_at "go") (ρ := [some (.str z), o]) ⟨o, rfl⟩
  exact ⟨o', h1⟩
theorem intTP_n {z : Str} {n : Nat} (e : tl z = numL n) (h : (numL n).length ≤ 4300) : intTP [.str z] = some (.int (n : Int)) := by
  have ez : z = txI (n : Int) := ext_of (by rw [e, tl_nat])
  have hl : z.length ≤ sizeLine := by
    rw [TL.len_tl, e]
    have := sizeLine_eq
    omega
  show (if z.length ≤ sizeLine then (PySem.intText? z).map P.int else none) = _
  rw [if_pos hl, ez, show PySem.intText? (txI (n : Int)) = some (n : Int) from TL.int_num h]
  rfl
theorem z_tl : tl ("0" : Str) = [48] := by decide
theorem asc_zero : Asc ("0" : Str) := by
  intro c hc
  rw [z_tl] at hc
  simp at hc
  omega
theorem figures_of_ok {z : Str} {n : Nat} (e : tl z = numL n) (h : n < 10 ^ 1000) : g_figures_of [.str z] = .ok (.int (n : Int)) [] := by
  have hl := lt_num h
  have hp := numL_pos n
  have sz := sizeLine_eq
  have el : z.length = (numL n).length := by rw [TL.len_tl, e]
  have hz : z.length ≤ sizeLine := by omega
  have d1 := intTP_n e (by omega)
  have d2 := lenP_s hz
  obtain ⟨o', lp⟩ := figs_loop (z := z) (by rw [e]; exact TL.numL_digits n) none
  have c1 : decide ((1 : Int) ≤ (z.length : Int)) = true := decide_eq_true (by omega)
  have c2 : decide ((z.length : Int) ≤ 1000) = true := decide_eq_true (by omega)
  by_cases hn : n < 10
  · have el2 : z.length = 1 := by rw [el, numL_one n hn]; rfl
    have ix := ixP_s (z := z) hz (by rw [e, numL_one n hn])
    have eq0 := eqQ_str (x := ⟨#[48 + n]⟩) (y := "0") (sg_asc (by omega)) asc_zero
    have c3 : decide ((1 : Int) < (z.length : Int)) = false := decide_eq_false (by omega)
    generalize decide ((⟨#[48 + n]⟩ : Str) = "0") = bb at eq0
    clear e h hl hp sz el hz hn el2
    unfold g_figures_of w_figures_of
    cases bb <;> walk_at "go"
  · obtain ⟨c, r, e2, hc⟩ := numL_head n (by omega)
    have ix := ixP_s (z := z) hz (by rw [e, e2])
    have hc2 := TL.numL_digits n c (by rw [e2]; exact List.mem_cons_self)
    have eq0 := eqQ_str (x := ⟨#[c]⟩) (y := "0") (sg_asc (by omega)) asc_zero
    have nz : (⟨#[c]⟩ : Str) ≠ "0" := fun z => hc (by
      have := congrArg tl z
      rw [z_tl] at this
      have e3 : tl ⟨#[c]⟩ = [c] := rfl
      rw [e3] at this
      exact (List.cons.inj this).1)
    rw [decide_eq_false nz] at eq0
    clear e h hl hp sz el hz hn e2 hc hc2 nz
    unfold g_figures_of w_figures_of
    walk_at "go"
open TL (tl numL)
theorem cut_to {z : Str} (k : Nat) : tl (cutS z none (some (k : Int))) = (tl z).take k := by
  unfold cutS tl
  dsimp only
  rw [HT.sIx_nat, HT.sIx_none, List.drop_zero, Nat.sub_zero]
  have e : z.length = z.cps.toList.length := TL.len_tl z
  rw [e, List.take_eq_take_iff]
  omega
theorem cut_from {z : Str} (k : Nat) : tl (cutS z (some (k : Int)) none) = (tl z).drop k := by
  unfold cutS tl
  dsimp only
  rw [HT.sIx_nat, HT.sIx_none]
  have e : z.length = z.cps.toList.length := TL.len_tl z
  rw [e, List.take_of_length_le (by rw [List.length_drop]; exact Nat.le_refl _)]
  rcases Nat.le_total k z.cps.toList.length with h | h
  · rw [Nat.min_eq_left h]
  · rw [Nat.min_eq_right h, List.drop_of_length_le (Nat.le_refl _), List.drop_of_length_le h]
theorem mi_tl : tl ("-" : Str) = [45] := by decide
theorem asc_mi : Asc ("-" : Str) := by
  intro c hc
  rw [mi_tl] at hc
  simp at hc
  omega
theorem asc_sub {x y : Str} (h : Asc x) (e : ∀ c ∈ tl y, c ∈ tl x) : Asc y := fun c hc => h c (e c hc)
theorem first_ok {i : Int} : eqQ (.str (cutS (txI i) none (some 1))) (.str "-") = some (decide (i < 0)) := by
  have t := cut_to (z := txI i) 1
  rw [eqQ_str (asc_sub (asc_txI i) fun c hc => by
    have hc' : c ∈ tl (cutS (txI i) none (some ((1 : Nat) : Int))) := hc
    rw [t] at hc'
    exact List.mem_of_mem_take hc') asc_mi]
  congr 1
  rw [decide_eq_decide]
  have t' : tl (cutS (txI i) none (some 1)) = (tl (txI i)).take 1 := t
  constructor
  · intro e
    rcases Int.lt_or_le i 0 with h | h
    · exact h
    · have e2 := congrArg tl e
      rw [t', mi_tl, tl_txI, if_pos h] at e2
      have hm : (45 : Nat) ∈ numL i.natAbs := List.mem_of_mem_take (i := 1) (by rw [e2]; simp)
      have := TL.numL_digits _ _ hm
      omega
  · intro h
    refine ext_of ?_
    rw [t', mi_tl, tl_txI, if_neg (by omega)]
    rfl
theorem rest_ok {i : Int} (h : i < 0) : tl (cutS (txI i) (some 1) none) = numL i.natAbs := by
  have t : tl (cutS (txI i) (some 1) none) = (tl (txI i)).drop 1 := cut_from (z := txI i) 1
  rw [t, tl_txI, if_neg (by omega)]
  rfl
theorem part_one {q : Rat} (h : Fg q) (hd : q.den = 1) : partP [.str (txN q), .str "/"] = some (.tup [.str (txI q.num), .str Str.empty, .str Str.empty]) := by
  have l := txN_len h
  have sz := sizeLine_eq
  have e : txN q = txI q.num := if_pos hd
  show (if decide ((("/" : Str).length == 0) = false ∧ (txN q).length ≤ sizeLine) = true then some (P.tup [.str (Txt.partition (txN q) "/").1, .str (Txt.partition (txN q) "/").2.1, .str (Txt.partition (txN q) "/").2.2]) else none) = _
  rw [if_pos (decide_eq_true ⟨by decide, by omega⟩), e, TL.partition_none (s := 47) (S := []) tl_slash sl_free]
theorem part_two {q : Rat} (h : Fg q) (hd : q.den ≠ 1) : partP [.str (txN q), .str "/"] = some (.tup [.str (txI q.num), .str "/", .str (txI (q.den : Int))]) := by
  have l := txN_len h
  have sz := sizeLine_eq
  have e : txN q = txI q.num ++ "/" ++ txI (q.den : Int) := if_neg hd
  show (if decide ((("/" : Str).length == 0) = false ∧ (txN q).length ≤ sizeLine) = true then some (P.tup [.str (Txt.partition (txN q) "/").1, .str (Txt.partition (txN q) "/").2.1, .str (Txt.partition (txN q) "/").2.2]) else none) = _
  rw [if_pos (decide_eq_true ⟨by decide, by omega⟩), e, TL.partition_app (s := 47) (S := []) tl_slash sl_free]
theorem asc_empty : Asc Str.empty := fun c hc => nomatch hc
theorem read_number_ok {q : Rat} (h : Fg q) : g_read_number [.str (txN q)] = .ok (nP q) [] := by
  have l1 : ((txI q.num).length ≤ sizeLine) = True := eq_true (by have := txI_len h.1; have := sizeLine_eq; omega)
  have isn := is_number_ok q
  have shn := show_number_ok h
  have eqn := eqQ_str (asc_txN q) (asc_txN q)
  rw [decide_eq_true rfl] at eqn
  have fi := first_ok (i := q.num)
  have f2 : ∀ hn : q.num < 0, g_figures_of [.str (cutS (txI q.num) (some 1) none)] = .ok (.int (q.num.natAbs : Int)) [] := fun hn => figures_of_ok (rest_ok hn) h.1
  have f3 : ∀ hn : ¬ q.num < 0, g_figures_of [.str (txI q.num)] = .ok (.int q.num) [] := fun hn => by
    have := figures_of_ok (z := txI q.num) (n := q.num.natAbs) (by rw [tl_txI, if_pos (by omega)]) h.1
    rw [show ((q.num.natAbs : Nat) : Int) = q.num by omega] at this
    exact this
  have f4 := figures_of_ok (tl_nat q.den) h.2
  by_cases hd : q.den = 1
  · have p := part_one h hd
    have em := eqQ_str asc_empty asc_slash
    rw [decide_eq_false (by decide)] at em
    have en : nP q = .tup [.int q.num, .int 1] := by unfold nP; rw [hd]; rfl
    by_cases hn : q.num < 0
    · have f := f2 hn
      rw [decide_eq_true hn] at fi
      have en2 : nP q = .tup [.int (-((q.num.natAbs : Nat) : Int)), .int 1] := by rw [en, show -((q.num.natAbs : Nat) : Int) = q.num by omega]
      rw [en2] at isn shn ⊢
      clear h f2 f3 f4 hd en hn en2
      unfold g_read_number w_read_number
      walk_at "go"
    · have f := f3 hn
      rw [decide_eq_false hn] at fi
      rw [en] at isn shn ⊢
      clear h f2 f3 f4 hd en hn
      unfold g_read_number w_read_number
      walk_at "go"
  · have p := part_two h hd
    have em := eqQ_str asc_slash asc_slash
    rw [decide_eq_true rfl] at em
    have en : nP q = .tup [.int q.num, .int (q.den : Int)] := rfl
    by_cases hn : q.num < 0
    · have f := f2 hn
      rw [decide_eq_true hn] at fi
      have en2 : nP q = .tup [.int (-((q.num.natAbs : Nat) : Int)), .int (q.den : Int)] := by rw [en, show -((q.num.natAbs : Nat) : Int) = q.num by omega]
      rw [en2] at isn shn ⊢
      clear h f2 f3 hd en hn en2
      unfold g_read_number w_read_number
      walk_at "go"
    · have f := f3 hn
      rw [decide_eq_false hn] at fi
      rw [en] at isn shn ⊢
      clear h f2 f3 hd en hn
      unfold g_read_number w_read_number
      walk_at "go"
open TL (tl numL)
def Fgs (qs : List Rat) : Prop := ∀ q ∈ qs, Fg q
def txR (qs : List Rat) : Str := Txt.join " " (qs.map txN)
theorem tl_txR (qs : List Rat) : tl (txR qs) = TL.joinL [32] (qs.map fun q => tl (txN q)) := by
  unfold txR
  rw [TL.join_eq, TL.tl_join, tl_blank, List.map_map]
  rfl
theorem joinL_mem {S : List Nat} : ∀ {ps : List (List Nat)} {c : Nat}, c ∈ TL.joinL S ps → c ∈ S ∨ ∃ p ∈ ps, c ∈ p
  | [], c, h => nomatch h
  | [p], c, h => .inr ⟨p, List.mem_cons_self, h⟩
  | p :: q :: r, c, h => by
    have h' : c ∈ p ++ (S ++ TL.joinL S (q :: r)) := h
    rcases List.mem_append.mp h' with h' | h'
    · exact .inr ⟨p, List.mem_cons_self, h'⟩
    rcases List.mem_append.mp h' with h' | h'
    · exact .inl h'
    · rcases joinL_mem (ps := q :: r) h' with z | ⟨x, hx, z⟩
      · exact .inl z
      · exact .inr ⟨x, List.mem_cons_of_mem _ hx, z⟩
theorem asc_txR (qs : List Rat) : Asc (txR qs) := by
  intro c hc
  rw [tl_txR] at hc
  rcases joinL_mem hc with h | ⟨p, hp, h⟩
  · simp at h
    omega
  · obtain ⟨q, _, rfl⟩ := List.mem_map.mp hp
    exact asc_txN q c h
theorem joinL_len {S : List Nat} {B : Nat} : ∀ {ps : List (List Nat)}, (∀ p ∈ ps, p.length ≤ B) → (TL.joinL S ps).length ≤ ps.length * (B + S.length)
  | [], _ => by simp [TL.joinL]
  | [p], h => by
    have := h p List.mem_cons_self
    show p.length ≤ _
    simp
    omega
  | p :: q :: r, h => by
    have h1 := h p List.mem_cons_self
    have h2 := joinL_len (S := S) (ps := q :: r) fun x hx => h x (List.mem_cons_of_mem _ hx)
    show (p ++ (S ++ TL.joinL S (q :: r))).length ≤ (q :: r).length.succ * (B + S.length)
    rw [Nat.succ_mul]
    simp only [List.length_append]
    omega
theorem txR_len {qs : List Rat} (h : Fgs qs) : (txR qs).length ≤ qs.length * 2004 := by
  rw [TL.len_tl, tl_txR]
  have := joinL_len (S := [32]) (B := 2003) (ps := qs.map fun q => tl (txN q)) fun p hp => by
    obtain ⟨q, hq, rfl⟩ := List.mem_map.mp hp
    have := txN_len (h q hq)
    rw [TL.len_tl] at this
    exact this
  rw [List.length_map] at this
  simpa using this
theorem txR_cons (q : Rat) (qs : List Rat) : tl (txR (q :: qs)) ≠ [] := by
  rw [tl_txR]
  have h := txN_ne q
  cases qs with
  | nil => exact h
  | cons p r =>
    show tl (txN q) ++ ([32] ++ _) ≠ []
    intro e
    exact h (List.append_eq_nil_iff.mp e).1
theorem asc_empty' : Asc ("" : Str) := by
  intro c hc
  rw [show tl ("" : Str) = [] by decide] at hc
  cases hc
theorem txR_nil (qs : List Rat) : eqQ (.str (txR qs)) (.str "") = some (decide (qs = [])) := by
  rw [eqQ_str (asc_txR qs) asc_empty']
  congr 1
  rw [decide_eq_decide]
  constructor
  · intro e
    cases qs with
    | nil => rfl
    | cons q r => exact absurd (congrArg tl e) (txR_cons q r)
  · intro e
    subst e
    rfl
theorem strsP_map {α : Type} (f : α → Str) : ∀ xs : List α, strsP (xs.map fun x => P.str (f x)) = some (xs.map f)
  | [] => rfl
  | x :: xs => by
    show (strsP (xs.map fun x => P.str (f x))).map (f x :: ·) = _
    rw [strsP_map f xs]
    rfl
theorem sum_le {B : Nat} : ∀ {xs : List Nat}, (∀ x ∈ xs, x ≤ B) → xs.sum ≤ xs.length * B
  | [], _ => by simp
  | x :: xs, h => by
    have h1 := h x List.mem_cons_self
    have h2 := sum_le (xs := xs) fun y hy => h y (List.mem_cons_of_mem _ hy)
    simp only [List.sum_cons, List.length_cons, Nat.succ_mul]
    omega
theorem join_sum {qs : List Rat} (h : Fgs qs) (hn : qs.length ≤ 1000) : ((qs.map txN).map Str.length).sum + (qs.map txN).length * (" " : Str).length ≤ 16777216 := by
  have h1 := sum_le (B := 2003) (xs := (qs.map txN).map Str.length) fun x hx => by
    rw [List.map_map] at hx
    obtain ⟨q, hq, rfl⟩ := List.mem_map.mp hx
    exact txN_len (h q hq)
  rw [List.length_map, List.length_map] at h1
  rw [List.length_map, show (" " : Str).length = 1 by decide]
  omega
theorem joinP_row {qs : List Rat} (h : Fgs qs) (hn : qs.length ≤ 1000) : joinP [.str " ", .own (qs.map fun q => .str (txN q))] = some (.str (txR qs)) := by
  show (match strsP (qs.map fun q => P.str (txN q)) with
    | some ys => if decide ((ys.map Str.length).sum + ys.length * (" " : Str).length ≤ 16777216) = true then some (P.str (Txt.join " " ys)) else none
    | none => none) = _
  rw [strsP_map txN qs]
  exact if_pos (decide_eq_true (join_sum h hn))
section
variable {k : Bool} {qs : List Rat} (h : Fgs qs) (hn : qs.length ≤ 1000)
include h hn
theorem show_row_ok : g_show_row [.nd k .lst (nPs qs)] = .ok (.str (txR qs)) [] := by
  have z : (qs.length ≤ sizeLine) = True := size_le (by omega)
  have j := joinP_row h hn
  have e : vlcGo (.nm 1) vYes0 w_show_row_e1 [1] (nPs qs) [some (.nd false .lst (nPs qs)), none] = .ok (qs.map fun q => .str (txN q)) [some (.nd false .lst (nPs qs)), none] := by
    rw [vlcGo_nu (fun q => .str (txN q))]
    intro q hq
    have e := show_number_ok (h q hq)
    refine ⟨[some (.nd false .lst (nPs qs)), some (nP q)], _, [some (.nd false .lst (nPs qs)), some (nP q)], rfl, rfl, ?_, rfl⟩
    clear z hn hq h j
    unfold w_show_row_e1
    walk_at "go"
  clear h hn
  unfold g_show_row w_show_row
  walk_at "go"
theorem law_row_text_ok : g_law_row_text [.nd k .lst (nPs qs)] = .ok (.str (txR qs)) [] := by
  have z : (qs.length ≤ sizeLine) = True := size_le (by omega)
  have j := joinP_row h hn
  have e : vlcGo (.nm 1) vYes0 w_law_row_text_e1 [1] (nPs qs) [some (.nd false .lst (nPs qs)), none] = .ok (qs.map fun q => .str (txN q)) [some (.nd false .lst (nPs qs)), none] := by
    rw [vlcGo_nu (fun q => .str (txN q))]
    intro q hq
    have e := law_number_text_ok (h q hq)
    refine ⟨[some (.nd false .lst (nPs qs)), some (nP q)], _, [some (.nd false .lst (nPs qs)), some (nP q)], rfl, rfl, ?_, rfl⟩
    clear z hn hq h j
    unfold w_law_row_text_e1
    walk_at "go"
  clear h hn
  unfold g_law_row_text w_law_row_text
  walk_at "go"
theorem splP_row (hq : qs ≠ []) : splP [.str (txR qs), .str " "] = some (.own (qs.map fun q => .str (txN q))) := by
  have l := txR_len h
  have sz := sizeLine_eq
  show (if decide (((" " : Str).length == 0) = false ∧ (txR qs).length + 2 ≤ sizeLine) = true then some (P.own ((Txt.split (txR qs) " ").map P.str)) else none) = _
  rw [if_pos (decide_eq_true ⟨by decide, by omega⟩)]
  unfold txR
  rw [TL.split_join (s := 32) (S := []) tl_blank (by decide +kernel) (by simpa using hq) (fun p hp => by
    obtain ⟨q, _, rfl⟩ := List.mem_map.mp hp
    exact txN_bl), List.map_map]
  rfl
theorem read_row_ok : g_read_row [.str (txR qs)] = .ok (.own (nPs qs)) [] := by
  have z : (qs.length ≤ sizeLine) = True := size_le (by omega)
  have en := txR_nil qs
  by_cases hq : qs = []
  · subst hq
    rw [decide_eq_true rfl] at en
    clear h hn z
    unfold g_read_row w_read_row
    walk_at "go"
    rfl
  · rw [decide_eq_false hq] at en
    have j := splP_row h hn hq
    have z2 : ((qs.map fun q => P.str (txN q)).length ≤ sizeLine) = True := by rw [List.length_map]; exact z
    have f : frs (qs.map fun q => P.str (txN q)) = qs.map fun q => P.str (txN q) := by
      have : ∀ l : List Rat, frs (l.map fun q => P.str (txN q)) = l.map fun q => P.str (txN q) := fun l => by
        induction l with
        | nil => rfl
        | cons x l ih => rw [List.map_cons, frs, ih]; rfl
      exact this qs
    have e : vlcGo (.nm 1) vYes0 w_read_row_e1 [1] (qs.map fun q => .str (txN q)) [some (.str (txR qs)), none] = .ok (nPs qs) [some (.str (txR qs)), none] := by
      rw [vlcGo_as (τ := fun q => .str (txN q)) (fun q => nP q)]
      · rfl
      intro q hq
      have e := read_number_ok (h q hq)
      refine ⟨[some (.str (txR qs)), some (.str (txN q))], _, [some (.str (txR qs)), some (.str (txN q))], rfl, rfl, ?_, rfl⟩
      clear z hn hq h j f en
      unfold w_read_row_e1
      walk_at "go"
    clear h hn
    unfold g_read_row w_read_row
    walk_at "go"
end
open TL (tl numL)
theorem digits_lt : ∀ (l : List Nat) (a : Nat), NumText.AllDigits l → l.foldl (fun acc c => acc * 10 + (c - 48)) a < (a + 1) * 10 ^ l.length
  | [], a, _ => by simp
  | c :: r, a, h => by
    have hc := h.head
    have ih := digits_lt r (a * 10 + (c - 48)) h.tail
    rw [List.foldl_cons, List.length_cons, Nat.pow_succ, Nat.mul_comm (10 ^ r.length) 10, ← Nat.mul_assoc]
    refine Nat.lt_of_lt_of_le ih (Nat.mul_le_mul_right _ ?_)
    omega
theorem digits_val_lt {l : List Nat} (h : NumText.AllDigits l) : NumText.digitsVal l < 10 ^ l.length := by
  have := digits_lt l 0 h
  simpa [NumText.digitsVal] using this
theorem intTP_d {z : Str} (h : NumText.AllDigits (tl z)) (h1 : tl z ≠ []) (h2 : (tl z).length ≤ 1000) : ∃ n : Nat, intTP [.str z] = some (.int (n : Int)) ∧ n < 10 ^ 1000 ∧ n = NumText.digitsVal (tl z) := by
  have sz := sizeLine_eq
  have hl : z.length ≤ sizeLine := by rw [TL.len_tl]; omega
  refine ⟨_, ?_, Nat.lt_of_lt_of_le (digits_val_lt h) (Nat.pow_le_pow_right (by decide) h2), rfl⟩
  show (if z.length ≤ sizeLine then (PySem.intText? z).map P.int else none) = _
  rw [if_pos hl, PySem.intText_digits h h1 (by rw [TL.len_tl]; omega)]
  rfl
theorem repSP_k {z : Str} {k : Nat} (hz : z.length = 1) (hk : k ≤ 1000) : repSP [.str z, .int (k : Int)] = some (.str (repS z k)) := by
  show (if decide (0 ≤ (k : Int) ∧ z.length * (k : Int).toNat ≤ 1000000 ∧ (k : Int) < 1000000) = true then some (P.str (repS z (k : Int).toNat)) else none) = _
  rw [if_pos (decide_eq_true ⟨by omega, by rw [hz, Int.toNat_natCast]; omega, by omega⟩), Int.toNat_natCast]
theorem tl_rep {c k : Nat} {z : Str} (e : tl z = [c]) : tl (repS z k) = List.replicate k c := by
  unfold repS tl
  dsimp only
  have e' : z.cps.toList = [c] := e
  rw [e']
  induction k with
  | zero => rfl
  | succ k ih => rw [List.replicate_succ, List.flatten_cons, ih, List.replicate_succ]; rfl
theorem rep_digits {c k : Nat} (h : 48 ≤ c ∧ c ≤ 57) : NumText.AllDigits (List.replicate k c) := fun d hd => by
  rw [List.eq_of_mem_replicate hd]
  exact h
theorem app_digits {a b : List Nat} (ha : NumText.AllDigits a) (hb : NumText.AllDigits b) : NumText.AllDigits (a ++ b) := fun d hd => by
  rcases List.mem_append.mp hd with h | h
  · exact ha d h
  · exact hb d h
theorem fg_mk {t : Int} {b : Nat} (h1 : t.natAbs < 10 ^ 1000) (h2 : b < 10 ^ 1000) (hb : b ≠ 0) : Fg (mkRat t b) := by
  rw [Rat.mkRat_def, dif_neg hb, Rat.normalize_eq]
  constructor
  · show (t / ((Nat.gcd t.natAbs b : Nat) : Int)).natAbs < 10 ^ 1000
    exact Nat.lt_of_le_of_lt (Int.natAbs_ediv_le_natAbs _ _) h1
  · show b / Nat.gcd t.natAbs b < 10 ^ 1000
    exact Nat.lt_of_le_of_lt (Nat.div_le_self _ _) h2
theorem pow_fig {B : Nat} (h : B ≤ 3000) : 2 ^ B ≤ 10 ^ 1000 := by
  refine Nat.le_trans (Nat.pow_le_pow_right (by decide) h) ?_
  rw [show 3000 = 3 * 1000 from rfl, Nat.pow_mul]
  exact Nat.pow_le_pow_left (by decide) 1000
theorem Hb.fg {B : Nat} {q : Rat} (h : Hb B q) (hB : B ≤ 3000) : Fg q := ⟨Nat.lt_of_lt_of_le h.1 (pow_fig hB), Nat.lt_of_lt_of_le h.2 (pow_fig hB)⟩
open TL (tl numL)
theorem seven_tl : tl ("7" : Str) = [55] := by decide
theorem nine_tl : tl ("9" : Str) = [57] := by decide
theorem one_tl : tl ("1" : Str) = [49] := by decide
theorem three_tl : tl ("3" : Str) = [51] := by decide
theorem num_cat {x y : Str} (hx : NumText.AllDigits (tl x)) (hy : NumText.AllDigits (tl y)) (hl : (tl x).length + (tl y).length ≤ 1000) (hy0 : tl y ≠ []) :
    ∃ n : Nat, addP [.str x, .str y] = some (.str (x ++ y)) ∧ intTP [.str (x ++ y)] = some (.int (n : Int)) ∧ n < 10 ^ 1000 ∧ n = NumText.digitsVal (tl x ++ tl y) := by
  have sz := sizeLine_eq
  obtain ⟨n, h1, h2, h3⟩ := intTP_d (z := x ++ y) (by rw [tl_cat]; exact app_digits hx hy) (by rw [tl_cat]; intro e; exact hy0 (List.append_eq_nil_iff.mp e).2) (by rw [tl_cat, List.length_append]; exact hl)
  rw [tl_cat] at h3
  exact ⟨n, addP_ss (by rw [TL.len_tl, TL.len_tl]; omega), h1, h2, h3⟩
theorem small_text {v : Int} (h0 : 0 ≤ v) (h1 : v < 1000) : strP [.int v] = some (.str (txI v)) ∧ NumText.AllDigits (tl (txI v)) ∧ tl (txI v) ≠ [] ∧ (tl (txI v)).length ≤ 3 := by
  have hv : v.natAbs < 10 ^ 3 := by omega
  refine ⟨strP_i (Nat.lt_of_lt_of_le hv (Nat.pow_le_pow_right (by decide) (by decide))), ?_, txI_ne v, ?_⟩
  · rw [tl_txI, if_pos h0]
    exact TL.numL_digits _
  · rw [tl_txI, if_pos h0]
    exact TL.numL_len (by decide) hv
theorem law_any_2_ok {p : P} (B : Bag p) : ∃ q p', g_law_any_2 [p] = .ok (nP q) [p'] ∧ Fg q ∧ Bag p' := by
  obtain ⟨w, p1, q1, w0, w1, B1⟩ := take_ok B.vi (m := 4) (by decide)
  have N1 := B1.noN
  by_cases c0 : w = 0
  · obtain ⟨q, p2, e2, hq, B2⟩ := number_ok (B := 20) (by decide) (by decide) (w := 1000000) (by decide) (by decide) B1.vi
    have N2 := B2.noN
    refine ⟨q, p2, ?_, hq.fg (by decide), B2⟩
    subst c0
    clear B B1 B2 hq w0 w1
    unfold g_law_any_2 w_law_any_2
    walk_at "go"
  by_cases c1 : w = 1
  · obtain ⟨q, p2, e2, hq, B2⟩ := number_ok (B := 4) (by decide) (by decide) (w := 9) (by decide) (by decide) B1.vi
    have N2 := B2.noN
    refine ⟨q, p2, ?_, hq.fg (by decide), B2⟩
    subst c1
    clear B B1 B2 hq w0 w1 c0
    unfold g_law_any_2 w_law_any_2
    walk_at "go"
  have c0' : decide (w = 0) = false := decide_eq_false c0
  have c1' : decide (w = 1) = false := decide_eq_false c1
  -- the top
  obtain ⟨v2, p2, e2, v20, v21, B2⟩ := take_ok B1.vi (m := 60) (by decide)
  obtain ⟨v3, p3, e3, v30, v31, B3⟩ := take_ok B2 (m := 1000) (by decide)
  have N3 := B3.noN
  obtain ⟨k2, rfl⟩ : ∃ k : Nat, v2 = (k : Int) := ⟨v2.toNat, by omega⟩
  have r2 := repSP_k (z := "7") (k := k2) (by decide) (by omega)
  obtain ⟨s3, d3, n3, l3⟩ := small_text v30 v31
  have t2 : tl (repS "7" k2) = List.replicate k2 55 := tl_rep seven_tl
  obtain ⟨a, ha1, ha2, ha3, -⟩ := num_cat (x := repS "7" k2) (y := txI v3) (by rw [t2]; exact rep_digits (by omega)) d3 (by rw [t2, List.length_replicate]; omega) n3
  -- the top where the way is 2
  have top : ∃ (b : Nat) (p4 : P), b < 10 ^ 1000 ∧ Bag p4 ∧ ((w = 2 ∧ ∃ k : Nat, g_law_take [vi p3, .int 1000] = .ok (.int (k : Int)) [p4] ∧ repSP [.str "9", .int (k : Int)] = some (.str (repS "9" k)) ∧ addP [.str (repS "9" k), .str "1"] = some (.str (repS "9" k ++ "1")) ∧ intTP [.str (repS "9" k ++ "1")] = some (.int (b : Int))) ∨ (w ≠ 2 ∧ b = a ∧ p4 = p3)) := by
    by_cases c2 : w = 2
    · obtain ⟨v, p4, e, v0, v1, B4⟩ := take_ok B3.vi (m := 1000) (by decide)
      obtain ⟨k, rfl⟩ : ∃ k : Nat, v = (k : Int) := ⟨v.toNat, by omega⟩
      have t : tl (repS "9" k) = List.replicate k 57 := tl_rep nine_tl
      obtain ⟨b, hb1, hb2, hb3, -⟩ := num_cat (x := repS "9" k) (y := "1") (by rw [t]; exact rep_digits (by omega)) (by rw [one_tl]; intro c hc; simp at hc; omega) (by rw [t, one_tl, List.length_replicate]; simp; omega) (by rw [one_tl]; simp)
      exact ⟨b, p4, hb3, B4, .inl ⟨c2, k, e, repSP_k (by decide) (by omega), hb1, hb2⟩⟩
    · exact ⟨a, p3, ha3, B3, .inr ⟨c2, rfl, rfl⟩⟩
  obtain ⟨b, p4, hb, B4, top⟩ := top
  have N4 := B4.noN
  -- the bottom
  obtain ⟨v5, p5, e5, v50, v51, B5⟩ := take_ok B4.vi (m := 60) (by decide)
  obtain ⟨v6, p6, e6, v60, v61, B6⟩ := take_ok B5 (m := 1000) (by decide)
  have N6 := B6.noN
  obtain ⟨k5, rfl⟩ : ∃ k : Nat, v5 = (k : Int) := ⟨v5.toNat, by omega⟩
  have r5 := repSP_k (z := "0") (k := k5) (by decide) (by omega)
  obtain ⟨s6, d6, n6, l6⟩ := small_text v60 v61
  have t5 : tl (repS "0" k5) = List.replicate k5 48 := tl_rep z_tl
  have t5' : tl ("1" ++ repS "0" k5 : Str) = 49 :: List.replicate k5 48 := by rw [tl_cat, t5, one_tl]; rfl
  have sz := sizeLine_eq
  have a5 : addP [.str "1", .str (repS "0" k5)] = some (.str ("1" ++ repS "0" k5)) := addP_ss (by rw [TL.len_tl, TL.len_tl, t5, one_tl, List.length_replicate]; simp; omega)
  have d5 : NumText.AllDigits (tl ("1" ++ repS "0" k5 : Str)) := by
    rw [t5']
    intro d hd
    rcases List.mem_cons.mp hd with h | h
    · omega
    · exact rep_digits (by omega) d h
  obtain ⟨c, hc1, hc2, hc3, hc4⟩ := num_cat (x := "1" ++ repS "0" k5) (y := txI v6) d5 d6 (by rw [t5', List.length_cons, List.length_replicate]; omega) n6
  have c0pos : 0 < c := by
    rw [hc4, t5']
    exact NumText.digitsVal_pos (by omega)
  obtain ⟨v7, p7, e7, v70, v71, B7⟩ := take_ok B6.vi (m := 3) (by decide)
  have N7 := B7.noN
  have bot : ∃ (d : Nat) (p8 : P), d < 10 ^ 1000 ∧ 0 < d ∧ Bag p8 ∧ ((v7 = 0 ∧ ∃ k : Nat, g_law_take [vi p7, .int 1000] = .ok (.int (k : Int)) [p8] ∧ repSP [.str "3", .int (1 + (k : Int))] = some (.str (repS "3" (1 + k))) ∧ intTP [.str (repS "3" (1 + k))] = some (.int (d : Int))) ∨ (v7 ≠ 0 ∧ d = c ∧ p8 = p7)) := by
    by_cases c7 : v7 = 0
    · obtain ⟨v, p8, e, v0, v1, B8⟩ := take_ok B7.vi (m := 1000) (by decide)
      obtain ⟨k, rfl⟩ : ∃ k : Nat, v = (k : Int) := ⟨v.toNat, by omega⟩
      have t : tl (repS "3" (1 + k)) = List.replicate (1 + k) 51 := tl_rep three_tl
      obtain ⟨d, hd1, hd2, hd3⟩ := intTP_d (z := repS "3" (1 + k)) (by rw [t]; exact rep_digits (by omega)) (by rw [t]; simp) (by rw [t, List.length_replicate]; omega)
      refine ⟨d, p8, hd2, ?_, B8, .inl ⟨c7, k, e, ?_, hd1⟩⟩
      · rw [hd3, t, Nat.add_comm, List.replicate_succ]
        exact NumText.digitsVal_pos (by omega)
      · have := repSP_k (z := "3") (k := 1 + k) (by decide) (by omega)
        rw [show ((1 + k : Nat) : Int) = 1 + (k : Int) by omega] at this
        exact this
    · exact ⟨c, p7, hc3, c0pos, B7, .inr ⟨c7, rfl, rfl⟩⟩
  obtain ⟨d, p8, hd, d0, B8, bot⟩ := bot
  have N8 := B8.noN
  obtain ⟨v9, p9, e9, v90, v91, B9⟩ := take_ok B8.vi (m := 2) (by decide)
  have N9 := B9.noN
  obtain ⟨vx, px, ex, vx0, vx1, Bx⟩ := take_ok B9 (m := 4) (by decide)
  have Nx := Bx.noN
  have l1 := fun t : Int => law_low_ok t (show d ≠ 0 by omega)
  have l2 := fun t : Int => law_low_ok t (show 1 ≠ 0 by decide)
  obtain ⟨t, ht, htb⟩ : ∃ t : Int, ixP [.own [.int (b : Int), .int (-(b : Int))], .int v9] = some (.int t) ∧ t.natAbs = b := by
    by_cases c9 : v9 = 0
    · subst c9
      exact ⟨b, rfl, by omega⟩
    · have : v9 = 1 := by omega
      subst this
      exact ⟨-(b : Int), rfl, by omega⟩
  have fin : ∀ (t : Int) (m : Nat), t.natAbs < 10 ^ 1000 → m < 10 ^ 1000 → m ≠ 0 → Fg (mkRat t m) := fun t m h1 h2 h3 => fg_mk h1 h2 h3
  have one_lt : 1 < 10 ^ 1000 := Nat.lt_of_lt_of_le (show 1 < 10 by decide) (by
    have := Nat.pow_le_pow_right (show 0 < 10 by decide) (show 1 ≤ 1000 by decide)
    simpa using this)
  have tb : t.natAbs < 10 ^ 1000 := by rw [htb]; exact hb
  by_cases cx : vx = 0
  · subst cx
    refine ⟨mkRat t 1, px, ?_, fin t 1 tb one_lt (by decide), Bx⟩
    have l : g_law_low [.int t, .int 1] = .ok (nP (mkRat t 1)) [] := l2 t
    have ix1 : ixP [.own [.int (d : Int), .int 1], .int 1] = some (.int 1) := rfl
    rcases top with ⟨rfl, k, f1, f2, f3, f4⟩ | ⟨c2, rfl, rfl⟩ <;> rcases bot with ⟨rfl, m, g1, g2, g3⟩ | ⟨c7, rfl, rfl⟩ <;> (try have c2' : decide (w = 2) = false := decide_eq_false c2) <;> (try have c7' : decide (v7 = 0) = false := decide_eq_false c7) <;> clear B B1 B2 B3 B4 B5 B6 B7 B8 B9 Bx fin tb hb hd l1 l2 one_lt d5 t5 t5' t2 d3 n3 l3 d6 n6 l6 ha3 hc3 hc4 c0pos htb sz <;> (try clear c2) <;> (try clear c7) <;> (try clear c0 c1) <;> (unfold g_law_any_2 w_law_any_2; walk_at "go")
  · have cx' : decide (vx = 0) = false := decide_eq_false cx
    refine ⟨mkRat t d, px, ?_, fin t d tb hd (by omega), Bx⟩
    have l := l1 t
    have ix1 : ixP [.own [.int (d : Int), .int 1], .int 0] = some (.int (d : Int)) := rfl
    rcases top with ⟨rfl, k, f1, f2, f3, f4⟩ | ⟨c2, rfl, rfl⟩ <;> rcases bot with ⟨rfl, m, g1, g2, g3⟩ | ⟨c7, rfl, rfl⟩ <;> (try have c2' : decide (w = 2) = false := decide_eq_false c2) <;> (try have c7' : decide (v7 = 0) = false := decide_eq_false c7) <;> clear B B1 B2 B3 B4 B5 B6 B7 B8 B9 Bx fin tb hb hd l1 l2 one_lt d5 t5 t5' t2 d3 n3 l3 d6 n6 l6 ha3 hc3 hc4 c0pos htb sz cx <;> (try clear c2) <;> (try clear c7) <;> (try clear c0 c1) <;> (unfold g_law_any_2 w_law_any_2; walk_at "go")
theorem law_number_right_ok {q : Rat} (h : Fg q) : g_law_number_right [nP q] = .ok (.bl true) [] := by
  have e1 := law_number_text_ok h
  have e2 := show_number_ok h
  have e3 := read_number_ok h
  have e4 := law_is_number_ok q
  have e5 := eqQ_str (asc_txN q) (asc_txN q)
  rw [decide_eq_true rfl] at e5
  clear h
  unfold g_law_number_right w_law_number_right
  walk_at "go"
theorem law_row_right_ok {k : Bool} {qs : List Rat} (h : Fgs qs) (hn : qs.length ≤ 1000) : g_law_row_right [.nd k .lst (nPs qs)] = .ok (.bl true) [] := by
  have e1 := fun k => law_row_text_ok (k := k) h hn
  have e2 := fun k => show_row_ok (k := k) h hn
  have e3 := read_row_ok h hn
  have e4 := fun k => law_is_row_ok (k := k) (qs := qs) (by omega)
  have e5 := eqQ_str (asc_txR qs) (asc_txR qs)
  rw [decide_eq_true rfl] at e5
  have z : (qs.length ≤ sizeLine) = True := size_le (by omega)
  have z2 : (qs.length < sizeLine) = True := eq_true (by have := sizeLine_eq; omega)
  clear h hn
  unfold g_law_row_right w_law_row_right
  walk_at "go"
theorem nPs_ofR {R : Rat → Prop} : ∀ {ys : List P}, (∀ (i : Nat) (x : P), ys[i]? = some x → ∃ q, x = nP q ∧ R q) → ∃ qs, ys = nPs qs ∧ qs.length = ys.length ∧ ∀ q ∈ qs, R q
  | [], _ => ⟨[], rfl, rfl, fun _ z => nomatch z⟩
  | y :: ys, h => by
    obtain ⟨q, rfl, hq⟩ := h 0 y rfl
    obtain ⟨qs, rfl, hl, hb⟩ := nPs_ofR (R := R) (ys := ys) fun i x e => h (i + 1) x (by simpa using e)
    exact ⟨q :: qs, rfl, by simp [hl], List.forall_mem_cons.mpr ⟨hq, hb⟩⟩
section
variable {r0 r2 r3 r4 : Option P} {p : P} (Bp : Bag p) {n : Nat}
include Bp
theorem any_rows : ∃ qs p', vlcGo (.nm 5) vYes0 w_law_e2 [5] (rngP 0 (n : Int)) [r0, some p, r2, r3, r4, none] = .ok (nPs qs) [r0, some p', r2, r3, r4, none] ∧ qs.length = n ∧ Fgs qs ∧ Bag p' := by
  obtain ⟨ys, ρ', e, hl, ⟨p', rfl, B'⟩, hR⟩ := vlcGo_run (p := .nm 5) (t := vYes0) (e := w_law_e2) (own := [5]) (fun ρ => ∃ p', ρ = [r0, some p', r2, r3, r4, none] ∧ Bag p') (fun _ y => ∃ q, y = nP q ∧ Fg q) (rngP 0 (n : Int)) (fun x hx ρ ⟨p1, hr, B1⟩ => by
    obtain ⟨q, p2, q2, hq, B2⟩ := law_any_2_ok B1
    subst hr
    refine ⟨nP q, [r0, some p1, r2, r3, r4, some x], [r0, some p1, r2, r3, r4, some x], [r0, some p2, r2, r3, r4, some x], rfl, rfl, ?_, ⟨p2, rfl, B2⟩, q, rfl, hq⟩
    clear B1 B2 Bp hq hx
    unfold w_law_e2
    walk_at "go") [r0, some p, r2, r3, r4, none] ⟨p, rfl, Bp⟩
  obtain ⟨qs, rfl, hl2, hb⟩ := nPs_ofR (R := Fg) (ys := ys) fun i x ex => by
    have hi := (List.getElem?_eq_some_iff.mp ex).1
    rw [hl] at hi
    obtain ⟨y, ey, q, rfl, hq⟩ := hR i _ (List.getElem?_eq_getElem hi)
    rw [ex] at ey
    cases ey
    exact ⟨q, rfl, hq⟩
  rw [hl, rngP_n] at hl2
  exact ⟨qs, p', e, hl2, hb, B'⟩
theorem few_rows : ∃ qs p', vlcGo (.nm 5) vYes0 w_law_e1 [5] (rngP 0 (n : Int)) [r0, some p, r2, r3, r4, none] = .ok (nPs qs) [r0, some p', r2, r3, r4, none] ∧ qs.length = n ∧ Fgs qs ∧ Bag p' := by
  obtain ⟨ys, ρ', e, hl, ⟨p', rfl, B'⟩, hR⟩ := vlcGo_run (p := .nm 5) (t := vYes0) (e := w_law_e1) (own := [5]) (fun ρ => ∃ p', ρ = [r0, some p', r2, r3, r4, none] ∧ Bag p') (fun _ y => ∃ q, y = nP q ∧ Fg q) (rngP 0 (n : Int)) (fun x hx ρ ⟨p1, hr, B1⟩ => by
    obtain ⟨q, p2, q2, hq, B2⟩ := number_ok (B := 4) (by decide) (by decide) (w := 9) (by decide) (by decide) B1
    subst hr
    refine ⟨nP q, [r0, some p1, r2, r3, r4, some x], [r0, some p1, r2, r3, r4, some x], [r0, some p2, r2, r3, r4, some x], rfl, rfl, ?_, ⟨p2, rfl, B2⟩, q, rfl, hq.fg (by decide)⟩
    clear B1 B2 Bp hq hx
    unfold w_law_e1
    walk_at "go") [r0, some p, r2, r3, r4, none] ⟨p, rfl, Bp⟩
  obtain ⟨qs, rfl, hl2, hb⟩ := nPs_ofR (R := Fg) (ys := ys) fun i x ex => by
    have hi := (List.getElem?_eq_some_iff.mp ex).1
    rw [hl] at hi
    obtain ⟨y, ey, q, rfl, hq⟩ := hR i _ (List.getElem?_eq_getElem hi)
    rw [ex] at ey
    cases ey
    exact ⟨q, rfl, hq⟩
  rw [hl, rngP_n] at hl2
  exact ⟨qs, p', e, hl2, hb, B'⟩
end
theorem g_law_ok (ns : List Int) (h : ns.length ≤ 63) : g_law [.scr ns] = .ok (.bl true) [] := by
  obtain ⟨b, q0, B, Nb⟩ := bag_ok ns h
  obtain ⟨v, p1, q1, v0, v1, B1⟩ := take_ok B.vi (m := 13) (by decide)
  obtain ⟨n, rfl⟩ : ∃ n : Nat, v = (n : Int) := ⟨v.toNat, by omega⟩
  obtain ⟨qs, p2, e2, l2, f2, B2⟩ := any_rows (r0 := some (.scr ns)) (r2 := none) (r3 := none) (r4 := none) B1 (n := n)
  have N2 := B2.noN
  obtain ⟨v', p3, q3, v0', v1', B3⟩ := take_ok B2.vi (m := 4) (by decide)
  obtain ⟨m, rfl⟩ : ∃ n : Nat, v' = (n : Int) := ⟨v'.toNat, by omega⟩
  obtain ⟨rs, p4, e4, l4, f4, B4⟩ := few_rows (r0 := some (.scr ns)) (r2 := some (.nd false .lst [.nd false .lst [], .nd false .lst (nPs qs)])) (r3 := none) (r4 := none) B3 (n := m)
  have N4 := B4.noN
  have z1 := rng_in (n := n) (by omega)
  have z2 := rng_in (n := m) (by omega)
  have s1 : ((rngP 0 (n : Int)).length ≤ sizeLine) = True := size_le (by rw [rngP_n]; omega)
  have s2 : ((rngP 0 (m : Int)).length ≤ sizeLine) = True := size_le (by rw [rngP_n]; omega)
  have s3 : ((2 : Nat) < sizeLine) = True := eq_true (by decide)
  have r1 := fun k => law_row_right_ok (k := k) f2 (by omega)
  have r2 := fun k => law_row_right_ok (k := k) f4 (by omega)
  have r0 := fun k => law_row_right_ok (k := k) (qs := []) (fun _ z => nomatch z) (by simp)
  have r0' : ∀ k, g_law_row_right [.nd k .lst []] = .ok (.bl true) [] := r0
  have fq : Fgs (qs ++ rs ++ qs) := fun q hq => by
    simp only [List.mem_append] at hq
    rcases hq with (hq | hq) | hq
    · exact f2 q hq
    · exact f4 q hq
    · exact f2 q hq
  have ad : ∀ (k k2 : Bool) (xs ys : List Rat), xs.length + ys.length ≤ 1000000 → addP [.nd k .lst (nPs xs), .nd k2 .lst (nPs ys)] = some (.own (nPs (xs ++ ys))) := fun k k2 xs ys hh => by
    show (if (nPs xs).length + (nPs ys).length ≤ sizeLine then some (P.own (nPs xs ++ nPs ys)) else none) = _
    have := sizeLine_eq
    rw [if_pos (by rw [nPs_len, nPs_len]; omega)]
    unfold nPs
    rw [List.map_append]
  have ad' : ∀ (k k2 : Bool) (xs ys : List Rat), xs.length + ys.length ≤ 1000000 → addP [.ow k .lst (nPs xs), .nd k2 .lst (nPs ys)] = some (.own (nPs (xs ++ ys))) := fun k k2 xs ys hh => by
    show (if (nPs xs).length + (nPs ys).length ≤ sizeLine then some (P.own (nPs xs ++ nPs ys)) else none) = _
    have := sizeLine_eq
    rw [if_pos (by rw [nPs_len, nPs_len]; omega)]
    unfold nPs
    rw [List.map_append]
  have a1 := fun k k2 => ad k k2 qs rs (by omega)
  have a2 := fun k k2 => ad' k k2 (qs ++ rs) qs (by rw [List.length_append]; omega)
  clear ad ad' r0 f2 f4 B B1 B2 B3 B4 v0 v1 v0' v1' l2 l4 h
  have w1 : ∀ (r2 : P) (k : Bool), w_law_f2 [some (.scr ns), some p4, some r2, some (.nd k .lst (nPs qs)), none, none] = .nx [some (.scr ns), some p4, some r2, some (.nd k .lst (nPs qs)), none, none] := fun r2 k => by
    clear e2 e4
    unfold w_law_f2
    walk_at "go"
  have w2 : ∀ (r2 : P) (k : Bool), w_law_f2 [some (.scr ns), some p4, some r2, some (.nd k .lst (nPs rs)), none, none] = .nx [some (.scr ns), some p4, some r2, some (.nd k .lst (nPs rs)), none, none] := fun r2' k => by
    clear e2 e4
    unfold w_law_f2
    walk_at "go"
  have w0 : ∀ (r2 : P) (k : Bool), w_law_f2 [some (.scr ns), some p4, some r2, some (.nd k .lst []), none, none] = .nx [some (.scr ns), some p4, some r2, some (.nd k .lst []), none, none] := fun r2' k => by
    clear e2 e4
    unfold w_law_f2
    walk_at "go"
  have w3 : ∀ (r2 : P) (r3 : Option P), ∃ ρ', vFrGo (vgV 4) w_law_f1 (nPs (qs ++ rs ++ qs)) [some (.scr ns), some p4, some r2, r3, none, none] = .nx ρ' := fun r2' r3 => by
    obtain ⟨ρ', h1, _⟩ := vFrGo_run (g := vgV 4) (b := w_law_f1) (xs := nPs (qs ++ rs ++ qs)) (fun _ ρ => ∃ o, ρ = [some (.scr ns), some p4, some r2', r3, o, none]) (fun i x ρ hx hρ => by
      obtain ⟨o, rfl⟩ := hρ
      unfold nPs at hx
      rw [List.getElem?_map] at hx
      obtain ⟨q, hq, rfl⟩ := Option.map_eq_some_iff.mp hx
      have e := law_number_right_ok (fq q (List.mem_of_getElem? hq))
      refine ⟨[some (.scr ns), some p4, some r2', r3, some (nP q), none], [some (.scr ns), some p4, some r2', r3, some (nP q), none], rfl, .inl ?_, _, rfl⟩
      clear e2 e4 fq hx hq
      unfold w_law_f1
      walk_at "go") (ρ := [some (.scr ns), some p4, some r2', r3, none, none]) ⟨none, rfl⟩
    exact ⟨ρ', h1⟩
  clear fq
  refine law_of ?_
  show ∃ ρ, w_law [some (.scr ns), none, none, none, none, none] = .rt (.bl true) ρ
  unfold w_law
  walk_at "st"
  walk_at "st"
  walk_at "st"
  refine sq_ex (by walk_at "un"; exact rfl) ?_
  obtain ⟨ρ', w4⟩ := w3 _ _
  refine sq_ex (by walk_at "go"; exact w4) ?_
  walk_at "end"
theorem law_plain : ∀ ns : List Int, ns.length ≤ 63 → ∃ S', f_law [.scr ns] [] = .ok (.bl true) S' := fun ns h => sim_end sim_law (g_law_ok ns h)
end Hm
open PySem PySem.W PySem.Calls PyProof.Rows
set_option maxHeartbeats 0 in
theorem PySem.Challenge.cw_helmsum_k91_numbers_and_rows_read_holds : PySem.Challenge.rw_helmsum_k91_numbers_and_rows_read.Holds := by
  w_on; o_law
  refine HandSHeadRun.head_any (r := Hm.RO) (q := view Hm.RO.prog [27]) (H := Hm.HK) (ob := Hm.OB) (M := 4000) (loose := Hm.LO) (d := HandSHeadRun.topDef Hm.RO.prog 27) (kwd := []) Hm.obY_eq
    (by kernel_rfl) (fun s => by kernel_rfl) Hm.head_run (by kernel_rfl) (by kernel_rfl) (by kernel_rfl) (by rfl) (by first | assumption | decide +kernel) (by decide +kernel) ⟨rfl, rfl, rfl, rfl, rfl, by decide +kernel⟩ ?hw ?hc
  case hw => w_witness2
  case hc =>
    exact Hm.law_end (l := PySem.Challenge.rw_helmsum_k91_numbers_and_rows_read) (n := 63) (k := 38) (i := 19) (x := "_law_script") (y := "law") (F := Hm.f_law) (st := Hm.s_law) rfl (by decide) (by kernel_rfl) ⟨rfl, by decide, by decide⟩ (by kernel_rfl) rfl (fun _ _ _ _ _ _ us hl => match us, hl with | [_], _ => rfl)
      (fun w K mg base Z fd FD => Hm.ok_law Z _ fd FD) ⟨31, rfl⟩ Hm.law_plain
