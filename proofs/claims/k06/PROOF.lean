import PyProof.Rows.All
import Wide.All
import OpenK.AllK
import Wide.FinOn
import KE.KStateDown
import HandS.ForMost
import HandS.ForExc
import HandS.Flow
import HandS.Style
import HandS.TupMul
import HandS.RevTup
import HandS.IsInst
import HandS.Deep
import HandS.Zip
import HandS.Conv
import HandS.TupAny
import HandS.Wide
import HandS.RaiseMore
import HandS.More
import HandS.Zip0
import PyProof.EnumMake
import PyProof.Draws
import HandS.Strs
import HandS.SetFor
import PyProof.Rows.SetFrom
import HandS.Ends
import HandS.WordsExc
import HandS.HeadEnd
import HandS.Head2
import HandS.HeadHook4
import HandS.ExcInit
import PySem.Challenge.RW_latelists_k06_whole_lists_of_all_days
set_option Elab.async false
set_option linter.all false
set_option maxRecDepth 100000
set_option maxHeartbeats 4000000
namespace Lt
open PySem PySem.Spec PyProof.Rows L2

/-! ### data by value, the store of what may change -/
inductive D where
  | non | bl (b : Bool) | int (i : Int) | str (x : Str)
  | tup (xs : List D) | lst (xs : List D) | dic (ks : List Key) (vs : List D)
  | scr (xs : List D) | obj (c : Nat) (vs : List D) | ref (n : Nat)
deriving Inhabited
inductive Cell where
  | lst (xs : List D) | dic (ks : List Key) (vs : List D) | ins (c : Nat) (fs : List (Str × D)) | dead
abbrev Store := List Cell
inductive Res (α : Type) where
  | ok (a : α) (S : Store) | exc (c : Nat) (d : D) (S : Store) | bad
/-- what stands for good (Z), where the store's cells lie (μ) -/
structure Wd where
  Z : Hp
  μ : List Addr
  F : Hp
/-- more stands for good, more cells lie -/
structure Wd.sub (a b : Wd) : Prop where
  z : ∀ p o, a.Z p = some o → b.Z p = some o
  m : ∃ t, b.μ = a.μ ++ t
structure Wd.le (a b : Wd) : Prop where
  f : b.F = a.F
  z : ∀ p o, a.Z p = some o → b.Z p = some o
  m : ∃ t, b.μ = a.μ ++ t
theorem Wd.le.s {a b : Wd} (h : a.le b) : a.sub b := ⟨h.z, h.m⟩
theorem Wd.sub.refl (a : Wd) : a.sub a := ⟨fun _ _ h => h, [], by simp⟩
theorem Wd.sub.trans {a b c : Wd} (h : a.sub b) (k : b.sub c) : a.sub c :=
  ⟨fun p o e => k.z p o (h.z p o e), let ⟨t, e⟩ := h.m; let ⟨u, f⟩ := k.m; ⟨t ++ u, by rw [f, e, List.append_assoc]⟩⟩
theorem Wd.le.refl (a : Wd) : a.le a := ⟨rfl, fun _ _ h => h, [], by simp⟩
theorem Wd.le.trans {a b c : Wd} (h : a.le b) (k : b.le c) : a.le c :=
  ⟨k.f.trans h.f, (h.s.trans k.s).z, (h.s.trans k.s).m⟩
theorem Wd.sub.rd {a b : Wd} (h : a.sub b) {p : Addr} {u : HO} (r : Rd a.Z p u) : Rd b.Z p u := by
  rcases r with r | ⟨o, r⟩
  · exact .inl (h.z _ _ r)
  · exact .inr ⟨o, h.z _ _ r⟩
theorem Wd.le.rd {a b : Wd} (h : a.le b) {p : Addr} {u : HO} (r : Rd a.Z p u) : Rd b.Z p u := h.s.rd r
theorem Wd.sub.get {a b : Wd} (h : a.sub b) {n : Nat} {p : Addr} (e : a.μ[n]? = some p) : b.μ[n]? = some p := by
  obtain ⟨t, f⟩ := h.m
  obtain ⟨h1, h2⟩ := List.getElem?_eq_some_iff.mp e
  rw [f, List.getElem?_append_left h1]
  exact e
theorem Wd.le.get {a b : Wd} (h : a.le b) {n : Nat} {p : Addr} (e : a.μ[n]? = some p) : b.μ[n]? = some p := h.s.get e

abbrev Kf := PySem.W.Frag
mutual
inductive Rep (K : Kf) (W : Wd) : D → V → Prop
  | non : Rep K W .non .non
  | bl (b : Bool) : Rep K W (.bl b) (.bl b)
  | int (i : Int) : Rep K W (.int i) (.int i)
  | str (x : Str) : Rep K W (.str x) (.str x)
  | tup {a : Addr} {vs : List V} {ds : List D} : SqT K W.Z a vs → RepL K W ds vs → Rep K W (.tup ds) (.ref a)
  | lst {a : Addr} {vs : List V} {ds : List D} : W.Z a = some (.lst vs) → RepL K W ds vs → Rep K W (.lst ds) (.ref a)
  | scr {a : Addr} {vs : List V} {ds : List D} : SqL K W.Z a vs → RepL K W ds vs → Rep K W (.scr ds) (.ref a)
  | dic {a : Addr} {ks : List Key} {vs : List V} {ds : List D} : W.Z a = some (.dK (ks.zip vs)) → ks.length = ds.length → RepL K W ds vs → Rep K W (.dic ks ds) (.ref a)
  | ref {n : Nat} {a : Addr} : W.μ[n]? = some a → Rep K W (.ref n) (.ref a)
inductive RepL (K : Kf) (W : Wd) : List D → List V → Prop
  | nil : RepL K W [] []
  | cons {d : D} {v : V} {ds : List D} {vs : List V} : Rep K W d v → RepL K W ds vs → RepL K W (d :: ds) (v :: vs)
end


theorem SqT.mo {K : Kf} {Z Z' : Hp} {a : Addr} {vs : List V} (h : ∀ {p : Addr} {o : HO}, Rd Z p o → Rd Z' p o) (r : SqT K Z a vs) : SqT K Z' a vs := r.imp h id
theorem SqL.mo {K : Kf} {Z Z' : Hp} {a : Addr} {vs : List V} (h : ∀ {p : Addr} {o : HO}, Rd Z p o → Rd Z' p o) (r : SqL K Z a vs) : SqL K Z' a vs := r.imp h id
mutual
theorem Rep.ms {K : Kf} {W W' : Wd} (l : W.sub W') : ∀ {d : D} {v : V}, Rep K W d v → Rep K W' d v
  | _, _, .non => .non
  | _, _, .bl b => .bl b
  | _, _, .int i => .int i
  | _, _, .str x => .str x
  | _, _, .tup h r => .tup (SqT.mo l.rd h) (RepL.ms l r)
  | _, _, .scr h r => .scr (SqL.mo l.rd h) (RepL.ms l r)
  | _, _, .lst h r => .lst (l.z _ _ h) (RepL.ms l r)
  | _, _, .dic h e r => .dic (l.z _ _ h) e (RepL.ms l r)
  | _, _, .ref h => .ref (l.get h)
theorem RepL.ms {K : Kf} {W W' : Wd} (l : W.sub W') : ∀ {d : List D} {v : List V}, RepL K W d v → RepL K W' d v
  | _, _, .nil => .nil
  | _, _, .cons h r => .cons (Rep.ms l h) (RepL.ms l r)
end
theorem Rep.mo {K : Kf} {W W' : Wd} (l : W.le W') {d : D} {v : V} (r : Rep K W d v) : Rep K W' d v := r.ms l.s
theorem RepL.mo {K : Kf} {W W' : Wd} (l : W.le W') {d : List D} {v : List V} (r : RepL K W d v) : RepL K W' d v := r.ms l.s
theorem RepL.len {K : Kf} {W : Wd} : ∀ {ds : List D} {vs : List V}, RepL K W ds vs → ds.length = vs.length
  | _, _, .nil => rfl
  | _, _, .cons _ r => congrArg (· + 1) r.len
theorem RepL.get {K : Kf} {W : Wd} : ∀ {ds : List D} {vs : List V} {i : Nat} {d : D}, RepL K W ds vs → ds[i]? = some d → ∃ v, vs[i]? = some v ∧ Rep K W d v
  | _, _, _, _, .nil, e => by simp at e
  | _, _, 0, _, .cons h _, e => by simp at e; subst e; exact ⟨_, rfl, h⟩
  | _, _, i + 1, d, .cons _ r, e => by
    obtain ⟨v, h1, h2⟩ := RepL.get (i := i) (d := d) r (by simpa using e)
    exact ⟨v, by simpa using h1, h2⟩
theorem RepL.getV {K : Kf} {W : Wd} : ∀ {ds : List D} {vs : List V} {i : Nat} {v : V}, RepL K W ds vs → vs[i]? = some v → ∃ d, ds[i]? = some d ∧ Rep K W d v
  | _, _, _, _, .nil, e => by simp at e
  | _, _, 0, _, .cons h _, e => by simp at e; subst e; exact ⟨_, rfl, h⟩
  | _, _, i + 1, d, .cons _ r, e => by
    obtain ⟨v, h1, h2⟩ := RepL.getV (i := i) (v := d) r (by simpa using e)
    exact ⟨v, by simpa using h1, h2⟩
theorem RepL.app {K : Kf} {W : Wd} : ∀ {ds es : List D} {vs us : List V}, RepL K W ds vs → RepL K W es us → RepL K W (ds ++ es) (vs ++ us)
  | _, _, _, _, .nil, q => q
  | _, _, _, _, .cons h r, q => .cons h (RepL.app r q)
theorem RepL.set {K : Kf} {W : Wd} {d : D} {v : V} (q : Rep K W d v) : ∀ {ds : List D} {vs : List V} (i : Nat), RepL K W ds vs → RepL K W (ds.set i d) (vs.set i v)
  | _, _, _, .nil => .nil
  | _, _, 0, .cons _ r => .cons q r
  | _, _, i + 1, .cons h r => .cons h (RepL.set q i r)
theorem RepL.take {K : Kf} {W : Wd} : ∀ {ds : List D} {vs : List V} (i : Nat), RepL K W ds vs → RepL K W (ds.take i) (vs.take i)
  | _, _, 0, _ => .nil
  | _, _, _ + 1, .nil => .nil
  | _, _, i + 1, .cons h r => .cons h (RepL.take i r)
theorem RepL.drop {K : Kf} {W : Wd} : ∀ {ds : List D} {vs : List V} (i : Nat), RepL K W ds vs → RepL K W (ds.drop i) (vs.drop i)
  | _, _, 0, r => r
  | _, _, _ + 1, .nil => .nil
  | _, _, i + 1, .cons _ r => RepL.drop i r
theorem RepL.rev {K : Kf} {W : Wd} : ∀ {ds : List D} {vs : List V}, RepL K W ds vs → RepL K W ds.reverse vs.reverse
  | _, _, .nil => .nil
  | _, _, .cons h r => by rw [List.reverse_cons, List.reverse_cons]; exact r.rev.app (.cons h .nil)
theorem RepL.rep {K : Kf} {W : Wd} {ds : List D} {vs : List V} (q : RepL K W ds vs) : ∀ n : Nat, RepL K W (List.replicate n ds).flatten (List.replicate n vs).flatten
  | 0 => .nil
  | n + 1 => by rw [List.replicate_succ, List.replicate_succ, List.flatten_cons, List.flatten_cons]; exact q.app (q.rep n)

/-! ### a cell and the object that bears it; the store and the heap -/
inductive CellR (K : Kf) (W : Wd) (cA : Nat → Addr) : Cell → HO → Prop
  | lst {ds : List D} {vs : List V} : RepL K W ds vs → CellR K W cA (.lst ds) (.lst vs)
  | dic {ks : List Key} {ds : List D} {vs : List V} : ks.length = ds.length → RepL K W ds vs → CellR K W cA (.dic ks ds) (.dK (ks.zip vs))
  | ins {c : Nat} {dx : Addr} {ns : List Str} {ds : List D} {vs : List V} : ns.length = ds.length → RepL K W ds vs → CellR K W cA (.ins c (ns.zip ds)) (.ins (cA c) dx (ns.zip vs))
theorem CellR.mo {K : Kf} {W W' : Wd} {cA : Nat → Addr} (l : W.le W') {c : Cell} {o : HO} (h : CellR K W cA c o) : CellR K W' cA c o := by
  cases h with
  | lst r => exact .lst (r.mo l)
  | dic e r => exact .dic e (r.mo l)
  | ins e r => exact .ins e (r.mo l)
/-- the fixed context: the written part, the classes' addresses -/
structure Gc where
  K : Kf
  cA : Nat → Addr
  fld : Nat → Option Str
structure StR (G : Gc) (S : Store) (W : Wd) (H : Hp) : Prop where
  z : ∀ p o, W.Z p = some o → H p = some o ∨ ∃ ob kvs, o = .dK kvs ∧ H p = some (.frz ob o)
  len : W.μ.length = S.length
  nd : W.μ.Nodup
  th : ∀ p ∈ W.μ, H p ≠ none
  zt : ∀ p, H p = none → W.Z p = none
  fr : ∀ p o, W.F p = some o → H p = some o ∧ W.Z p = none ∧ p ∉ W.μ
  live : ∀ (n : Nat) (c : Cell), S[n]? = some c → c ≠ .dead → ∃ a ho, W.μ[n]? = some a ∧ W.Z a = none ∧ H a = some ho ∧ CellR G.K W G.cA c ho
theorem StR.rd {G : Gc} {S : Store} {W : Wd} {H : Hp} (r : StR G S W H) {p : Addr} {u : HO} (h : Rd W.Z p u) : Rd H p u := by
  rcases h with h | ⟨o, h⟩
  · rcases r.z _ _ h with q | ⟨ob, kvs, e, q⟩
    · exact .inl q
    · exact .inr ⟨ob, q⟩
  · rcases r.z _ _ h with q | ⟨ob, kvs, e, q⟩
    · exact .inr ⟨o, q⟩
    · cases e
theorem StR.lst {G : Gc} {S : Store} {W : Wd} {H : Hp} (r : StR G S W H) {p : Addr} {vs : List V} (h : W.Z p = some (.lst vs)) : H p = some (.lst vs) := by
  rcases r.z _ _ h with q | ⟨ob, kvs, e, q⟩
  · exact q
  · cases e

/-- an immutable object is laid -/
theorem StR.imm {G : Gc} {S : Store} {W : Wd} {H : Hp} (r : StR G S W H) {p : Addr} (hp : H p = none) (o : HO) :
    W.le ⟨upd W.Z p o, W.μ, W.F⟩ ∧ StR G S ⟨upd W.Z p o, W.μ, W.F⟩ (upd H p o) := by
  have hz := r.zt p hp
  have hle : W.le ⟨upd W.Z p o, W.μ, W.F⟩ := by
    refine ⟨rfl, fun q u h => ?_, [], by simp⟩
    have hq : q ≠ p := by rintro rfl; rw [hz] at h; cases h
    show upd W.Z p o q = some u
    rw [upd_ne hq]; exact h
  refine ⟨hle, ⟨fun q u h => ?_, r.len, r.nd, fun q hq => ?_, fun q hq => ?_, fun q u hq => ?_, fun n c e hc => ?_⟩⟩
  · have h' : upd W.Z p o q = some u := h
    by_cases hq : q = p
    · subst hq
      rw [upd_same] at h' ⊢
      exact .inl h'
    · rw [upd_ne hq] at h' ⊢
      exact r.z q u h'
  · have : q ≠ p := by rintro rfl; exact r.th q hq hp
    rw [upd_ne this]; exact r.th q hq
  · by_cases e : q = p
    · subst e; rw [upd_same] at hq; cases hq
    · rw [upd_ne e] at hq; show upd W.Z p o q = none; rw [upd_ne e]; exact r.zt q hq
  · obtain ⟨f1, f2, f3⟩ := r.fr q u hq
    have hqp : q ≠ p := by rintro rfl; rw [hp] at f1; cases f1
    exact ⟨by rw [upd_ne hqp]; exact f1, by show upd W.Z p o q = none; rw [upd_ne hqp]; exact f2, f3⟩
  · obtain ⟨a, ho, h1, h2, h3, h4⟩ := r.live n c e hc
    have : a ≠ p := by rintro rfl; rw [hp] at h3; cases h3
    exact ⟨a, ho, h1, by show upd W.Z p o a = none; rw [upd_ne this]; exact h2, by rw [upd_ne this]; exact h3, h4.mo hle⟩
/-- a new cell -/
theorem StR.new {G : Gc} {S : Store} {W : Wd} {H : Hp} (r : StR G S W H) {p : Addr} (hp : H p = none) {c : Cell} {o : HO} (hc : CellR G.K W G.cA c o) :
    W.le ⟨W.Z, W.μ ++ [p], W.F⟩ ∧ StR G (S ++ [c]) ⟨W.Z, W.μ ++ [p], W.F⟩ (upd H p o) := by
  have hz := r.zt p hp
  have hle : W.le ⟨W.Z, W.μ ++ [p], W.F⟩ := ⟨rfl, fun _ _ h => h, [p], rfl⟩
  have nm : p ∉ W.μ := fun h => r.th p h hp
  refine ⟨hle, ⟨fun q u h => ?_, by simp [r.len], ?_, fun q hq => ?_, fun q hq => ?_, fun q u hq => ?_, fun n c' e hc' => ?_⟩⟩
  · have h' : W.Z q = some u := h
    have hq : q ≠ p := by rintro rfl; rw [hz] at h'; cases h'
    rw [upd_ne hq]
    exact r.z q u h'
  · rw [List.nodup_append]
    exact ⟨r.nd, by simp, by intro a ha b hb e; simp at hb; subst hb; subst e; exact nm ha⟩
  · rcases List.mem_append.mp hq with h1 | h1
    · have : q ≠ p := by rintro rfl; exact nm h1
      rw [upd_ne this]; exact r.th q h1
    · simp at h1; subst h1; rw [upd_same]; simp
  · by_cases e : q = p
    · subst e; rw [upd_same] at hq; cases hq
    · rw [upd_ne e] at hq; exact r.zt q hq
  · obtain ⟨f1, f2, f3⟩ := r.fr q u hq
    have hqp : q ≠ p := by rintro rfl; rw [hp] at f1; cases f1
    exact ⟨by rw [upd_ne hqp]; exact f1, f2, fun h => (List.mem_append.mp h).elim f3 fun h2 => hqp (by simpa using h2)⟩
  · by_cases hn : n < S.length
    · rw [List.getElem?_append_left hn] at e
      obtain ⟨a, ho, h1, h2, h3, h4⟩ := r.live n c' e hc'
      have : a ≠ p := by rintro rfl; rw [hp] at h3; cases h3
      exact ⟨a, ho, hle.get h1, h2, by rw [upd_ne this]; exact h3, h4.mo hle⟩
    · have e' : n = S.length := by
        have := (List.getElem?_eq_some_iff.mp e).1
        simp at this; omega
      subst e'
      simp at e; subst e
      exact ⟨p, o, by simp [← r.len], hz, upd_same, hc.mo hle⟩
/-- what is of no concern is laid -/
theorem StR.junk {G : Gc} {S : Store} {W : Wd} {H : Hp} (r : StR G S W H) {p : Addr} (hp : H p = none) (o : HO) : StR G S W (upd H p o) := by
  have hz := r.zt p hp
  refine ⟨fun q u h => ?_, r.len, r.nd, fun q hq => ?_, fun q hq => ?_, fun q u hq => ?_, fun n c e hc => ?_⟩
  · have hq : q ≠ p := by rintro rfl; rw [hz] at h; cases h
    rw [upd_ne hq]; exact r.z q u h
  · have : q ≠ p := by rintro rfl; exact r.th q hq hp
    rw [upd_ne this]; exact r.th q hq
  · by_cases e : q = p
    · subst e; rw [upd_same] at hq; cases hq
    · rw [upd_ne e] at hq; exact r.zt q hq
  · obtain ⟨f1, f2, f3⟩ := r.fr q u hq
    have hqp : q ≠ p := by rintro rfl; rw [hp] at f1; cases f1
    exact ⟨by rw [upd_ne hqp]; exact f1, f2, f3⟩
  · obtain ⟨a, ho, h1, h2, h3, h4⟩ := r.live n c e hc
    have : a ≠ p := by rintro rfl; rw [hp] at h3; cases h3
    exact ⟨a, ho, h1, h2, by rw [upd_ne this]; exact h3, h4⟩
/-- a cell is written -/
theorem StR.put {G : Gc} {S : Store} {W : Wd} {H : Hp} (r : StR G S W H) {n : Nat} {a : Addr} {c0 c : Cell} {o : HO} (hn : S[n]? = some c0) (h0 : c0 ≠ .dead) (ha : W.μ[n]? = some a) (hc : CellR G.K W G.cA c o) :
    StR G (S.set n c) W (upd H a o) := by
  obtain ⟨a', ho, h1, h2, h3, h4⟩ := r.live n c0 hn h0
  rw [ha] at h1; cases h1
  refine ⟨fun q u h => ?_, by simp [r.len], r.nd, fun q hq => ?_, fun q hq => ?_, fun q u hq => ?_, fun m c' e hc' => ?_⟩
  · have hq : q ≠ a := by rintro rfl; rw [h2] at h; cases h
    rw [upd_ne hq]
    exact r.z q u h
  · by_cases e : q = a
    · subst e; rw [upd_same]; simp
    · rw [upd_ne e]; exact r.th q hq
  · by_cases e : q = a
    · subst e; rw [upd_same] at hq; cases hq
    · rw [upd_ne e] at hq; exact r.zt q hq
  · obtain ⟨f1, f2, f3⟩ := r.fr q u hq
    have hqa : q ≠ a := by rintro rfl; exact f3 (List.mem_of_getElem? ha)
    exact ⟨by rw [upd_ne hqa]; exact f1, f2, f3⟩
  · by_cases em : m = n
    · subst em
      have hm : m < S.length := (List.getElem?_eq_some_iff.mp hn).1
      rw [List.getElem?_set_self hm] at e; cases e
      exact ⟨a, o, ha, h2, upd_same, hc⟩
    · rw [List.getElem?_set_ne (Ne.symm em)] at e
      obtain ⟨b, ho', g1, g2, g3, g4⟩ := r.live m c' e hc'
      have : b ≠ a := by
        rintro rfl
        exact em ((List.getElem_inj r.nd).mp ((List.getElem?_eq_some_iff.mp g1).2.trans (List.getElem?_eq_some_iff.mp ha).2.symm))
      exact ⟨b, ho', g1, g2, by rw [upd_ne this]; exact g3, g4⟩
/-- a cell becomes a value for good -/
theorem StR.frz {G : Gc} {S : Store} {W : Wd} {H : Hp} (r : StR G S W H) {n : Nat} {a : Addr} {c0 : Cell} {o : HO} (hn : S[n]? = some c0) (h0 : c0 ≠ .dead) (ha : W.μ[n]? = some a) (ho : H a = some o) :
    W.le ⟨upd W.Z a o, W.μ, W.F⟩ ∧ StR G (S.set n .dead) ⟨upd W.Z a o, W.μ, W.F⟩ H := by
  obtain ⟨a', ho', h1, h2, h3, h4⟩ := r.live n c0 hn h0
  rw [ha] at h1; cases h1
  have hle : W.le ⟨upd W.Z a o, W.μ, W.F⟩ := by
    refine ⟨rfl, fun q u h => ?_, [], by simp⟩
    have hq : q ≠ a := by rintro rfl; rw [h2] at h; cases h
    show upd W.Z a o q = some u
    rw [upd_ne hq]; exact h
  refine ⟨hle, ⟨fun q u h => ?_, by simp [r.len], r.nd, r.th, fun q hq => ?_, fun q u hq => ?_, fun m c' e hc' => ?_⟩⟩
  · have h' : upd W.Z a o q = some u := h
    by_cases hq : q = a
    · subst hq
      rw [upd_same] at h'; cases h'
      exact .inl ho
    · rw [upd_ne hq] at h'
      exact r.z q u h'
  · have : q ≠ a := by rintro rfl; rw [ho] at hq; cases hq
    show upd W.Z a o q = none
    rw [upd_ne this]; exact r.zt q hq
  · obtain ⟨f1, f2, f3⟩ := r.fr q u hq
    have hqa : q ≠ a := by rintro rfl; exact f3 (List.mem_of_getElem? ha)
    exact ⟨f1, by show upd W.Z a o q = none; rw [upd_ne hqa]; exact f2, f3⟩
  · by_cases em : m = n
    · subst em
      have hm : m < S.length := (List.getElem?_eq_some_iff.mp hn).1
      rw [List.getElem?_set_self hm] at e; cases e
      exact absurd rfl hc'
    · rw [List.getElem?_set_ne (Ne.symm em)] at e
      obtain ⟨b, ho', g1, g2, g3, g4⟩ := r.live m c' e hc'
      have : b ≠ a := by
        rintro rfl
        exact em ((List.getElem_inj r.nd).mp ((List.getElem?_eq_some_iff.mp g1).2.trans (List.getElem?_eq_some_iff.mp ha).2.symm))
      exact ⟨b, ho', g1, by show upd W.Z a o b = none; rw [upd_ne this]; exact g2, g3, g4.mo hle⟩

/-! Rep looks at what stands for good and at the places of the cells alone -/
mutual
theorem Rep.frame {K : Kf} {W : Wd} (F : Hp) : ∀ {d : D} {v : V}, Rep K W d v → Rep K ⟨W.Z, W.μ, F⟩ d v
  | _, _, .non => .non
  | _, _, .bl b => .bl b
  | _, _, .int i => .int i
  | _, _, .str x => .str x
  | _, _, .tup h r => .tup h (RepL.frame F r)
  | _, _, .scr h r => .scr h (RepL.frame F r)
  | _, _, .lst h r => .lst h (RepL.frame F r)
  | _, _, .dic h e r => .dic h e (RepL.frame F r)
  | _, _, .ref h => .ref h
theorem RepL.frame {K : Kf} {W : Wd} (F : Hp) : ∀ {d : List D} {v : List V}, RepL K W d v → RepL K ⟨W.Z, W.μ, F⟩ d v
  | _, _, .nil => .nil
  | _, _, .cons h r => .cons (Rep.frame F h) (RepL.frame F r)
end
theorem CellR.frame {K : Kf} {W : Wd} {cA : Nat → Addr} (F : Hp) {c : Cell} {o : HO} (h : CellR K W cA c o) : CellR K ⟨W.Z, W.μ, F⟩ cA c o := by
  cases h with
  | lst r => exact .lst (r.frame F)
  | dic e r => exact .dic e (r.frame F)
  | ins e r => exact .ins e (r.frame F)
/-- one more object is watched -/
theorem StR.watch {G : Gc} {S : Store} {W : Wd} {H : Hp} (r : StR G S W H) {p : Addr} {o : HO} (h1 : H p = some o) (h2 : W.Z p = none) (h3 : p ∉ W.μ) : StR G S ⟨W.Z, W.μ, upd W.F p o⟩ H :=
  ⟨r.z, r.len, r.nd, r.th, r.zt, fun q u hq => by
    by_cases e : q = p
    · subst e
      have hq' : upd W.F q o q = some u := hq
      rw [upd_same] at hq'; cases hq'
      exact ⟨h1, h2, h3⟩
    · have hq' : upd W.F p o q = some u := hq
      rw [upd_ne e] at hq'
      exact r.fr q u hq', fun n c e hc => let ⟨a, ho, g1, g2, g3, g4⟩ := r.live n c e hc; ⟨a, ho, g1, g2, g3, g4.frame _⟩⟩
/-- a watched object is written, its watch ends -/
theorem StR.unwatch {G : Gc} {S : Store} {W : Wd} {H : Hp} {F : Hp} (r : StR G S W H) {p : Addr} {o : HO} (hp : W.F p ≠ none) (hF : ∀ q u, F q = some u → q ≠ p ∧ W.F q = some u) : StR G S ⟨W.Z, W.μ, F⟩ (upd H p o) := by
  obtain ⟨o0, e0⟩ := Option.ne_none_iff_exists'.mp hp
  obtain ⟨f1, f2, f3⟩ := r.fr p o0 e0
  refine ⟨fun q u h => ?_, r.len, r.nd, fun q hq => ?_, fun q hq => ?_, fun q u hq => ?_, fun n c e hc => ?_⟩
  · have hq : q ≠ p := by rintro rfl; have h' : W.Z q = some u := h; rw [f2] at h'; cases h'
    rw [upd_ne hq]; exact r.z q u h
  · have : q ≠ p := by rintro rfl; exact f3 hq
    rw [upd_ne this]; exact r.th q hq
  · by_cases e : q = p
    · subst e; rw [upd_same] at hq; cases hq
    · rw [upd_ne e] at hq; exact r.zt q hq
  · obtain ⟨n1, n2⟩ := hF q u hq
    obtain ⟨g1, g2, g3⟩ := r.fr q u n2
    exact ⟨by rw [upd_ne n1]; exact g1, g2, g3⟩
  · obtain ⟨a, ho, g1, g2, g3, g4⟩ := r.live n c e hc
    have : a ≠ p := by rintro rfl; exact f3 (List.mem_of_getElem? g1)
    exact ⟨a, ho, g1, g2, by rw [upd_ne this]; exact g3, g4.frame _⟩

/-- a watched object becomes a value for good -/
theorem StR.keep {G : Gc} {S : Store} {W : Wd} {H : Hp} {F : Hp} (r : StR G S W H) {p : Addr} {o : HO} (hp : W.F p = some o) (hF : ∀ q u, F q = some u → q ≠ p ∧ W.F q = some u) : StR G S ⟨upd W.Z p o, W.μ, F⟩ H := by
  obtain ⟨f1, f2, f3⟩ := r.fr p o hp
  have hs : W.sub ⟨upd W.Z p o, W.μ, F⟩ := ⟨fun q u h => by
    have hq : q ≠ p := by rintro rfl; rw [f2] at h; cases h
    show upd W.Z p o q = some u
    rw [upd_ne hq]; exact h, [], by simp⟩
  refine ⟨fun q u h => ?_, r.len, r.nd, r.th, fun q hq => ?_, fun q u hq => ?_, fun n c e hc => ?_⟩
  · have h' : upd W.Z p o q = some u := h
    by_cases e : q = p
    · subst e; rw [upd_same] at h'; cases h'; exact .inl f1
    · rw [upd_ne e] at h'; exact r.z q u h'
  · have : q ≠ p := by rintro rfl; rw [f1] at hq; cases hq
    show upd W.Z p o q = none
    rw [upd_ne this]; exact r.zt q hq
  · obtain ⟨n1, n2⟩ := hF q u hq
    obtain ⟨g1, g2, g3⟩ := r.fr q u n2
    exact ⟨g1, by show upd W.Z p o q = none; rw [upd_ne n1]; exact g2, g3⟩
  · obtain ⟨a, ho, g1, g2, g3, g4⟩ := r.live n c e hc
    have : a ≠ p := by rintro rfl; exact f3 (List.mem_of_getElem? g1)
    refine ⟨a, ho, g1, by show upd W.Z p o a = none; rw [upd_ne this]; exact g2, g3, ?_⟩
    cases g4 with
    | lst r => exact .lst (r.ms hs)
    | dic e2 r => exact .dic e2 (r.ms hs)
    | ins e2 r => exact .ins e2 (r.ms hs)
/-- a watched object becomes a cell -/
theorem StR.adopt {G : Gc} {S : Store} {W : Wd} {H : Hp} {F : Hp} (r : StR G S W H) {p : Addr} {o : HO} {c : Cell} (hp : W.F p = some o) (hF : ∀ q u, F q = some u → q ≠ p ∧ W.F q = some u) (hc : CellR G.K W G.cA c o) : StR G (S ++ [c]) ⟨W.Z, W.μ ++ [p], F⟩ H := by
  obtain ⟨f1, f2, f3⟩ := r.fr p o hp
  have hs : W.sub ⟨W.Z, W.μ ++ [p], F⟩ := ⟨fun q u h => h, [p], rfl⟩
  have mv : ∀ {c : Cell} {o : HO}, CellR G.K W G.cA c o → CellR G.K ⟨W.Z, W.μ ++ [p], F⟩ G.cA c o := fun {c o} h => by
    cases h with
    | lst r => exact .lst (r.ms hs)
    | dic e r => exact .dic e (r.ms hs)
    | ins e r => exact .ins e (r.ms hs)
  refine ⟨r.z, by simp [r.len], ?_, fun q hq => ?_, r.zt, fun q u hq => ?_, fun n c' e hc' => ?_⟩
  · rw [List.nodup_append]
    exact ⟨r.nd, by simp, by intro a ha b hb e; simp at hb; subst hb; subst e; exact f3 ha⟩
  · rcases List.mem_append.mp hq with h1 | h1
    · exact r.th q h1
    · simp at h1; subst h1; rw [f1]; simp
  · obtain ⟨n1, n2⟩ := hF q u hq
    obtain ⟨g1, g2, g3⟩ := r.fr q u n2
    exact ⟨g1, g2, fun h => (List.mem_append.mp h).elim g3 fun h2 => n1 (by simpa using h2)⟩
  · by_cases hn : n < S.length
    · rw [List.getElem?_append_left hn] at e
      obtain ⟨a, ho, h1, h2, h3, h4⟩ := r.live n c' e hc'
      exact ⟨a, ho, hs.get h1, h2, h3, mv h4⟩
    · have e' : n = S.length := by
        have := (List.getElem?_eq_some_iff.mp e).1
        simp at this; omega
      subst e'
      simp at e; subst e
      exact ⟨p, o, by simp [← r.len], f2, f1, mv hc⟩

/-! ### a value as it is to be read now -/
def vw (S : Store) : D → D
  | .ref n => match S[n]? with
    | some (.lst xs) => .lst xs
    | some (.dic ks vs) => .dic ks vs
    | _ => .ref n
  | d => d
inductive Now (G : Gc) (W : Wd) (H : Hp) : D → V → Prop
  | non : Now G W H .non .non
  | bl (b : Bool) : Now G W H (.bl b) (.bl b)
  | int (i : Int) : Now G W H (.int i) (.int i)
  | str (x : Str) : Now G W H (.str x) (.str x)
  | tup {a : Addr} {vs : List V} {ds : List D} : SqT G.K W.Z a vs → RepL G.K W ds vs → Now G W H (.tup ds) (.ref a)
  | lst {a : Addr} {vs : List V} {ds : List D} : H a = some (.lst vs) → RepL G.K W ds vs → Now G W H (.lst ds) (.ref a)
  | scr {a : Addr} {vs : List V} {ds : List D} : SqL G.K W.Z a vs → RepL G.K W ds vs → Now G W H (.scr ds) (.ref a)
  | dic {a : Addr} {ks : List Key} {vs : List V} {ds : List D} : Rd H a (.dK (ks.zip vs)) → ks.length = ds.length → RepL G.K W ds vs → Now G W H (.dic ks ds) (.ref a)
  | ref {n : Nat} {a : Addr} : W.μ[n]? = some a → Now G W H (.ref n) (.ref a)
theorem Rep.now {G : Gc} {S : Store} {W : Wd} {H : Hp} (s : StR G S W H) {d : D} {v : V} (r : Rep G.K W d v) : Now G W H d v := by
  cases r with
  | non => exact .non
  | bl b => exact .bl b
  | int i => exact .int i
  | str x => exact .str x
  | tup h r => exact .tup h r
  | lst h r => exact .lst (s.lst h) r
  | scr h r => exact .scr h r
  | dic h e r => exact .dic (s.rd (.inl h)) e r
  | ref h => exact .ref h
theorem Rep.vw {G : Gc} {S : Store} {W : Wd} {H : Hp} (s : StR G S W H) {d : D} {v : V} (r : Rep G.K W d v) : Now G W H (vw S d) v := by
  cases r with
  | ref h =>
    rename_i n a
    cases e : S[n]? with
    | none => simp only [Lt.vw, e]; exact .ref h
    | some c =>
      cases c with
      | lst xs =>
        obtain ⟨a', ho, h1, h2, h3, h4⟩ := s.live n _ e (by simp)
        rw [h] at h1; cases h1
        simp only [Lt.vw, e]
        cases h4 with
        | lst r => exact .lst h3 r
      | dic ks vs =>
        obtain ⟨a', ho, h1, h2, h3, h4⟩ := s.live n _ e (by simp)
        rw [h] at h1; cases h1
        simp only [Lt.vw, e]
        cases h4 with
        | dic q r => exact .dic (.inl h3) q r
      | ins c fs => simp only [Lt.vw, e]; exact .ref h
      | dead => simp only [Lt.vw, e]; exact .ref h
  | non => exact Rep.now s .non
  | bl b => exact Rep.now s (.bl b)
  | int i => exact Rep.now s (.int i)
  | str x => exact Rep.now s (.str x)
  | tup h r => exact Rep.now s (.tup h r)
  | lst h r => exact Rep.now s (.lst h r)
  | scr h r => exact Rep.now s (.scr h r)
  | dic h e r => exact Rep.now s (.dic h e r)
end Lt
set_option maxRecDepth 100000
set_option maxHeartbeats 4000000
namespace Lt
open PySem PySem.Spec PyProof.Rows L2

/-! ### readings of functions upon data -/
abbrev SV := List (Option D)
abbrev EF := SV → Store → Res D
abbrev TF := SV → Store → Res Bool
abbrev AF := SV → Store → Res (List D)
inductive SRes where
  | nx (env : SV) (S : Store) | rt (d : D) (S : Store) | bk (env : SV) (S : Store) | ct (env : SV) (S : Store) | ex (c : Nat) (d : D) (env : SV) (S : Store) | bad
abbrev SF := SV → Store → SRes
@[reducible] def Res.bind {α β : Type} (r : Res α) (f : α → Store → Res β) : Res β := match r with
  | .ok a S => f a S
  | .exc c d S => .exc c d S
  | .bad => .bad
@[reducible] def Res.bindS {α : Type} (r : Res α) (env : SV) (f : α → Store → SRes) : SRes := match r with
  | .ok a S => f a S
  | .exc c d S => .ex c d env S
  | .bad => .bad
def EnvR (K : Kf) (W : Wd) (env : SV) (σ : L2.St) : Prop := env.length = σ.length ∧ ∀ (i : Nat) (d : D), env[i]? = some (some d) → ∃ v, σ[i]? = some (some v) ∧ Rep K W d v
theorem EnvR.mo {K : Kf} {W W' : Wd} {env : SV} {σ : L2.St} (h : EnvR K W env σ) (l : W.le W') : EnvR K W' env σ :=
  ⟨h.1, fun i d e => let ⟨v, h1, h2⟩ := h.2 i d e; ⟨v, h1, h2.mo l⟩⟩
theorem EnvR.set {K : Kf} {W : Wd} {env : SV} {σ : L2.St} (h : EnvR K W env σ) {d : D} {v : V} (r : Rep K W d v) (i : Nat) : EnvR K W (env.set i (some d)) (σ.set i (some v)) := by
  refine ⟨by simp [h.1], fun j e he => ?_⟩
  by_cases hj : j = i
  · subst hj
    have hl : j < env.length := by
      have := (List.getElem?_eq_some_iff.mp he).1
      simpa using this
    rw [List.getElem?_set_self hl] at he
    cases he
    exact ⟨v, List.getElem?_set_self (by rw [← h.1]; exact hl), r⟩
  · rw [List.getElem?_set_ne (Ne.symm hj)] at he
    obtain ⟨u, h1, h2⟩ := h.2 j e he
    exact ⟨u, by rw [List.getElem?_set_ne (Ne.symm hj)]; exact h1, h2⟩
theorem EnvR.unset {K : Kf} {W : Wd} {env : SV} {σ : L2.St} (h : EnvR K W env σ) (i : Nat) (x : Option V) : EnvR K W (env.set i none) (σ.set i x) := by
  refine ⟨by simp [h.1], fun j e he => ?_⟩
  by_cases hj : j = i
  · subst hj
    have hl : j < env.length := by
      have := (List.getElem?_eq_some_iff.mp he).1
      simpa using this
    rw [List.getElem?_set_self hl] at he
    cases he
  · rw [List.getElem?_set_ne (Ne.symm hj)] at he
    obtain ⟨u, h1, h2⟩ := h.2 j e he
    exact ⟨u, by rw [List.getElem?_set_ne (Ne.symm hj)]; exact h1, h2⟩

/-- how an exception's own dict lies -/
def ExcR (G : Gc) (W : Wd) (H : Hp) (c : Nat) (d : D) (dx : Option Addr) : Prop := match G.fld c with
  | some f => ∃ a v, dx = some a ∧ H a = some (.xd [(f, v)]) ∧ Rep G.K W d v
  | none => True
section
variable (G : Gc) (Wx : WX)
def OutR {α : Type} (W : Wd) (σ : L2.St) (P : α → Store → Prop) : Res α → Prop
  | .ok a S => P a S
  | .exc c d S => ∀ dx H' W', W.le W' → StR G S W' H' → ExcR G W' H' c d dx → Wx (.ref (G.cA c)) dx σ H'
  | .bad => False
def Pe (W : Wd) (Q : VK) (d : D) (S : Store) : Prop := ∀ v H W', W.le W' → StR G S W' H → Rep G.K W' d v → Q v H
def Pt (W : Wd) (Q : Bool → Hp → Prop) (b : Bool) (S : Store) : Prop := ∀ H W', W.le W' → StR G S W' H → Q b H
def Pa (W : Wd) (Q : List V → Hp → Prop) (ds : List D) (S : Store) : Prop := ∀ vs H W', W.le W' → StR G S W' H → RepL G.K W' ds vs → Q vs H
def tE (f : EF) : TE := fun σ H Q => ∃ env S W, StR G S W H ∧ EnvR G.K W env σ ∧ OutR G Wx W σ (Pe G W Q) (f env S)
def tT (f : TF) : TT := fun σ H Q => ∃ env S W, StR G S W H ∧ EnvR G.K W env σ ∧ OutR G Wx W σ (Pt G W Q) (f env S)
def tA (f : AF) : TA := fun σ H Q => ∃ env S W, StR G S W H ∧ EnvR G.K W env σ ∧ OutR G Wx W σ (Pa G W Q) (f env S)
def OutS (W : Wd) (Dn : Ends) : SRes → Prop
  | .nx env S => ∀ σ' H' W', W.le W' → StR G S W' H' → EnvR G.K W' env σ' → Dn.nx σ' H'
  | .rt d S => ∀ v H' W', W.le W' → StR G S W' H' → Rep G.K W' d v → Dn.rt v H'
  | .bk env S => ∀ σ' H' W', W.le W' → StR G S W' H' → EnvR G.K W' env σ' → Dn.bk σ' H'
  | .ct env S => ∀ σ' H' W', W.le W' → StR G S W' H' → EnvR G.K W' env σ' → Dn.ct σ' H'
  | .ex c d env S => ∀ dx σ' H' W', W.le W' → StR G S W' H' → EnvR G.K W' env σ' → ExcR G W' H' c d dx → Wx (.ref (G.cA c)) dx σ' H'
  | .bad => False
def tS (f : SF) : TS := fun Dn σ H => ∃ env S W, StR G S W H ∧ EnvR G.K W env σ ∧ OutS G Wx W Dn (f env S)
end
section
variable {G : Gc} {Wx : WX} {W W' : Wd} {σ : L2.St} {H : Hp} {env : SV} {S : Store}
theorem Pe.mo {Q : VK} {d : D} (l : W.le W') (h : Pe G W Q d S) : Pe G W' Q d S := fun v H' W'' l' r q => h v H' W'' (l.trans l') r q
theorem Pt.mo {Q : Bool → Hp → Prop} {d : Bool} (l : W.le W') (h : Pt G W Q d S) : Pt G W' Q d S := fun H' W'' l' r => h H' W'' (l.trans l') r
theorem Pa.mo {Q : List V → Hp → Prop} {d : List D} (l : W.le W') (h : Pa G W Q d S) : Pa G W' Q d S := fun v H' W'' l' r q => h v H' W'' (l.trans l') r q
theorem OutR.imp {α : Type} {P P' : α → Store → Prop} {r : Res α} (l : W.le W') (h : OutR G Wx W σ P r) (k : ∀ a S, P a S → P' a S) : OutR G Wx W' σ P' r := by
  cases r with
  | ok a S => exact k a S h
  | exc c d S => exact fun dx H' W'' l' r q => h dx H' W'' (l.trans l') r q
  | bad => exact h
theorem OutR.bind {α β : Type} {P : β → Store → Prop} {r : Res α} {f : α → Store → Res β} (h : OutR G Wx W σ P (r.bind f)) : OutR G Wx W σ (fun a S => OutR G Wx W σ P (f a S)) r := by
  cases r with
  | ok a S => exact h
  | exc c d S => exact h
  | bad => exact h
theorem OutS.mo {Dn : Ends} {r : SRes} (l : W.le W') (h : OutS G Wx W Dn r) : OutS G Wx W' Dn r := by
  cases r with
  | nx env S => exact fun σ' H' W'' l' => h σ' H' W'' (l.trans l')
  | rt d S => exact fun σ' H' W'' l' => h σ' H' W'' (l.trans l')
  | bk env S => exact fun σ' H' W'' l' => h σ' H' W'' (l.trans l')
  | ct env S => exact fun σ' H' W'' l' => h σ' H' W'' (l.trans l')
  | ex c d env S => exact fun dx σ' H' W'' l' => h dx σ' H' W'' (l.trans l')
  | bad => exact h
theorem OutS.bind {α : Type} {Dn : Ends} {r : Res α} {f : α → Store → SRes} (he : EnvR G.K W env σ) (h : OutS G Wx W Dn (r.bindS env f)) : OutR G Wx W σ (fun a S => OutS G Wx W Dn (f a S)) r := by
  cases r with
  | ok a S => exact h
  | exc c d S => exact fun dx H' W' l r q => h dx σ H' W' l r (he.mo l) q
  | bad => exact h
/-- run f here, go on with what is good -/
theorem tE_go {f : EF} {Good : D → Store → Wd → Prop} (hs : StR G S W H) (he : EnvR G.K W env σ) (h : OutR G Wx W σ (fun d S1 => ∀ W1, W.le W1 → Good d S1 W1) (f env S)) :
    tE G Wx f σ H fun v H1 => ∃ S1 W1 d, W.le W1 ∧ StR G S1 W1 H1 ∧ EnvR G.K W1 env σ ∧ Rep G.K W1 d v ∧ Good d S1 W1 :=
  ⟨env, S, W, hs, he, h.imp (.refl _) fun d S1 g v H1 W1 l r q => ⟨S1, W1, d, l, r, he.mo l, q, g W1 l⟩⟩
theorem tT_go {f : TF} {Good : Bool → Store → Wd → Prop} (hs : StR G S W H) (he : EnvR G.K W env σ) (h : OutR G Wx W σ (fun d S1 => ∀ W1, W.le W1 → Good d S1 W1) (f env S)) :
    tT G Wx f σ H fun b H1 => ∃ S1 W1, W.le W1 ∧ StR G S1 W1 H1 ∧ EnvR G.K W1 env σ ∧ Good b S1 W1 :=
  ⟨env, S, W, hs, he, h.imp (.refl _) fun d S1 g H1 W1 l r => ⟨S1, W1, l, r, he.mo l, g W1 l⟩⟩
theorem tA_go {f : AF} {Good : List D → Store → Wd → Prop} (hs : StR G S W H) (he : EnvR G.K W env σ) (h : OutR G Wx W σ (fun d S1 => ∀ W1, W.le W1 → Good d S1 W1) (f env S)) :
    tA G Wx f σ H fun v H1 => ∃ S1 W1 d, W.le W1 ∧ StR G S1 W1 H1 ∧ EnvR G.K W1 env σ ∧ RepL G.K W1 d v ∧ Good d S1 W1 :=
  ⟨env, S, W, hs, he, h.imp (.refl _) fun d S1 g v H1 W1 l r q => ⟨S1, W1, d, l, r, he.mo l, q, g W1 l⟩⟩
/-- the usual: f, then k -/
theorem tE_then {f : EF} {α : Type} {k : D → Store → Res α} {P : Wd → α → Store → Prop} (hP : ∀ {W W' : Wd} {a : α} {S : Store}, W.le W' → P W a S → P W' a S) (hs : StR G S W H) (he : EnvR G.K W env σ) (h : OutR G Wx W σ (P W) ((f env S).bind k)) :
    tE G Wx f σ H fun v H1 => ∃ S1 W1 d, W.le W1 ∧ StR G S1 W1 H1 ∧ EnvR G.K W1 env σ ∧ Rep G.K W1 d v ∧ OutR G Wx W1 σ (P W1) (k d S1) :=
  tE_go hs he (h.bind.imp (.refl _) fun _ _ q _ l => q.imp l fun _ _ z => hP l z)
theorem tT_then {f : TF} {α : Type} {k : Bool → Store → Res α} {P : Wd → α → Store → Prop} (hP : ∀ {W W' : Wd} {a : α} {S : Store}, W.le W' → P W a S → P W' a S) (hs : StR G S W H) (he : EnvR G.K W env σ) (h : OutR G Wx W σ (P W) ((f env S).bind k)) :
    tT G Wx f σ H fun b H1 => ∃ S1 W1, W.le W1 ∧ StR G S1 W1 H1 ∧ EnvR G.K W1 env σ ∧ OutR G Wx W1 σ (P W1) (k b S1) :=
  tT_go hs he (h.bind.imp (.refl _) fun _ _ q _ l => q.imp l fun _ _ z => hP l z)
theorem tA_then {f : AF} {α : Type} {k : List D → Store → Res α} {P : Wd → α → Store → Prop} (hP : ∀ {W W' : Wd} {a : α} {S : Store}, W.le W' → P W a S → P W' a S) (hs : StR G S W H) (he : EnvR G.K W env σ) (h : OutR G Wx W σ (P W) ((f env S).bind k)) :
    tA G Wx f σ H fun v H1 => ∃ S1 W1 d, W.le W1 ∧ StR G S1 W1 H1 ∧ EnvR G.K W1 env σ ∧ RepL G.K W1 d v ∧ OutR G Wx W1 σ (P W1) (k d S1) :=
  tA_go hs he (h.bind.imp (.refl _) fun _ _ q _ l => q.imp l fun _ _ z => hP l z)
theorem tE_e {f : EF} {k : D → Store → Res (D)} {Q : VK} (hs : StR G S W H) (he : EnvR G.K W env σ) (h : OutR G Wx W σ (Pe G W Q) ((f env S).bind k)) :
    tE G Wx f σ H fun v H1 => ∃ S1 W1 d, W.le W1 ∧ StR G S1 W1 H1 ∧ EnvR G.K W1 env σ ∧ Rep G.K W1 d v ∧ OutR G Wx W1 σ (Pe G W1 Q) (k d S1) :=
  tE_then (P := fun W => Pe G W Q) (fun l z => Pe.mo l z) hs he h
theorem tE_t {f : EF} {k : D → Store → Res (Bool)} {Q : Bool → Hp → Prop} (hs : StR G S W H) (he : EnvR G.K W env σ) (h : OutR G Wx W σ (Pt G W Q) ((f env S).bind k)) :
    tE G Wx f σ H fun v H1 => ∃ S1 W1 d, W.le W1 ∧ StR G S1 W1 H1 ∧ EnvR G.K W1 env σ ∧ Rep G.K W1 d v ∧ OutR G Wx W1 σ (Pt G W1 Q) (k d S1) :=
  tE_then (P := fun W => Pt G W Q) (fun l z => Pt.mo l z) hs he h
theorem tE_a {f : EF} {k : D → Store → Res (List D)} {Q : List V → Hp → Prop} (hs : StR G S W H) (he : EnvR G.K W env σ) (h : OutR G Wx W σ (Pa G W Q) ((f env S).bind k)) :
    tE G Wx f σ H fun v H1 => ∃ S1 W1 d, W.le W1 ∧ StR G S1 W1 H1 ∧ EnvR G.K W1 env σ ∧ Rep G.K W1 d v ∧ OutR G Wx W1 σ (Pa G W1 Q) (k d S1) :=
  tE_then (P := fun W => Pa G W Q) (fun l z => Pa.mo l z) hs he h
theorem tT_e {f : TF} {k : Bool → Store → Res (D)} {Q : VK} (hs : StR G S W H) (he : EnvR G.K W env σ) (h : OutR G Wx W σ (Pe G W Q) ((f env S).bind k)) :
    tT G Wx f σ H fun b H1 => ∃ S1 W1, W.le W1 ∧ StR G S1 W1 H1 ∧ EnvR G.K W1 env σ ∧ OutR G Wx W1 σ (Pe G W1 Q) (k b S1) :=
  tT_then (P := fun W => Pe G W Q) (fun l z => Pe.mo l z) hs he h
theorem tT_t {f : TF} {k : Bool → Store → Res (Bool)} {Q : Bool → Hp → Prop} (hs : StR G S W H) (he : EnvR G.K W env σ) (h : OutR G Wx W σ (Pt G W Q) ((f env S).bind k)) :
    tT G Wx f σ H fun b H1 => ∃ S1 W1, W.le W1 ∧ StR G S1 W1 H1 ∧ EnvR G.K W1 env σ ∧ OutR G Wx W1 σ (Pt G W1 Q) (k b S1) :=
  tT_then (P := fun W => Pt G W Q) (fun l z => Pt.mo l z) hs he h
theorem tT_a {f : TF} {k : Bool → Store → Res (List D)} {Q : List V → Hp → Prop} (hs : StR G S W H) (he : EnvR G.K W env σ) (h : OutR G Wx W σ (Pa G W Q) ((f env S).bind k)) :
    tT G Wx f σ H fun b H1 => ∃ S1 W1, W.le W1 ∧ StR G S1 W1 H1 ∧ EnvR G.K W1 env σ ∧ OutR G Wx W1 σ (Pa G W1 Q) (k b S1) :=
  tT_then (P := fun W => Pa G W Q) (fun l z => Pa.mo l z) hs he h
theorem tA_e {f : AF} {k : List D → Store → Res (D)} {Q : VK} (hs : StR G S W H) (he : EnvR G.K W env σ) (h : OutR G Wx W σ (Pe G W Q) ((f env S).bind k)) :
    tA G Wx f σ H fun v H1 => ∃ S1 W1 d, W.le W1 ∧ StR G S1 W1 H1 ∧ EnvR G.K W1 env σ ∧ RepL G.K W1 d v ∧ OutR G Wx W1 σ (Pe G W1 Q) (k d S1) :=
  tA_then (P := fun W => Pe G W Q) (fun l z => Pe.mo l z) hs he h
theorem tA_t {f : AF} {k : List D → Store → Res (Bool)} {Q : Bool → Hp → Prop} (hs : StR G S W H) (he : EnvR G.K W env σ) (h : OutR G Wx W σ (Pt G W Q) ((f env S).bind k)) :
    tA G Wx f σ H fun v H1 => ∃ S1 W1 d, W.le W1 ∧ StR G S1 W1 H1 ∧ EnvR G.K W1 env σ ∧ RepL G.K W1 d v ∧ OutR G Wx W1 σ (Pt G W1 Q) (k d S1) :=
  tA_then (P := fun W => Pt G W Q) (fun l z => Pt.mo l z) hs he h
theorem tA_a {f : AF} {k : List D → Store → Res (List D)} {Q : List V → Hp → Prop} (hs : StR G S W H) (he : EnvR G.K W env σ) (h : OutR G Wx W σ (Pa G W Q) ((f env S).bind k)) :
    tA G Wx f σ H fun v H1 => ∃ S1 W1 d, W.le W1 ∧ StR G S1 W1 H1 ∧ EnvR G.K W1 env σ ∧ RepL G.K W1 d v ∧ OutR G Wx W1 σ (Pa G W1 Q) (k d S1) :=
  tA_then (P := fun W => Pa G W Q) (fun l z => Pa.mo l z) hs he h
theorem tE_thenS {f : EF} {k : D → Store → SRes} {Dn : Ends} (hs : StR G S W H) (he : EnvR G.K W env σ) (h : OutS G Wx W Dn ((f env S).bindS env k)) :
    tE G Wx f σ H fun v H1 => ∃ S1 W1 d, W.le W1 ∧ StR G S1 W1 H1 ∧ EnvR G.K W1 env σ ∧ Rep G.K W1 d v ∧ OutS G Wx W1 Dn (k d S1) :=
  tE_go hs he ((OutS.bind he h).imp (.refl _) fun _ _ q _ l => q.mo l)
theorem tT_thenS {f : TF} {k : Bool → Store → SRes} {Dn : Ends} (hs : StR G S W H) (he : EnvR G.K W env σ) (h : OutS G Wx W Dn ((f env S).bindS env k)) :
    tT G Wx f σ H fun b H1 => ∃ S1 W1, W.le W1 ∧ StR G S1 W1 H1 ∧ EnvR G.K W1 env σ ∧ OutS G Wx W1 Dn (k b S1) :=
  tT_go hs he ((OutS.bind he h).imp (.refl _) fun _ _ q _ l => q.mo l)
end
section
variable {X : Cx} {e : Expr} {es : List Expr} {sts : List Stmt} {st : Stmt}
theorem _root_.L2.PE.imp {t t' : TE} (h : PE X e t) (k : ∀ σ H Q, t' σ H Q → t σ H Q) : PE X e t' := ⟨fun pins s σ H Q I w => h.run pins s σ H Q I (k σ H Q w)⟩
theorem _root_.L2.PT.imp {t t' : TT} (h : PT X e t) (k : ∀ σ H Q, t' σ H Q → t σ H Q) : PT X e t' := ⟨fun pins s σ H Q I w => h.run pins s σ H Q I (k σ H Q w)⟩
theorem _root_.L2.PW.imp {t t' : TT} (h : PW X e t) (k : ∀ σ H Q, t' σ H Q → t σ H Q) : PW X e t' := ⟨fun wh pins s σ H Q I w => h.run wh pins s σ H Q I (k σ H Q w)⟩
theorem _root_.L2.PA.imp {t t' : TA} (h : PA X es t) (k : ∀ σ H Q, t' σ H Q → t σ H Q) : PA X es t' := ⟨fun p pins s σ H Q I w => h.run p pins s σ H Q I (k σ H Q w)⟩
theorem _root_.L2.PS.imp {t t' : TS} (h : PS X st t) (k : ∀ Dn σ H, t' Dn σ H → t Dn σ H) : PS X st t' := ⟨fun pins s σ H Q I w => h.run pins s σ H Q I (k Q σ H w)⟩
theorem _root_.L2.PSs.imp {t t' : TS} (h : PSs X sts t) (k : ∀ Dn σ H, t' Dn σ H → t Dn σ H) : PSs X sts t' := ⟨fun pins s σ H Q I w => h.run pins s σ H Q I (k Q σ H w)⟩
theorem _root_.L2.PI.imp {tg : Expr} {t t' : TI} (h : PI X tg e t) (k : ∀ σ H Q, t' σ H Q → t σ H Q) : PI X tg e t' := ⟨fun pins s σ H Q I w => h.run pins s σ H Q I (k σ H Q w)⟩
end
end Lt
set_option maxRecDepth 100000
set_option maxHeartbeats 4000000
namespace Lt
open PySem PySem.Spec PyProof.Rows L2

/-! ### functions upon data, as one writes an expression -/
def var (i : Nat) : EF := fun env S => match env[i]? with
  | some (some d) => .ok d S
  | _ => .bad
def cst (d : D) : EF := fun _ S => .ok d S
def opt (r : Option D) (S : Store) : Res D := match r with
  | some d => .ok d S
  | none => .bad
def pU (go : D → Option D) (f : EF) : EF := fun env S => (f env S).bind fun a S1 => opt (go (vw S1 a)) S1
def pB (go : D → D → Option D) (f g : EF) : EF := fun env S => (f env S).bind fun a S1 => (g env S1).bind fun b S2 => opt (go (vw S2 a) (vw S2 b)) S2
def nilA : AF := fun _ S => .ok [] S
def consA (f : EF) (g : AF) : AF := fun env S => (f env S).bind fun a S1 => (g env S1).bind fun b S2 => .ok (a :: b) S2
def pN (go : List D → Option D) (f : AF) : EF := fun env S => (f env S).bind fun ds S1 => opt (go (ds.map (vw S1))) S1
def tupE (f : AF) : EF := fun env S => (f env S).bind fun ds S1 => if ds.length ≤ sizeLine then .ok (.tup ds) S1 else .bad
def lstE (f : AF) : EF := fun env S => (f env S).bind fun ds S1 => if ds.length ≤ sizeLine then .ok (.lst ds) S1 else .bad
def lstM (f : AF) : EF := fun env S => (f env S).bind fun ds S1 => if ds.length ≤ sizeLine then .ok (.ref S1.length) (S1 ++ [.lst ds]) else .bad
def truD : D → Option Bool
  | .non => some false
  | .bl b => some b
  | .int i => some (i != 0)
  | .str y => if y.length ≤ sizeLine then some ((y.length : Int) != 0) else none
  | .tup xs => some (!xs.isEmpty)
  | .lst xs => some (!xs.isEmpty)
  | .scr xs => some (!xs.isEmpty)
  | _ => none
def tst (f : EF) : TF := fun env S => (f env S).bind fun a S1 => match truD (vw S1 a) with
  | some b => .ok b S1
  | none => .bad
def notT (f : TF) : TF := fun env S => (f env S).bind fun b S1 => .ok (!b) S1
def andT (f g : TF) : TF := fun env S => (f env S).bind fun b S1 => if b = true then g env S1 else .ok false S1
def orT (f g : TF) : TF := fun env S => (f env S).bind fun b S1 => if b = true then .ok true S1 else g env S1
def ifE (c : TF) (f g : EF) : EF := fun env S => (c env S).bind fun b S1 => if b = true then f env S1 else g env S1
def andE (f g : EF) : EF := fun env S => (f env S).bind fun a S1 => match truD (vw S1 a) with
  | some true => g env S1
  | some false => .ok a S1
  | none => .bad
def orE (f g : EF) : EF := fun env S => (f env S).bind fun a S1 => match truD (vw S1 a) with
  | some true => .ok a S1
  | some false => g env S1
  | none => .bad
def notE (f : EF) : EF := fun env S => (f env S).bind fun a S1 => match truD (vw S1 a) with
  | some b => .ok (.bl !b) S1
  | none => .bad

/-! ### rules by values -/
def rDU (G : Gc) (go : D → Option D) : V → Hp → VK → Prop := fun x H Q => ∃ S W d r, StR G S W H ∧ Now G W H d x ∧ go d = some r ∧ Pe G W Q r S
def rDB (G : Gc) (go : D → D → Option D) : R2 := fun x y H Q => ∃ S W d e r, StR G S W H ∧ Now G W H d x ∧ Now G W H e y ∧ go d e = some r ∧ Pe G W Q r S
def NowL (G : Gc) (W : Wd) (H : Hp) : List D → List V → Prop := fun ds vs => Paired (fun v d => Now G W H d v) vs ds
def rDN (G : Gc) (go : List D → Option D) : List V → Hp → VK → Prop := fun xs H Q => ∃ S W ds r, StR G S W H ∧ NowL G W H ds xs ∧ go ds = some r ∧ Pe G W Q r S
theorem RepL.vw {G : Gc} {S : Store} {W : Wd} {H : Hp} (s : StR G S W H) : ∀ {ds : List D} {vs : List V}, RepL G.K W ds vs → NowL G W H (ds.map (vw S)) vs
  | _, _, .nil => .nil
  | _, _, .cons h r => .cons (h.vw s) (r.vw s)

section
variable {G : Gc} {Wx : WX} {X : Cx} {e e2 : Expr} {es : List Expr} {f g : EF} {h k : AF} {c c2 : TF} {pos : Pos}
theorem tE_mono {σ : L2.St} {H : Hp} {Q Q' : VK} (h : tE G Wx f σ H Q) (k : ∀ v H, Q v H → Q' v H) : tE G Wx f σ H Q' :=
  let ⟨env, S, W, hs, he, o⟩ := h
  ⟨env, S, W, hs, he, o.imp (.refl _) fun _ _ p v H' W' l r q => k v H' (p v H' W' l r q)⟩
theorem tA_mono {σ : L2.St} {H : Hp} {Q Q' : List V → Hp → Prop} (w : tA G Wx h σ H Q) (k : ∀ v H, Q v H → Q' v H) : tA G Wx h σ H Q' :=
  let ⟨env, S, W, hs, he, o⟩ := w
  ⟨env, S, W, hs, he, o.imp (.refl _) fun _ _ p v H' W' l r q => k v H' (p v H' W' l r q)⟩
theorem tT_mono {σ : L2.St} {H : Hp} {Q Q' : Bool → Hp → Prop} (w : tT G Wx c σ H Q) (k : ∀ v H, Q v H → Q' v H) : tT G Wx c σ H Q' :=
  let ⟨env, S, W, hs, he, o⟩ := w
  ⟨env, S, W, hs, he, o.imp (.refl _) fun _ _ p H' W' l r => k _ H' (p H' W' l r)⟩
theorem opt_out {σ : L2.St} {W : Wd} {Q : VK} {r : Option D} {S : Store} (h : OutR G Wx W σ (Pe G W Q) (opt r S)) : ∃ d, r = some d ∧ Pe G W Q d S := by
  cases r with
  | none => exact False.elim h
  | some d => exact ⟨d, rfl, h⟩

theorem pe_varD {i : Nat} {x : Str} (hN : X.N[i]? = some x) (hv : Vis X.env.scope x) (hd : (x == ("__debug__" : Str)) = false) (hcd : (x == ("__classdict__" : Str)) = false) : PE X (.Name x pos) (tE G Wx (var i)) :=
  (pe_var hN hv hd hcd).imp fun σ H Q ⟨env, S, W, hs, he, h⟩ => by
    unfold var at h
    split at h
    · rename_i d e
      obtain ⟨v, h1, h2⟩ := he.2 i d e
      exact ⟨v, h1, h v H W (.refl _) hs h2⟩
    · exact False.elim h
/-- a constant that is the same in every world -/
theorem pe_cst {d : D} {v : V} (hp : PE X e (tC v)) (r : ∀ W, Rep G.K W d v) : PE X e (tE G Wx (cst d)) :=
  hp.imp fun σ H Q ⟨env, S, W, hs, he, h⟩ => h v H W (.refl _) hs (r W)
theorem pe_bin {op : Operator} {go : D → D → Option D} (ho : OpR X (binaryOp op) (rDB G go)) (ha : PE X e (tE G Wx f)) (hb : PE X e2 (tE G Wx g)) : PE X (.BinOp e op e2 pos) (tE G Wx (pB go f g)) :=
  (pe_op ho ha hb).imp fun σ H Q ⟨env, S, W, hs, he, h⟩ =>
    tE_mono (tE_e hs he h) fun v H1 ⟨S1, W1, d, l1, s1, e1, r1, o1⟩ =>
      tE_mono (tE_e s1 e1 o1) fun u H2 ⟨S2, W2, d2, l2, s2, e2', r2, o2⟩ => by
        obtain ⟨r, hr, q⟩ := opt_out o2
        exact ⟨S2, W2, _, _, r, s2, (r1.mo l2).vw s2, r2.vw s2, hr, q⟩
theorem pe_cmpD {op : CmpOp} {go : D → D → Option D} (ho : OpR X (compareOp op) (rDB G go)) (ha : PE X e (tE G Wx f)) (hb : PE X e2 (tE G Wx g)) (hm : behindInMarks op e2 = false) : PE X (.Compare e [op] [e2] pos) (tE G Wx (pB go f g)) :=
  (pe_cmpR ho ha hb hm).imp fun σ H Q ⟨env, S, W, hs, he, h⟩ =>
    tE_mono (tE_e hs he h) fun v H1 ⟨S1, W1, d, l1, s1, e1, r1, o1⟩ =>
      tE_mono (tE_e s1 e1 o1) fun u H2 ⟨S2, W2, d2, l2, s2, e2', r2, o2⟩ => by
        obtain ⟨r, hr, q⟩ := opt_out o2
        exact ⟨S2, W2, _, _, r, s2, (r1.mo l2).vw s2, r2.vw s2, hr, q⟩
theorem pe_una {op : UnaryOp} {go : D → Option D} (ho : UnR X (unaryOp op) (rDU G go)) (ha : PE X e (tE G Wx f)) : PE X (.UnaryOp op e pos) (tE G Wx (pU go f)) :=
  (pe_un ho ha).imp fun σ H Q ⟨env, S, W, hs, he, h⟩ =>
    tE_mono (tE_e hs he h) fun v H1 ⟨S1, W1, d, l1, s1, e1, r1, o1⟩ => by
      obtain ⟨r, hr, q⟩ := opt_out o1
      exact ⟨S1, W1, _, r, s1, r1.vw s1, hr, q⟩
theorem pa_nilD : PA X [] (tA G Wx nilA) := pa_nil.imp fun σ H Q ⟨env, S, W, hs, he, h⟩ => h [] H W (.refl _) hs .nil
theorem pa_consD (ha : PE X e (tE G Wx f)) (hb : PA X es (tA G Wx h)) (hs : starEach (e :: es) X.env = (false, eval e X.env) :: starEach es X.env) : PA X (e :: es) (tA G Wx (consA f h)) :=
  (pa_cons ha hb hs).imp fun σ H Q ⟨env, S, W, hs, he, w⟩ =>
    tE_mono (tE_a hs he w) fun v H1 ⟨S1, W1, d, l1, s1, e1, r1, o1⟩ =>
      tA_mono (tA_a s1 e1 o1) fun u H2 ⟨S2, W2, d2, l2, s2, e2', r2, o2⟩ => o2 _ H2 W2 (.refl _) s2 (.cons (r1.mo l2) r2)
theorem pe_tupD {x1 : Nat} (ha : PA X es (tA G Wx h)) : PE X (.Tuple es x1 pos) (tE G Wx (tupE h)) :=
  (pe_tup ha).imp fun σ H Q ⟨env, S, W, hs, he, w⟩ =>
    tA_mono (tA_e hs he w) fun vs H1 ⟨S1, W1, ds, l1, s1, e1, r1, o1⟩ => by
      split at o1
      · rename_i hz
        refine ⟨by rw [← r1.len]; exact hz, fun p hp => ?_⟩
        obtain ⟨le, s2⟩ := s1.imm hp (.tup vs)
        exact o1 _ _ _ le s2 (.tup (SqT.of upd_same) (r1.mo le))
      · exact False.elim o1
theorem pe_lstD (ha : PA X es (tA G Wx h)) : PE X (.List es pos) (tE G Wx (lstE h)) :=
  (pe_lst ha).imp fun σ H Q ⟨env, S, W, hs, he, w⟩ =>
    tA_mono (tA_e hs he w) fun vs H1 ⟨S1, W1, ds, l1, s1, e1, r1, o1⟩ => by
      split at o1
      · rename_i hz
        refine ⟨by rw [← r1.len]; exact hz, fun p hp => ?_⟩
        obtain ⟨le, s2⟩ := s1.imm hp (.lst vs)
        exact o1 _ _ _ le s2 (.lst upd_same (r1.mo le))
      · exact False.elim o1
theorem pe_lstM (ha : PA X es (tA G Wx h)) : PE X (.List es pos) (tE G Wx (lstM h)) :=
  (pe_lst ha).imp fun σ H Q ⟨env, S, W, hs, he, w⟩ =>
    tA_mono (tA_e hs he w) fun vs H1 ⟨S1, W1, ds, l1, s1, e1, r1, o1⟩ => by
      split at o1
      · rename_i hz
        refine ⟨by rw [← r1.len]; exact hz, fun p hp => ?_⟩
        obtain ⟨le, s2⟩ := s1.new hp (.lst r1)
        exact o1 _ _ _ le s2 (.ref (by simp [← s1.len]))
      · exact False.elim o1
/-! truth -/
theorem truD_ok {S : Store} {W : Wd} {H : Hp} {d : D} {v : V} {b : Bool} (hs : StR G S W H) (n : Now G W H d v) (t : truD d = some b) : TruV G.K v H b := by
  cases n with
  | non => cases t; exact rfl
  | bl b => cases t; exact rfl
  | int i => cases t; exact rfl
  | str x =>
    have t' : (if x.length ≤ sizeLine then some ((x.length : Int) != 0) else none) = some b := t
    by_cases hz : x.length ≤ sizeLine
    · rw [if_pos hz] at t'; cases t'; exact ⟨hz, rfl⟩
    · rw [if_neg hz] at t'; cases t'
  | tup h r =>
    cases t
    refine .inr (.inl ⟨_, SqT.mo hs.rd h, ?_⟩)
    cases r <;> rfl
  | lst h r =>
    cases t
    refine .inl ⟨_, SqL.of h, ?_⟩
    cases r <;> rfl
  | scr h r =>
    cases t
    refine .inl ⟨_, SqL.mo hs.rd h, ?_⟩
    cases r <;> rfl
  | dic h e r => cases t
  | ref h => cases t
theorem pt_tst (hk : X.K = G.K) (ha : PE X e (tE G Wx f)) (he : ∀ whole, isTrue e X.env whole = (do let v ← whole; standAt e.pos; holding [v] (truthy v))) : PT X e (tT G Wx (tst f)) :=
  (pt_truth ha he).imp fun σ H Q ⟨env, S, W, hs, he, w⟩ =>
    tE_mono (tE_t hs he w) fun v H1 ⟨S1, W1, d, l1, s1, e1, r1, o1⟩ => by
      split at o1
      · rename_i b hb
        exact ⟨b, by rw [hk]; exact truD_ok s1 (r1.vw s1) hb, o1 H1 W1 (.refl _) s1⟩
      · exact False.elim o1
/-- a test that is a comparison -/
theorem pt_cmpD {op : CmpOp} {go : D → D → Option D} (hk : X.K = G.K) (ho : OpR X (compareOp op) (rDB G go)) (ha : PE X e (tE G Wx f)) (hb : PE X e2 (tE G Wx g)) (hm : behindInMarks op e2 = false)
    (hbl : ∀ a b r, go a b = some r → ∃ k, r = .bl k) : PT X (.Compare e [op] [e2] pos) (tT G Wx (tst (pB go f g))) :=
  (pt_cmpR ho ha hb hm).imp fun σ H Q ⟨env, S, W, hs, he, w⟩ => by
    have w2 : OutR G Wx W σ (Pt G W Q) ((f env S).bind fun a S1 => (g env S1).bind fun b S2 => (opt (go (vw S2 a) (vw S2 b)) S2).bind fun a S1 => match truD (vw S1 a) with
        | some b => .ok b S1
        | none => .bad) := by
      unfold tst pB at w
      cases q1 : f env S with
      | ok a S1 =>
        rw [q1] at w
        simp only [Res.bind] at w ⊢
        cases q2 : g env S1 with
        | ok b S2 => rw [q2] at w; exact w
        | exc c d S => rw [q2] at w; exact w
        | bad => rw [q2] at w; exact w
      | exc c d S => rw [q1] at w; exact w
      | bad => rw [q1] at w; exact w
    refine tE_mono (tE_t hs he w2) fun v H1 ⟨S1, W1, d, l1, s1, e1, r1, o1⟩ => ?_
    refine tE_mono (tE_t s1 e1 o1) fun u H2 ⟨S2, W2, d2, l2, s2, e2', r2, o2⟩ => ?_
    cases q : go (vw S2 d) (vw S2 d2) with
    | none => rw [q] at o2; exact False.elim o2
    | some r =>
      rw [q] at o2
      obtain ⟨k, rfl⟩ := hbl _ _ _ q
      refine ⟨S2, W2, _, _, _, s2, (r1.mo l2).vw s2, r2.vw s2, q, fun v H3 W3 l3 s3 r3 => ?_⟩
      cases r3
      exact ⟨k, rfl, o2 H3 W3 l3 s3⟩
theorem pt_notD (ha : PT X e (tT G Wx c)) : PT X (.UnaryOp .Not e pos) (tT G Wx (notT c)) :=
  (pt_not ha).imp fun σ H Q ⟨env, S, W, hs, he, w⟩ =>
    tT_mono (tT_t hs he w) fun b H1 ⟨S1, W1, l1, s1, e1, o1⟩ => o1 H1 W1 (.refl _) s1
theorem pw_and1D (ha : PT X e (tT G Wx c)) : PW X (.BoolOp .And [e] pos) (tT G Wx c) := pw_and1 ha
theorem pw_or1D (ha : PT X e (tT G Wx c)) : PW X (.BoolOp .Or [e] pos) (tT G Wx c) := pw_or1 ha
theorem pw_andD {rest : List Expr} (ha : PT X e (tT G Wx c)) (hb : PW X (.BoolOp .And (e2 :: rest) pos) (tT G Wx c2)) : PW X (.BoolOp .And (e :: e2 :: rest) pos) (tT G Wx (andT c c2)) :=
  (pw_and ha hb).imp fun σ H Q ⟨env, S, W, hs, he, w⟩ =>
    tT_mono (tT_t hs he w) fun b H1 ⟨S1, W1, l1, s1, e1, o1⟩ => by
      cases b with
      | true => exact ⟨env, S1, W1, s1, e1, o1⟩
      | false => exact o1 H1 W1 (.refl _) s1
theorem pw_orD {rest : List Expr} (ha : PT X e (tT G Wx c)) (hb : PW X (.BoolOp .Or (e2 :: rest) pos) (tT G Wx c2)) : PW X (.BoolOp .Or (e :: e2 :: rest) pos) (tT G Wx (orT c c2)) :=
  (pw_or ha hb).imp fun σ H Q ⟨env, S, W, hs, he, w⟩ =>
    tT_mono (tT_t hs he w) fun b H1 ⟨S1, W1, l1, s1, e1, o1⟩ => by
      cases b with
      | false => exact ⟨env, S1, W1, s1, e1, o1⟩
      | true => exact o1 H1 W1 (.refl _) s1
theorem pe_ifD {ec : Expr} (hc : PT X ec (tT G Wx c)) (ha : PE X e (tE G Wx f)) (hb : PE X e2 (tE G Wx g)) : PE X (.IfExp ec e e2 pos) (tE G Wx (ifE c f g)) :=
  (pe_ifExp hc ha hb).imp fun σ H Q ⟨env, S, W, hs, he, w⟩ =>
    tT_mono (tT_e hs he w) fun b H1 ⟨S1, W1, l1, s1, e1, o1⟩ => by
      cases b with
      | true => exact ⟨env, S1, W1, s1, e1, o1⟩
      | false => exact ⟨env, S1, W1, s1, e1, o1⟩
theorem pe_andD {rest : List Expr} (hk : X.K = G.K) (ha : PE X e (tE G Wx f)) (hb : PE X (.BoolOp .And (e2 :: rest) pos) (tE G Wx g)) : PE X (.BoolOp .And (e :: e2 :: rest) pos) (tE G Wx (andE f g)) :=
  (pe_andT ha hb).imp fun σ H Q ⟨env, S, W, hs, he, w⟩ =>
    tE_mono (tE_e hs he w) fun v H1 ⟨S1, W1, d, l1, s1, e1, r1, o1⟩ => by
      cases q : truD (vw S1 d) with
      | none => simp only [q] at o1; exact False.elim o1
      | some b =>
        refine ⟨b, by rw [hk]; exact truD_ok s1 (r1.vw s1) q, ?_⟩
        cases b with
        | true => simp only [q] at o1; exact ⟨env, S1, W1, s1, e1, o1⟩
        | false => simp only [q] at o1; exact o1 v H1 W1 (.refl _) s1 r1
theorem pe_orD {rest : List Expr} (hk : X.K = G.K) (ha : PE X e (tE G Wx f)) (hb : PE X (.BoolOp .Or (e2 :: rest) pos) (tE G Wx g)) : PE X (.BoolOp .Or (e :: e2 :: rest) pos) (tE G Wx (orE f g)) :=
  (pe_orT ha hb).imp fun σ H Q ⟨env, S, W, hs, he, w⟩ =>
    tE_mono (tE_e hs he w) fun v H1 ⟨S1, W1, d, l1, s1, e1, r1, o1⟩ => by
      cases q : truD (vw S1 d) with
      | none => simp only [q] at o1; exact False.elim o1
      | some b =>
        refine ⟨b, by rw [hk]; exact truD_ok s1 (r1.vw s1) q, ?_⟩
        cases b with
        | false => simp only [q] at o1; exact ⟨env, S1, W1, s1, e1, o1⟩
        | true => simp only [q] at o1; exact o1 v H1 W1 (.refl _) s1 r1
theorem pe_notD (hk : X.K = G.K) (ha : PE X e (tE G Wx f)) : PE X (.UnaryOp .Not e pos) (tE G Wx (notE f)) :=
  (pe_notT ha).imp fun σ H Q ⟨env, S, W, hs, he, w⟩ =>
    tE_mono (tE_e hs he w) fun v H1 ⟨S1, W1, d, l1, s1, e1, r1, o1⟩ => by
      cases q : truD (vw S1 d) with
      | none => simp only [q] at o1; exact False.elim o1
      | some b =>
        simp only [q] at o1
        exact ⟨b, by rw [hk]; exact truD_ok s1 (r1.vw s1) q, o1 _ H1 W1 (.refl _) s1 (.bl _)⟩
/-- a built-in by its name -/
theorem pe_callBD {id : String} {x : Str} {p : Pos} {go : List D → Option D} (hc : CallR X (.builtin id) (rDN G go)) (hg : Gl X x) (hm : X.mg x = none) (hv : bootBuiltins x = some (.builtin id)) (ha : PA X (e :: es) (tA G Wx h)) (hn : x ≠ "__name__") (hdb : (x == ("__debug__" : Str)) = false)
    (he : starEach (e :: es) X.env = (false, eval e X.env) :: starEach es X.env) (hpl : (backTo pos (starEach es X.env)).any (·.1) = false) : PE X (.Call (.Name x p) (e :: es) [] pos) (tE G Wx (pN go h)) :=
  (pe_callB hc hg hm hv ha hn hdb he hpl).imp fun σ H Q ⟨env, S, W, hs, he, w⟩ =>
    tA_mono (tA_e hs he w) fun vs H1 ⟨S1, W1, ds, l1, s1, e1, r1, o1⟩ => by
      obtain ⟨r, hr, q⟩ := opt_out o1
      exact ⟨S1, W1, _, r, s1, r1.vw s1, hr, q⟩
theorem pe_callTD {T : String} {x : Str} {p : Pos} {go : List D → Option D} (hc : CallR X (.type T) (rDN G go)) (hg : Gl X x) (hm : X.mg x = none) (hv : bootBuiltins x = some (.type T)) (ha : PA X (e :: es) (tA G Wx h)) (hn : x ≠ "__name__") (hdb : (x == ("__debug__" : Str)) = false)
    (he : starEach (e :: es) X.env = (false, eval e X.env) :: starEach es X.env) (hpl : (backTo pos (starEach es X.env)).any (·.1) = false) : PE X (.Call (.Name x p) (e :: es) [] pos) (tE G Wx (pN go h)) :=
  (pe_callTy hc hg hm hv ha hn hdb he hpl).imp fun σ H Q ⟨env, S, W, hs, he, w⟩ =>
    tA_mono (tA_e hs he w) fun vs H1 ⟨S1, W1, ds, l1, s1, e1, r1, o1⟩ => by
      obtain ⟨r, hr, q⟩ := opt_out o1
      exact ⟨S1, W1, _, r, s1, r1.vw s1, hr, q⟩
end
end Lt
set_option maxRecDepth 100000
set_option maxHeartbeats 4000000
namespace Lt
open PySem PySem.Spec PyProof.Rows L2

/-! ### data as the library's data; what may be compared -/
mutual
def py : D → PyData
  | .bl b => .bool b
  | .int i => .int i
  | .str x => .str x
  | .tup xs => .tuple (pyL xs)
  | .lst xs => .list (pyL xs)
  | .scr xs => .list (pyL xs)
  | _ => .none
def pyL : List D → List PyData
  | [] => []
  | x :: xs => py x :: pyL xs
end
def lay : Nat → D → Bool
  | _, .non => true
  | _, .bl _ => true
  | _, .int _ => true
  | _, .str x => PyData.strOk x
  | n + 1, .tup xs => xs.all (lay n)
  | n + 1, .lst xs => xs.all (lay n)
  | _, _ => false
theorem pyL_map (xs : List D) : pyL xs = xs.map py := by
  induction xs with
  | nil => rfl
  | cons x xs ih => unfold pyL; rw [ih]; rfl
theorem lay_ok : ∀ (n : Nat) (d : D), lay n d = true → (py d).canLay0 = true ∧ (py d).depth ≤ n := by
  have all (n : Nat) (ih : ∀ d : D, lay n d = true → (py d).canLay0 = true ∧ (py d).depth ≤ n) : ∀ xs : List D, xs.all (lay n) = true → PyData.canLayAll0 (pyL xs) = true ∧ PyData.depthAll (pyL xs) ≤ n := by
    intro xs
    induction xs with
    | nil => intro _; exact ⟨by simp [pyL, PyData.canLayAll0], by simp [pyL, PyData.depthAll]⟩
    | cons x xs ihx =>
      intro h
      rw [List.all_cons, Bool.and_eq_true] at h
      obtain ⟨a1, a2⟩ := ih x h.1
      obtain ⟨b1, b2⟩ := ihx h.2
      refine ⟨by simp [pyL, PyData.canLayAll0, a1, b1], ?_⟩
      simp only [pyL, PyData.depthAll]
      omega
  intro n
  induction n with
  | zero =>
    intro d h
    cases d with
    | non => exact ⟨by simp [py, PyData.canLay0], by simp [py, PyData.depth]⟩
    | bl b => exact ⟨by simp [py, PyData.canLay0], by simp [py, PyData.depth]⟩
    | int i => exact ⟨by simp [py, PyData.canLay0], by simp [py, PyData.depth]⟩
    | str x => exact ⟨by simpa [py, PyData.canLay0, lay] using h, by simp [py, PyData.depth]⟩
    | _ => simp [lay] at h
  | succ n ih =>
    intro d h
    cases d with
    | non => exact ⟨by simp [py, PyData.canLay0], by simp [py, PyData.depth]⟩
    | bl b => exact ⟨by simp [py, PyData.canLay0], by simp [py, PyData.depth]⟩
    | int i => exact ⟨by simp [py, PyData.canLay0], by simp [py, PyData.depth]⟩
    | str x => exact ⟨by simpa [py, PyData.canLay0, lay] using h, by simp [py, PyData.depth]⟩
    | tup xs =>
      obtain ⟨a, b⟩ := all n ih xs (by simpa [lay] using h)
      exact ⟨by simpa [py, PyData.canLay0] using a, by simp only [py, PyData.depth]; omega⟩
    | lst xs =>
      obtain ⟨a, b⟩ := all n ih xs (by simpa [lay] using h)
      exact ⟨by simpa [py, PyData.canLay0] using a, by simp only [py, PyData.depth]; omega⟩
    | _ => simp [lay] at h
theorem lay_shaped {n : Nat} {d : D} (hn : n ≤ 64) (h : lay n d = true) : SeqAt.shaped (py d) = true := by
  obtain ⟨a, b⟩ := lay_ok n d h
  unfold SeqAt.shaped
  rw [a, Bool.true_and, decide_eq_true_eq]
  omega
theorem lay_dp {G : Gc} {S : Store} {W : Wd} {H : Hp} (s : StR G S W H) : ∀ (n : Nat) {d : D} {v : V}, lay n d = true → Now G W H d v → Dp G.K H v (py d) := by
  have all (n : Nat) (ih : ∀ {d : D} {v : V}, lay n d = true → Now G W H d v → Dp G.K H v (py d)) : ∀ {xs : List D} {vs : List V}, xs.all (lay n) = true → RepL G.K W xs vs → DpAll G.K H vs (pyL xs) := by
    intro xs
    induction xs with
    | nil => intro vs _ r; cases r; unfold pyL; exact .nil
    | cons x xs ihx =>
      intro vs h r
      cases r with
      | cons r1 r2 =>
        rw [List.all_cons, Bool.and_eq_true] at h
        unfold pyL
        exact .cons (ih h.1 (r1.now s)) (ihx h.2 r2)
  intro n
  induction n with
  | zero =>
    intro d v h r
    cases r with
    | non => unfold py; exact .non
    | bl b => unfold py; exact .bl b
    | int i => unfold py; exact .int i
    | str x => unfold py; exact .str x
    | _ => simp [lay] at h
  | succ n ih =>
    intro d v h r
    cases r with
    | non => unfold py; exact .non
    | bl b => unfold py; exact .bl b
    | int i => unfold py; exact .int i
    | str x => unfold py; exact .str x
    | tup q r => unfold py; exact .tup (SqT.mo s.rd q) (all n ih (by simpa [lay] using h) r)
    | lst q r => unfold py; exact .lst (SqL.of q) (all n ih (by simpa [lay] using h) r)
    | _ => simp [lay] at h

/-! ### what the operators give -/
def addD : D → D → Option D
  | .int i, .int j => some (.int (i + j))
  | .str x, .str y => if x.length + y.length ≤ sizeLine then some (.str (x ++ y)) else none
  | .tup xs, .tup ys => if xs.length + ys.length ≤ sizeLine then some (.tup (xs ++ ys)) else none
  | .lst xs, .lst ys => if xs.length + ys.length ≤ sizeLine then some (.lst (xs ++ ys)) else none
  | _, _ => none
def subD : D → D → Option D
  | .int i, .int j => some (.int (i - j))
  | _, _ => none
def small64 (i : Int) : Bool := decide (-(2 ^ 64) < i) && decide (i < 2 ^ 64)
def mulD : D → D → Option D
  | .int i, .int j => if (small64 i || small64 j) = true then some (.int (i * j)) else none
  | .lst xs, .int k => if -(2 ^ 63) ≤ k ∧ k < 2 ^ 63 ∧ xs.length * k.toNat ≤ sizeLine then some (.lst (List.replicate k.toNat xs).flatten) else none
  | .tup xs, .int k => if xs ≠ [] ∧ 2 ≤ k ∧ k ≤ 1000 ∧ xs.length ≤ 1000 then some (.tup (List.replicate k.toNat xs).flatten) else none
  | _, _ => none
def fdivD : D → D → Option D
  | .int i, .int j => if 0 < j ∧ j < 1073741824 then some (.int (i / j)) else none
  | _, _ => none
def modD : D → D → Option D
  | .int i, .int j => if 0 < j then some (.int (i % j)) else none
  | _, _ => none
def powD : D → D → Option D
  | .int i, .int j => if 0 ≤ j ∧ j ≤ 1000000 ∧ i.natAbs < 2 ^ 64 then some (.int (i ^ j.toNat)) else none
  | _, _ => none
def negD : D → Option D
  | .int i => some (.int (-i))
  | _ => none
/-- scalars -/
def scV : D → Option V
  | .non => some .non
  | .bl b => some (.bl b)
  | .int i => some (.int i)
  | .str x => some (.str x)
  | _ => none
def deq (a b : D) : Bool := PyData.eqv (py a) (py b)
def eqD (a b : D) : Option D := if (lay 40 a && lay 40 b) = true then some (.bl (deq a b)) else none
def neD (a b : D) : Option D := if (lay 40 a && lay 40 b) = true then some (.bl (!deq a b)) else none
def cmpD (p : Int → Int → Bool) : D → D → Option D
  | .int i, .int j => some (.bl (p i j))
  | _, _ => none
def ltD := cmpD fun i j => decide (i < j)
def leD := cmpD fun i j => decide (i ≤ j)
def gtD := cmpD fun i j => decide (j < i)
def geD := cmpD fun i j => decide (j ≤ i)
def items : D → Option (List D)
  | .tup xs => some xs
  | .lst xs => some xs
  | _ => none
def inD : D → D → Option D
  | a, .tup xs => if (lay 40 a && xs.all (lay 39)) = true then some (.bl (xs.any fun y => deq y a)) else none
  | a, .lst xs => if (lay 40 a && xs.all (lay 39)) = true then some (.bl (xs.any fun y => deq y a)) else none
  | .str c, .str x => some (.bl (!(Builtin.Str.occurrences x c 0 x.length 1).isEmpty))
  | _, _ => none
def notInD (a b : D) : Option D := match inD a b with
  | some (.bl r) => some (.bl !r)
  | _ => none
def isD : D → D → Option D
  | .bl a, .bl b => some (.bl (decide (a = b)))
  | a, .non => match a with
    | .non => some (.bl true)
    | _ => some (.bl false)
  | _, _ => none
def isNotD (a b : D) : Option D := match isD a b with
  | some (.bl r) => some (.bl !r)
  | _ => none

section
variable {G : Gc} {X : Cx}
theorem op_addD (hk : X.K = G.K) : OpR X (binaryOp .Add) (rDB G addD) := by
  intro pins s σ H x y v u Q I rx ry ⟨S, W, d, e, r, hs, nd, ne, hr, q⟩
  cases nd with
  | int i =>
    cases ne with
    | int j => cases hr; exact op_add pins s σ H _ _ v u _ I rx ry ⟨i, j, rfl, rfl, q _ H W (.refl _) hs (.int _)⟩
    | _ => cases hr
  | str a =>
    cases ne with
    | str b =>
      have hr' : (if a.length + b.length ≤ sizeLine then some (D.str (a ++ b)) else none) = some r := hr
      by_cases hz : a.length + b.length ≤ sizeLine
      · rw [if_pos hz] at hr'; cases hr'
        exact op_add_str pins s σ H _ _ v u _ I rx ry ⟨a, b, rfl, rfl, hz, q _ H W (.refl _) hs (.str _)⟩
      · rw [if_neg hz] at hr'; cases hr'
    | _ => cases hr
  | tup h r1 =>
    cases ne with
    | tup h2 r2 =>
      rename_i a vs ds b us es
      have hr' : (if ds.length + es.length ≤ sizeLine then some (D.tup (ds ++ es)) else none) = some r := hr
      by_cases hz : ds.length + es.length ≤ sizeLine
      · rw [if_pos hz] at hr'; cases hr'
        have hz2 : vs.length + us.length ≤ sizeLine := by rw [← r1.len, ← r2.len]; exact hz
        refine op_catA pins s σ H _ _ v u _ I rx ry ⟨_, _, _, _, rfl, rfl, by rw [hk]; exact SqT.mo hs.rd h, by rw [hk]; exact SqT.mo hs.rd h2, hz2, fun e0 => ?_, fun _ e0 => ?_, fun n1 n2 p hp => ?_⟩
        · subst e0; cases r1
          exact q _ H W (.refl _) hs (.tup h2 r2)
        · subst e0; cases r2
          rw [List.append_nil] at q
          exact q _ H W (.refl _) hs (.tup h r1)
        · obtain ⟨le, s2⟩ := hs.imm hp (.tup (vs ++ us))
          exact q _ _ _ le s2 (.tup (SqT.of upd_same) ((r1.app r2).mo le))
      · rw [if_neg hz] at hr'; cases hr'
    | _ => cases hr
  | lst h r1 =>
    cases ne with
    | lst h2 r2 =>
      rename_i a vs ds b us es
      have hr' : (if ds.length + es.length ≤ sizeLine then some (D.lst (ds ++ es)) else none) = some r := hr
      by_cases hz : ds.length + es.length ≤ sizeLine
      · rw [if_pos hz] at hr'; cases hr'
        have hz2 : vs.length + us.length ≤ sizeLine := by rw [← r1.len, ← r2.len]; exact hz
        refine op_cat pins s σ H _ _ v u _ I rx ry ⟨_, _, _, _, rfl, rfl, h, h2, hz2, fun p hp => ?_⟩
        obtain ⟨le, s2⟩ := hs.imm hp (.lst (vs ++ us))
        exact q _ _ _ le s2 (.lst upd_same ((r1.app r2).mo le))
      · rw [if_neg hz] at hr'; cases hr'
    | _ => cases hr
  | _ => cases hr
theorem op_subD : OpR X (binaryOp .Sub) (rDB G subD) := by
  intro pins s σ H x y v u Q I rx ry ⟨S, W, d, e, r, hs, nd, ne, hr, q⟩
  cases nd with
  | int i =>
    cases ne with
    | int j => cases hr; exact op_sub pins s σ H _ _ v u _ I rx ry ⟨i, j, rfl, rfl, q _ H W (.refl _) hs (.int _)⟩
    | _ => cases hr
  | _ => cases hr
theorem op_mulD (hk : X.K = G.K) : OpR X (binaryOp .Mult) (rDB G mulD) := by
  intro pins s σ H x y v u Q I rx ry ⟨S, W, d, e, r, hs, nd, ne, hr, q⟩
  cases nd with
  | int i =>
    cases ne with
    | int j =>
      have hr' : (if (small64 i || small64 j) = true then some (D.int (i * j)) else none) = some r := hr
      by_cases hz : (small64 i || small64 j) = true
      · rw [if_pos hz] at hr'; cases hr'
        refine op_mul pins s σ H _ _ v u _ I rx ry ⟨i, j, rfl, rfl, ?_, q _ H W (.refl _) hs (.int _)⟩
        rw [Bool.or_eq_true] at hz
        exact hz.imp (fun z => by simpa [small64] using z) (fun z => by simpa [small64] using z)
      · rw [if_neg hz] at hr'; cases hr'
    | _ => cases hr
  | lst h r1 =>
    rename_i a vs ds
    cases ne with
    | int k =>
      have hr' : (if -(2 ^ 63) ≤ k ∧ k < 2 ^ 63 ∧ ds.length * k.toNat ≤ sizeLine then some (D.lst (List.replicate k.toNat ds).flatten) else none) = some r := hr
      by_cases hz : -(2 ^ 63) ≤ k ∧ k < 2 ^ 63 ∧ ds.length * k.toNat ≤ sizeLine
      · rw [if_pos hz] at hr'; cases hr'
        refine op_rep pins s σ H _ _ v u _ I rx ry ⟨_, _, _, rfl, rfl, h, hz.1, hz.2.1, by rw [← r1.len]; exact hz.2.2, fun p hp => ?_⟩
        obtain ⟨le, s2⟩ := hs.imm hp (.lst (List.replicate k.toNat vs).flatten)
        exact q _ _ _ le s2 (.lst upd_same ((r1.rep k.toNat).mo le))
      · rw [if_neg hz] at hr'; cases hr'
    | _ => cases hr
  | tup h r1 =>
    rename_i a vs ds
    cases ne with
    | int k =>
      have hr' : (if ds ≠ [] ∧ 2 ≤ k ∧ k ≤ 1000 ∧ ds.length ≤ 1000 then some (D.tup (List.replicate k.toNat ds).flatten) else none) = some r := hr
      by_cases hz : ds ≠ [] ∧ 2 ≤ k ∧ k ≤ 1000 ∧ ds.length ≤ 1000
      · rw [if_pos hz] at hr'; cases hr'
        refine op_repT pins s σ H _ _ v u _ I rx ry ⟨_, _, _, rfl, rfl, by rw [hk]; exact SqT.mo hs.rd h, fun e => hz.1 (List.length_eq_zero_iff.mp (by rw [r1.len, e]; rfl)), hz.2.1, hz.2.2.1, by rw [← r1.len]; exact hz.2.2.2, fun p hp => ?_⟩
        obtain ⟨le, s2⟩ := hs.imm hp (.tup (List.replicate k.toNat vs).flatten)
        exact q _ _ _ le s2 (.tup (SqT.of upd_same) ((r1.rep k.toNat).mo le))
      · rw [if_neg hz] at hr'; cases hr'
    | _ => cases hr
  | _ => cases hr
theorem op_fdivD : OpR X (binaryOp .FloorDiv) (rDB G fdivD) := by
  intro pins s σ H x y v u Q I rx ry ⟨S, W, d, e, r, hs, nd, ne, hr, q⟩
  cases nd with
  | int i =>
    cases ne with
    | int j =>
      have hr' : (if 0 < j ∧ j < 1073741824 then some (D.int (i / j)) else none) = some r := hr
      by_cases hz : 0 < j ∧ j < 1073741824
      · rw [if_pos hz] at hr'; cases hr'
        exact op_fdiv pins s σ H _ _ v u _ I rx ry ⟨i, j, rfl, rfl, hz, q _ H W (.refl _) hs (.int _)⟩
      · rw [if_neg hz] at hr'; cases hr'
    | _ => cases hr
  | _ => cases hr
theorem op_modD : OpR X (binaryOp .Mod) (rDB G modD) := by
  intro pins s σ H x y v u Q I rx ry ⟨S, W, d, e, r, hs, nd, ne, hr, q⟩
  cases nd with
  | int i =>
    cases ne with
    | int j =>
      have hr' : (if 0 < j then some (D.int (i % j)) else none) = some r := hr
      by_cases hz : 0 < j
      · rw [if_pos hz] at hr'; cases hr'
        exact op_mod pins s σ H _ _ v u _ I rx ry ⟨i, j, rfl, rfl, hz, q _ H W (.refl _) hs (.int _)⟩
      · rw [if_neg hz] at hr'; cases hr'
    | _ => cases hr
  | _ => cases hr
theorem op_powD : OpR X (binaryOp .Pow) (rDB G powD) := by
  intro pins s σ H x y v u Q I rx ry ⟨S, W, d, e, r, hs, nd, ne, hr, q⟩
  cases nd with
  | int i =>
    cases ne with
    | int j =>
      have hr' : (if 0 ≤ j ∧ j ≤ 1000000 ∧ i.natAbs < 2 ^ 64 then some (D.int (i ^ j.toNat)) else none) = some r := hr
      by_cases hz : 0 ≤ j ∧ j ≤ 1000000 ∧ i.natAbs < 2 ^ 64
      · rw [if_pos hz] at hr'; cases hr'
        exact op_pow pins s σ H _ _ v u _ I rx ry ⟨i, j, rfl, rfl, hz, q _ H W (.refl _) hs (.int _)⟩
      · rw [if_neg hz] at hr'; cases hr'
    | _ => cases hr
  | _ => cases hr
theorem un_negD : UnR X (unaryOp .USub) (rDU G negD) := by
  intro pins s σ H x v Q I rx ⟨S, W, d, r, hs, nd, hr, q⟩
  cases nd with
  | int i => cases hr; exact un_neg pins s σ H _ v _ I rx ⟨i, rfl, q _ H W (.refl _) hs (.int _)⟩
  | _ => cases hr
theorem op_eqDD (hk : X.K = G.K) (hu : X.A.units + 64 < cLine) : OpR X (compareOp .Eq) (rDB G eqD) := by
  intro pins s σ H x y v u Q I rx ry ⟨S, W, d, e, r, hs, nd, ne, hr, q⟩
  unfold eqD at hr
  by_cases hz : (lay 40 d && lay 40 e) = true
  · rw [if_pos hz] at hr; cases hr
    rw [Bool.and_eq_true] at hz
    exact op_eqD hu pins s σ H _ _ v u _ I rx ry ⟨py d, py e, by rw [hk]; exact lay_dp hs 40 hz.1 nd, by rw [hk]; exact lay_dp hs 40 hz.2 ne, lay_shaped (by decide) hz.1, lay_shaped (by decide) hz.2, q _ H W (.refl _) hs (.bl _)⟩
  · rw [if_neg hz] at hr; cases hr
theorem op_neDD (hk : X.K = G.K) (hu : X.A.units + 64 < cLine) : OpR X (compareOp .NotEq) (rDB G neD) := by
  intro pins s σ H x y v u Q I rx ry ⟨S, W, d, e, r, hs, nd, ne, hr, q⟩
  unfold neD at hr
  by_cases hz : (lay 40 d && lay 40 e) = true
  · rw [if_pos hz] at hr; cases hr
    rw [Bool.and_eq_true] at hz
    exact op_neD hu pins s σ H _ _ v u _ I rx ry ⟨py d, py e, by rw [hk]; exact lay_dp hs 40 hz.1 nd, by rw [hk]; exact lay_dp hs 40 hz.2 ne, lay_shaped (by decide) hz.1, lay_shaped (by decide) hz.2, q _ H W (.refl _) hs (.bl _)⟩
  · rw [if_neg hz] at hr; cases hr
theorem op_cmpI {op : CmpOp} {p : Int → Int → Bool} (h : OpR X (compareOp op) (rI0 fun i j => .bl (p i j))) : OpR X (compareOp op) (rDB G (cmpD p)) := by
  intro pins s σ H x y v u Q I rx ry ⟨S, W, d, e, r, hs, nd, ne, hr, q⟩
  cases nd with
  | int i =>
    cases ne with
    | int j => cases hr; exact h pins s σ H _ _ v u _ I rx ry ⟨i, j, rfl, rfl, q _ H W (.refl _) hs (.bl _)⟩
    | _ => cases hr
  | _ => cases hr
theorem any_deq (a : D) (xs : List D) : ((pyL xs).any fun z => PyData.eqv z (py a)) = xs.any fun y => deq y a := by
  rw [pyL_map, List.any_map]; rfl
theorem layAll_ok {n : Nat} {xs : List D} (h : xs.all (lay n) = true) : PyData.canLayAll0 (pyL xs) = true ∧ PyData.depthAll (pyL xs) ≤ n := by
  have := lay_ok (n + 1) (.tup xs) (by simpa [lay] using h)
  simp only [py, PyData.canLay0, PyData.depth] at this
  exact ⟨this.1, by omega⟩
theorem op_inDD (hk : X.K = G.K) (hu : X.A.units + 64 < cLine) : OpR X (compareOp .In) (rDB G inD) := by
  intro pins s σ H x y v u Q I rx ry ⟨S, W, d, e, r, hs, nd, ne, hr, q⟩
  cases ne with
  | tup h r2 =>
    rename_i a vs ds
    have hr' : (if (lay 40 d && ds.all (lay 39)) = true then some (D.bl (ds.any fun y => deq y d)) else none) = some r := by cases nd <;> exact hr
    by_cases hz : (lay 40 d && ds.all (lay 39)) = true
    · rw [if_pos hz] at hr'; cases hr'
      rw [Bool.and_eq_true] at hz
      obtain ⟨as, r1⟩ := Dp.reads I (py d) x v (by rw [hk]; exact lay_dp hs 40 hz.1 nd) rx
      obtain ⟨bs, r2⟩ := Dp.reads I (py (.tup ds)) _ u (by rw [hk]; exact lay_dp hs 40 (by simpa [lay] using hz.2) (.tup h r2)) ry
      obtain ⟨l1, l2⟩ := layAll_ok hz.2
      obtain ⟨l3, l4⟩ := lay_ok 40 d hz.1
      unfold py at r2
      exact SeqAt.in_tuple_reads r2 r1 l1 l3 (by omega) ⟨.bl _, H, I, rfl, by rw [any_deq]; exact q _ H W (.refl _) hs (.bl _)⟩
    · rw [if_neg hz] at hr'; cases hr'
  | lst h r2 =>
    rename_i a vs ds
    have hr' : (if (lay 40 d && ds.all (lay 39)) = true then some (D.bl (ds.any fun y => deq y d)) else none) = some r := by cases nd <;> exact hr
    by_cases hz : (lay 40 d && ds.all (lay 39)) = true
    · rw [if_pos hz] at hr'; cases hr'
      rw [Bool.and_eq_true] at hz
      obtain ⟨as, r1⟩ := Dp.reads I (py d) x v (by rw [hk]; exact lay_dp hs 40 hz.1 nd) rx
      obtain ⟨bs, r2⟩ := Dp.reads I (py (.lst ds)) _ u (by rw [hk]; exact lay_dp hs 40 (by simpa [lay] using hz.2) (.lst h r2)) ry
      obtain ⟨l1, l2⟩ := layAll_ok hz.2
      obtain ⟨l3, l4⟩ := lay_ok 40 d hz.1
      unfold py at r2
      exact SeqAt.in_list_reads r2 r1 l1 l3 (by omega) ⟨.bl _, H, I, rfl, by rw [any_deq]; exact q _ H W (.refl _) hs (.bl _)⟩
    · rw [if_neg hz] at hr'; cases hr'
  | str b =>
    cases nd with
    | str a => cases hr; exact op_in_str pins s σ H _ _ v u _ I rx ry ⟨a, b, rfl, rfl, q _ H W (.refl _) hs (.bl _)⟩
    | _ => cases hr
  | _ => cases nd <;> cases hr
end
end Lt
set_option maxRecDepth 100000
set_option maxHeartbeats 4000000
namespace Lt
open PySem PySem.Spec PyProof.Rows L2

/-! ### not in, is -/
def ninD : D → D → Option D
  | a, .tup xs => if (lay 40 a && xs.all (lay 39)) = true then some (.bl (!xs.any fun y => deq y a)) else none
  | a, .lst xs => if (lay 40 a && xs.all (lay 39)) = true then some (.bl (!xs.any fun y => deq y a)) else none
  | .str c, .str x => some (.bl (!(!(Builtin.Str.occurrences x c 0 x.length 1).isEmpty)))
  | _, _ => none
def isnon : D → Bool
  | .non => true
  | _ => false
def isBD : D → D → Option D
  | .bl a, .bl b => some (.bl (decide (a = b)))
  | _, _ => none
def nisBD : D → D → Option D
  | .bl a, .bl b => some (.bl (!decide (a = b)))
  | _, _ => none
def isND (a b : D) : Option D := if isnon b = true then some (.bl (isnon a)) else none
def nisND (a b : D) : Option D := if isnon b = true then some (.bl (!isnon a)) else none
section
variable {G : Gc} {X : Cx}
theorem op_ninDD (hk : X.K = G.K) (hu : X.A.units + 64 < cLine) : OpR X (compareOp .NotIn) (rDB G ninD) := by
  intro pins s σ H x y v u Q I rx ry ⟨S, W, d, e, r, hs, nd, ne, hr, q⟩
  cases ne with
  | tup h r2 =>
    rename_i a vs ds
    have hr' : (if (lay 40 d && ds.all (lay 39)) = true then some (D.bl (!ds.any fun y => deq y d)) else none) = some r := by cases nd <;> exact hr
    by_cases hz : (lay 40 d && ds.all (lay 39)) = true
    · rw [if_pos hz] at hr'; cases hr'
      rw [Bool.and_eq_true] at hz
      obtain ⟨as, r1⟩ := Dp.reads I (py d) x v (by rw [hk]; exact lay_dp hs 40 hz.1 nd) rx
      obtain ⟨bs, r2⟩ := Dp.reads I (py (.tup ds)) _ u (by rw [hk]; exact lay_dp hs 40 (by simpa [lay] using hz.2) (.tup h r2)) ry
      obtain ⟨l1, l2⟩ := layAll_ok hz.2
      obtain ⟨l3, l4⟩ := lay_ok 40 d hz.1
      unfold py at r2
      exact SeqAt.notIn_tuple_reads r2 r1 l1 l3 (by omega) ⟨.bl _, H, I, rfl, by rw [any_deq]; exact q _ H W (.refl _) hs (.bl _)⟩
    · rw [if_neg hz] at hr'; cases hr'
  | lst h r2 =>
    rename_i a vs ds
    have hr' : (if (lay 40 d && ds.all (lay 39)) = true then some (D.bl (!ds.any fun y => deq y d)) else none) = some r := by cases nd <;> exact hr
    by_cases hz : (lay 40 d && ds.all (lay 39)) = true
    · rw [if_pos hz] at hr'; cases hr'
      rw [Bool.and_eq_true] at hz
      obtain ⟨as, r1⟩ := Dp.reads I (py d) x v (by rw [hk]; exact lay_dp hs 40 hz.1 nd) rx
      obtain ⟨bs, r2⟩ := Dp.reads I (py (.lst ds)) _ u (by rw [hk]; exact lay_dp hs 40 (by simpa [lay] using hz.2) (.lst h r2)) ry
      obtain ⟨l1, l2⟩ := layAll_ok hz.2
      obtain ⟨l3, l4⟩ := lay_ok 40 d hz.1
      unfold py at r2
      exact SeqAt.notIn_list_reads r2 r1 l1 l3 (by omega) ⟨.bl _, H, I, rfl, by rw [any_deq]; exact q _ H W (.refl _) hs (.bl _)⟩
    · rw [if_neg hz] at hr'; cases hr'
  | str b =>
    cases nd with
    | str a => cases hr; exact op_notin_str pins s σ H _ _ v u _ I rx ry ⟨a, b, rfl, rfl, q _ H W (.refl _) hs (.bl _)⟩
    | _ => cases hr
  | _ => cases nd <;> cases hr
theorem op_isBD : OpR X (compareOp .Is) (rDB G isBD) := by
  intro pins s σ H x y v u Q I rx ry ⟨S, W, d, e, r, hs, nd, ne, hr, q⟩
  cases nd with
  | bl i =>
    cases ne with
    | bl j => cases hr; exact op_isBl pins s σ H _ _ v u _ I rx ry ⟨i, j, rfl, rfl, q _ H W (.refl _) hs (.bl _)⟩
    | _ => cases hr
  | _ => cases hr
theorem op_nisBD : OpR X (compareOp .IsNot) (rDB G nisBD) := by
  intro pins s σ H x y v u Q I rx ry ⟨S, W, d, e, r, hs, nd, ne, hr, q⟩
  cases nd with
  | bl i =>
    cases ne with
    | bl j => cases hr; exact op_notBl pins s σ H _ _ v u _ I rx ry ⟨i, j, rfl, rfl, q _ H W (.refl _) hs (.bl _)⟩
    | _ => cases hr
  | _ => cases hr
theorem isnon_V {W : Wd} {H : Hp} {d : D} {v : V} (n : Now G W H d v) : decide (v = .non) = isnon d := by
  cases n <;> rfl
theorem op_isND : OpR X (compareOp .Is) (rDB G isND) := by
  intro pins s σ H x y v u Q I rx ry ⟨S, W, d, e, r, hs, nd, ne, hr, q⟩
  unfold isND at hr
  cases ne with
  | non =>
    cases hr
    exact op_isN pins s σ H _ _ v u _ I rx ry ⟨rfl, q _ H W (.refl _) hs (by rw [isnon_V nd]; exact .bl _)⟩
  | _ => cases hr
theorem op_nisND : OpR X (compareOp .IsNot) (rDB G nisND) := by
  intro pins s σ H x y v u Q I rx ry ⟨S, W, d, e, r, hs, nd, ne, hr, q⟩
  unfold nisND at hr
  cases ne with
  | non =>
    cases hr
    exact op_notN pins s σ H _ _ v u _ I rx ry ⟨rfl, q _ H W (.refl _) hs (by rw [isnon_V nd]; exact .bl _)⟩
  | _ => cases hr

/-! ### items, slices -/
def keyD : D → Option Key
  | .int i => some (.inl i)
  | .str x => some (.inr x)
  | _ => none
def dget : List Key → List D → Key → Option D
  | k :: ks, d :: ds, x => if k = x then some d else dget ks ds x
  | _, _, _ => none
def ixS : D → D → Option D
  | .tup xs, .int i => atI xs i
  | .lst xs, .int i => atI xs i
  | .scr xs, .int i => atI xs i
  | .str z, .int i => if z.length ≤ sizeLine then (atI z.cps.toList i).map fun c => .str ⟨#[c]⟩ else none
  | _, _ => none
def ixK : D → D → Option D
  | .dic ks vs, k => (keyD k).bind fun k => dget ks vs k
  | _, _ => none
def isDic : D → Bool
  | .dic _ _ => true
  | _ => false
def ixD (a b : D) : Option D := if isDic a = true then ixK a b else ixS a b
theorem RepL.atI {K : Kf} {W : Wd} {ds : List D} {vs : List V} {i : Int} {d : D} (r : RepL K W ds vs) (h : L2.atI ds i = some d) : ∃ v, L2.atI vs i = some v ∧ Rep K W d v := by
  unfold L2.atI at h ⊢
  rw [← r.len]
  cases e : ixN ds.length i with
  | none => rw [e] at h; cases h
  | some j => rw [e] at h; exact r.get h
theorem op_ixS (hk : X.K = G.K) : IxR X (rDB G ixS) := by
  intro value slice pins s σ H x y v u Q I rx ry ⟨S, W, d, e, r, hs, nd, ne, hr, q⟩ hsub
  cases nd with
  | tup h r1 =>
    cases ne with
    | int i =>
      obtain ⟨w, h1, h2⟩ := r1.atI hr
      exact ix_tup value slice pins s σ H _ _ v u Q I rx ry ⟨_, _, i, w, rfl, rfl, by rw [hk]; exact SqT.mo hs.rd h, h1, q _ H W (.refl _) hs h2⟩ hsub
    | _ => cases hr
  | lst h r1 =>
    cases ne with
    | int i =>
      obtain ⟨w, h1, h2⟩ := r1.atI hr
      exact ix_list value slice pins s σ H _ _ v u Q I rx ry ⟨_, _, i, w, rfl, rfl, SqL.of h, h1, q _ H W (.refl _) hs h2⟩ hsub
    | _ => cases hr
  | scr h r1 =>
    cases ne with
    | int i =>
      obtain ⟨w, h1, h2⟩ := r1.atI hr
      exact ix_list value slice pins s σ H _ _ v u Q I rx ry ⟨_, _, i, w, rfl, rfl, by rw [hk]; exact SqL.mo hs.rd h, h1, q _ H W (.refl _) hs h2⟩ hsub
    | _ => cases hr
  | str z =>
    cases ne with
    | int i =>
      have hr' : (if z.length ≤ sizeLine then (L2.atI z.cps.toList i).map fun c => D.str ⟨#[c]⟩ else none) = some r := hr
      by_cases hz : z.length ≤ sizeLine
      · rw [if_pos hz] at hr'
        cases hc : L2.atI z.cps.toList i with
        | none => rw [hc] at hr'; cases hr'
        | some c =>
          rw [hc] at hr'; cases hr'
          exact ix_str value slice pins s σ H _ _ v u Q I rx ry ⟨z, i, c, rfl, rfl, hz, hc, q _ H W (.refl _) hs (.str _)⟩ hsub
      · rw [if_neg hz] at hr'; cases hr'
    | _ => cases hr
  | _ => cases hr
theorem dget_V {K : Kf} {W : Wd} : ∀ {ks : List Key} {ds : List D} {vs : List V} {k : Key}, ks.length = ds.length → RepL K W ds vs →
    (∀ d, dget ks ds k = some d → ∃ v, valV (ks.zip vs) k = some v ∧ Rep K W d v) ∧ (dget ks ds k = none → valV (ks.zip vs) k = none)
  | [], [], _, _, _, .nil => And.intro (fun d h => by simp [dget] at h) (fun _ => rfl)
  | k0 :: ks, d0 :: ds, _, k, hl, .cons (v := v0) (vs := vs) r1 r2 => by
    have ih := dget_V (k := k) (Nat.succ.inj hl) r2
    have e1 : dget (k0 :: ks) (d0 :: ds) k = if k0 = k then some d0 else dget ks ds k := rfl
    have e2 : valV ((k0 :: ks).zip (v0 :: vs)) k = if k0 = k then some v0 else valV (ks.zip vs) k := by
      unfold valV
      rw [List.zip_cons_cons, List.find?_cons]
      by_cases hk : k0 = k
      · simp [hk]
      · simp [hk]
    rw [e1, e2]
    by_cases hk : k0 = k
    · rw [if_pos hk, if_pos hk]
      exact And.intro (fun d h => by cases h; exact ⟨_, rfl, r1⟩) (fun h => by cases h)
    · rw [if_neg hk, if_neg hk]
      exact ih
  | [], _ :: _, _, _, hl, _ => by cases hl
  | _ :: _, [], _, _, hl, _ => by cases hl
theorem keyD_V {W : Wd} {H : Hp} {d : D} {v : V} {k : Key} (n : Now G W H d v) (h : keyD d = some k) : v = kV k := by
  cases n with
  | int i => cases h; rfl
  | str x => cases h; rfl
  | _ => cases h
variable {Wx : WX} {e e2 : Expr} {es : List Expr} {f g : EF} {pos : Pos}
theorem pe_ixD (hk : X.K = G.K) (hu : X.A.units + 1 < cLine) (ha : PE X e (tE G Wx f)) (hb : PE X e2 (tE G Wx g)) (hp : PlainIx e2) : PE X (.Subscript e e2 pos) (tE G Wx (pB ixD f g)) := by
  refine ⟨fun pins s σ H Q I ⟨env, S, W, hs, he, h⟩ => ?_⟩
  -- which it is hangs on the data
  have base : PE X (.Subscript e e2 pos) (tOp (rDB G ixS) (tE G Wx f) (tE G Wx g)) := pe_ix (op_ixS hk) ha hb hp
  unfold pB at h
  cases hf : f env S with
  | bad => rw [hf] at h; exact False.elim h
  | exc c d S1 => rw [hf] at h; exact base.run pins s σ H Q I ⟨env, S, W, hs, he, by rw [hf]; exact h⟩
  | ok a S1 =>
    rw [hf] at h
    have h : OutR G Wx W σ (Pe G W Q) ((g env S1).bind fun b S2 => opt (ixD (vw S2 a) (vw S2 b)) S2) := h
    cases hg : g env S1 with
    | bad => rw [hg] at h; exact False.elim h
    | exc c d S2 =>
      rw [hg] at h
      refine base.run pins s σ H Q I ⟨env, S, W, hs, he, ?_⟩
      rw [hf]
      refine fun v H1 W1 l1 s1 r1 => ⟨env, S1, W1, s1, he.mo l1, ?_⟩
      rw [hg]
      exact fun dx H' W' l' => h dx H' W' (l1.trans l')
    | ok b S2 =>
      rw [hg] at h
      have h : OutR G Wx W σ (Pe G W Q) (opt (ixD (vw S2 a) (vw S2 b)) S2) := h
      obtain ⟨r, hr, q⟩ := opt_out h
      unfold ixD at hr
      by_cases hd : isDic (vw S2 a) = true
      · rw [if_pos hd] at hr
        refine (pe_dget hu ha hb hp).run pins s σ H Q I ⟨env, S, W, hs, he, ?_⟩
        rw [hf]
        refine fun v H1 W1 l1 s1 r1 => ⟨env, S1, W1, s1, he.mo l1, ?_⟩
        rw [hg]
        refine fun u H2 W2 l2 s2 r2 => ?_
        have n1 : Now G W2 H2 (vw S2 a) v := (r1.mo l2).vw s2
        have n2 : Now G W2 H2 (vw S2 b) u := r2.vw s2
        generalize vw S2 a = a' at hr hd n1
        generalize vw S2 b = b' at hr n2
        cases n1 with
        | dic hH hl rl =>
          unfold ixK at hr
          cases hkk : keyD b' with
          | none => simp only [hkk] at hr; cases hr
          | some k =>
            simp only [hkk] at hr
            obtain ⟨w, h1, h2⟩ := (dget_V hl rl).1 r hr
            exact ⟨_, w, rfl, .inl ⟨_, k, hH, keyD_V n2 hkk, h1.symm⟩, q _ H2 W2 (l1.trans l2) s2 h2⟩
        | _ => cases hd
      · rw [if_neg hd] at hr
        refine base.run pins s σ H Q I ⟨env, S, W, hs, he, ?_⟩
        rw [hf]
        refine fun v H1 W1 l1 s1 r1 => ⟨env, S1, W1, s1, he.mo l1, ?_⟩
        rw [hg]
        exact fun u H2 W2 l2 s2 r2 => ⟨S2, W2, _, _, r, s2, (r1.mo l2).vw s2, r2.vw s2, hr, Pe.mo (l1.trans l2) q⟩

/-! slices -/
def cutL {α : Type} (xs : List α) (lo hi : Option Int) : List α := (xs.drop (HT.sIx xs.length 0 lo)).take (HT.sIx xs.length xs.length hi - HT.sIx xs.length 0 lo)
theorem RepL.cut {K : Kf} {W : Wd} {ds : List D} {vs : List V} (r : RepL K W ds vs) (lo hi : Option Int) : RepL K W (cutL ds lo hi) (cutV vs lo hi) := by
  unfold cutL cutV
  rw [← r.len]
  exact (r.drop _).take _
theorem cutV_whole {vs : List V} {lo hi : Option Int} (h : HT.sIx vs.length 0 lo = 0 ∧ HT.sIx vs.length vs.length hi = vs.length) : cutV vs lo hi = vs := by
  unfold cutV
  rw [h.1, h.2]
  simp
def sliceD (lo hi : Option Int) : D → Option D
  | .tup xs => some (.tup (cutL xs lo hi))
  | .lst xs => some (.lst (cutL xs lo hi))
  | .scr xs => some (.lst (cutL xs lo hi))
  | .str z => if z.length ≤ sizeLine then some (.str (cutS z lo hi)) else none
  | _ => none
def rDS (G : Gc) : V → Option Int → Option Int → Hp → VK → Prop := fun x lo hi H Q => ∃ S W d r, StR G S W H ∧ Now G W H d x ∧ sliceD lo hi d = some r ∧ Pe G W Q r S
theorem sl_D (hk : X.K = G.K) : SlR X (rDS G) := by
  intro pins s σ H x v vl vu lo hi sl Q I rx hsl pl pu ⟨S, W, d, r, hs, nd, hr, q⟩
  cases nd with
  | tup h r1 =>
    rename_i a vs ds
    cases hr
    refine sl_tupA pins s σ H _ v vl vu lo hi sl Q I rx hsl pl pu ⟨a, vs, rfl, by rw [hk]; exact SqT.mo hs.rd h, fun hw => ?_, fun _ p hp => ?_⟩
    · have r2 := r1.cut lo hi
      rw [cutV_whole hw] at r2
      exact q _ H W (.refl _) hs (.tup h r2)
    · obtain ⟨le, s2⟩ := hs.imm hp (.tup (cutV vs lo hi))
      exact q _ _ _ le s2 (.tup (SqT.of upd_same) ((r1.cut lo hi).mo le))
  | lst h r1 =>
    rename_i a vs ds
    cases hr
    refine sl_list pins s σ H _ v vl vu lo hi sl Q I rx hsl pl pu ⟨a, vs, rfl, SqL.of h, fun p hp => ?_⟩
    obtain ⟨le, s2⟩ := hs.imm hp (.lst (cutV vs lo hi))
    exact q _ _ _ le s2 (.lst upd_same ((r1.cut lo hi).mo le))
  | scr h r1 =>
    rename_i a vs ds
    cases hr
    refine sl_list pins s σ H _ v vl vu lo hi sl Q I rx hsl pl pu ⟨a, vs, rfl, by rw [hk]; exact SqL.mo hs.rd h, fun p hp => ?_⟩
    obtain ⟨le, s2⟩ := hs.imm hp (.lst (cutV vs lo hi))
    exact q _ _ _ le s2 (.lst upd_same ((r1.cut lo hi).mo le))
  | str z =>
    have hr' : (if z.length ≤ sizeLine then some (D.str (cutS z lo hi)) else none) = some r := hr
    by_cases hz : z.length ≤ sizeLine
    · rw [if_pos hz] at hr'; cases hr'
      exact sl_str pins s σ H _ v vl vu lo hi sl Q I rx hsl pl pu ⟨z, rfl, hz, q _ H W (.refl _) hs (.str _)⟩
    · rw [if_neg hz] at hr'; cases hr'
  | _ => cases hr
abbrev OF := SV → Store → Res (Option Int)
def noP : OF := fun _ S => .ok none S
def soP (f : EF) : OF := fun env S => (f env S).bind fun d S1 => match d with
  | .int i => .ok (some i) S1
  | _ => .bad
def tO (f : OF) (Wx : WX) (G : Gc) : TO := fun σ H Q => ∃ env S W, StR G S W H ∧ EnvR G.K W env σ ∧ OutR G Wx W σ (fun o S' => ∀ H' W', W.le W' → StR G S' W' H' → Q o H') (f env S)
def sliceE (f : EF) (lo hi : OF) : EF := fun env S => (f env S).bind fun d S1 => (lo env S1).bind fun l S2 => (hi env S2).bind fun h S3 => opt (sliceD l h (vw S3 d)) S3
theorem _root_.L2.PO.imp {oe : Option Expr} {t t' : TO} (h : PO X oe t) (k : ∀ σ H Q, t' σ H Q → t σ H Q) : PO X oe t' := ⟨fun pins s σ H Q I w => h.run pins s σ H Q I (k σ H Q w)⟩
theorem po_noneD : PO X none (tO noP Wx G) := po_none.imp fun σ H Q ⟨env, S, W, hs, he, h⟩ => h H W (.refl _) hs
theorem po_someD (ha : PE X e (tE G Wx f)) : PO X (some e) (tO (soP f) Wx G) :=
  (po_some ha).imp fun σ H Q ⟨env, S, W, hs, he, h⟩ =>
    tE_mono (tE_then (P := fun W o S' => ∀ H' W', W.le W' → StR G S' W' H' → Q o H') (fun l z H' W' l' => z H' W' (l.trans l')) hs he h) fun v H1 ⟨S1, W1, d, l1, s1, e1, r1, o1⟩ => by
      cases r1 with
      | int i => exact ⟨i, rfl, o1 H1 W1 (.refl _) s1⟩
      | _ => exact False.elim o1
theorem pe_sliceD {lo hi : Option Expr} {l h : OF} {p2 : Pos} (hk : X.K = G.K) (ha : PE X e (tE G Wx f)) (hl : PO X lo (tO l Wx G)) (hh : PO X hi (tO h Wx G)) : PE X (.Subscript e (.Slice lo hi none p2) pos) (tE G Wx (sliceE f l h)) :=
  (pe_slice (sl_D hk) ha hl hh).imp fun σ H Q ⟨env, S, W, hs, he, w⟩ =>
    tE_mono (tE_e hs he w) fun v H1 ⟨S1, W1, d, l1, s1, e1, r1, o1⟩ =>
      ⟨env, S1, W1, s1, e1, o1.bind.imp (.refl _) fun lo S2 o2 H2 W2 l2 s2 =>
        ⟨env, S2, W2, s2, e1.mo l2, (o2.imp l2 fun _ _ z => Pe.mo l2 z).bind.imp (.refl _) fun hi S3 o3 H3 W3 l3 s3 => by
          obtain ⟨r, hr, q⟩ := opt_out o3
          exact ⟨S3, W3, _, r, s3, ((r1.mo l2).mo l3).vw s3, hr, Pe.mo l3 q⟩⟩⟩
end
end Lt
set_option maxRecDepth 100000
set_option maxHeartbeats 4000000
namespace Lt
open PySem PySem.Spec PyProof.Rows L2

/-! ### a def's denotation and its promise -/
abbrev Fn := List D → Store → Res D
/-- the promise: arguments as data, the function's own outcome -/
def spD (G : Gc) (φ : Fn) (n : Nat) : Sp := fun vs H Q E => ∃ ds S W, StR G S W H ∧ RepL G.K W ds vs ∧ ds.length = n ∧ OutR G (fun c dx _ H' => E c dx H') W [] (Pe G W Q) (φ ds S)
/-- a def that keeps a promise, called where no builtin walks through containers (no guards) -/
structure FnG (P : Program) (w : World) (K : Kf) (mg : Str → Option Value) (base : Heap) (k : Nat) (f : Addr) (fd : FuncData) (ps : List Str) (sp : Sp) : Prop where
  len : ∀ vs H Q E, sp vs H Q E → vs.length = ps.length
  run : ∀ (A : Around) (outer : List Env) (t : Shared) (H : Hp) (args : Args) (us : List Value) (vs : List V) (Q : VK) (E : XK), A.guards = some [] → Room k A → Env0 P w K mg base A outer t H →
    BindsTo t fd args (ps.zip us) → Vals vs us → sp vs H Q E → codeAny (model P w) A (.call (.ref f) args) (CR (L2.CX P w) outer P w H t Q E) t
theorem FnG.mono {P : Program} {w : World} {K : Kf} {mg : Str → Option Value} {base : Heap} {j k : Nat} {f : Addr} {fd : FuncData} {ps : List Str} {sp : Sp} (F : FnG P w K mg base j f fd ps sp) (h : j ≤ k) : FnG P w K mg base k f fd ps sp :=
  ⟨F.len, fun A outer t H args us vs Q E g r => F.run A outer t H args us vs Q E g (r.mono h)⟩
/-- a body that does what f tells -/
def runB (f : SF) (n : Nat) : Fn := fun ds S => match f (ds.map some ++ List.replicate (n - ds.length) none) S with
  | .nx _ S' => .ok .non S'
  | .rt d S' => .ok d S'
  | .ex c d _ S' => .exc c d S'
  | _ => .bad
theorem env_start {K : Kf} {W : Wd} {ds : List D} {vs : List V} (r : RepL K W ds vs) (N : List Str) : EnvR K W (ds.map some ++ List.replicate (N.length - ds.length) none) (L2.start N vs) := by
  have hl := r.len
  refine ⟨by simp [L2.start, hl], fun i d e => ?_⟩
  unfold L2.start
  by_cases hi : i < ds.length
  · rw [List.getElem?_append_left (by simpa using hi), List.getElem?_map] at e
    cases q : ds[i]? with
    | none => rw [q] at e; cases e
    | some x =>
      rw [q] at e; cases e
      obtain ⟨v, h1, h2⟩ := r.get q
      exact ⟨v, by rw [List.getElem?_append_left (by simp [← hl, hi]), List.getElem?_map, h1]; rfl, h2⟩
  · rw [List.getElem?_append_right (by simpa using hi), List.getElem?_replicate] at e
    split at e <;> cases e
section
variable {P : Program} {w : World} {G : Gc} {mg : Str → Option Value} {base : Heap} {k : Nat} {f : Addr}
theorem fnG_of {name qual : Str} {params : Arguments} {body : List Stmt} {scope : Scope} {dV kV doc pm cdv ct oc : Value} {an od : Option Addr} {osl : Array (Option Value)} {N ps : List Str} {g : SF} {n : Nat}
    (lk : G.K.lookup f = some ⟨oc, od, .func (PySem.W.fnOf name qual params body scope dV kV doc pm an cdv ct), osl⟩) (hcd : PySem.W.codeIn G.K cdv qual = true) (Sc : FnScope N ps scope) (hn : ps.length = n)
    (hb : ∀ (A : Around) (outer : List Env) (t : Shared) (H : Hp) (E : XK), (A.deeper (envOfC qual scope t.heap.objs.size f cdv)).guards = some [] → Room k (A.deeper (envOfC qual scope t.heap.objs.size f cdv)) →
      PSs (cxOf (L2.CX P w) P w G.K mg base N qual scope f cdv A outer t H E) body (tS G (fun c dx _ H' => E c dx H') g)) :
    FnG P w G.K mg base (k + 1) f (PySem.W.fnOf name qual params body scope dV kV doc pm an cdv ct) ps (spD G (runB g N.length) n) := by
  have len : ∀ vs H Q E, spD G (runB g N.length) n vs H Q E → vs.length = ps.length := fun vs H Q E ⟨ds, S, W, _, r, l, _⟩ => by rw [← r.len, l, hn]
  refine ⟨len, fun A outer t H args us vs Q E gd hr e0 hbd rv hsp => ?_⟩
  have hl := len _ _ _ _ hsp
  have KX : G.K.In t.heap := e0.mod.kin.keeps fun b o e => (e0.bs b o e).1
  have knd : ∀ y ∈ ps.zip us, scope.names.lookup y.1 = some .local ∨ (scope.names.lookup y.1 = some .cell ∧ ((cellsFrom (t.heap.objs.size + 1) scope.names []).lookup y.1).isSome = true) := by
    rintro ⟨x, u⟩ hy
    exact (Sc.par x (List.of_mem_zip hy).1).imp id fun q => ⟨q, PySem.W.cellsFrom_some _ _ _ (.inl q)⟩
  refine codeAny_call_function hr.depth (KX _ _ lk) rfl Sc.co Sc.gen rfl (PySem.W.codeRec_of KX hcd) (hbd _ _ _ _ ?_)
  refine wpAny_newFunctionEnv_cells Sc.kind knd fun env he t1 x => ?_
  subst he
  refine ⟨(e0.mod.nolimit.keeps fun b o e => (e0.bs b o e).1).keeps x.toInCall.keep, codeAny_func ?_⟩
  have I0 : Inv (cxOf (L2.CX P w) P w G.K mg base N qual scope f cdv A outer t H E) [] (L2.start N vs) H t1 := inv_start Sc hr.hd e0 hl rv x
  obtain ⟨ds, S, W, hs, rd, hln, ho⟩ := hsp
  have rd2 := env_start rd N
  have want : tS G (fun c dx _ H' => E c dx H') g { nx := fun _ H' => Q .non H', rt := Q } (L2.start N vs) H := by
    refine ⟨_, S, W, hs, rd2, ?_⟩
    unfold runB at ho
    cases q : g (ds.map some ++ List.replicate (N.length - ds.length) none) S with
    | nx e2 S2 => rw [q] at ho; exact fun σ' H' W' l s2 _ => ho _ H' W' l s2 .non
    | rt d S2 => rw [q] at ho; exact ho
    | ex c d e2 S2 => rw [q] at ho; exact fun dx σ' H' W' l s2 _ xr => ho dx H' W' l s2 xr
    | bk e2 S2 => rw [q] at ho; exact False.elim ho
    | ct e2 S2 => rw [q] at ho; exact False.elim ho
    | bad => rw [q] at ho; exact False.elim ho
  refine wpAny_mono ((hb A outer t H E gd (hr.deeper _)).run [] t1 (L2.start N vs) H _ I0 want) (fun fl t2 hf => ?_) fun e t2 he => he
  cases fl with
  | ret u =>
    obtain ⟨v, σ', H', J, r2, q⟩ := hf
    exact ⟨v, H', J.os, J.bare, J.base, J.hok, r2, q⟩
  | next =>
    obtain ⟨σ', H', J, q⟩ := hf
    exact ⟨V.non, H', J.os, J.bare, J.base, J.hok, rfl, q⟩
  | brk =>
    obtain ⟨_, _, _, q⟩ := hf
    exact False.elim q
  | cont =>
    obtain ⟨_, _, _, q⟩ := hf
    exact False.elim q
end

/-! ### calls -/
def permL {α : Type} (π : List Nat) (xs : List α) : List α := π.filterMap fun j => xs[j]?
theorem RepL.perm {K : Kf} {W : Wd} {ds : List D} {vs : List V} (r : RepL K W ds vs) (π : List Nat) : RepL K W (permL π ds) (permL π vs) := by
  unfold permL
  induction π with
  | nil => exact .nil
  | cons j π ih =>
    rw [List.filterMap_cons, List.filterMap_cons]
    cases e : ds[j]? with
    | none =>
      have : vs[j]? = none := List.getElem?_eq_none (by rw [← r.len]; exact List.getElem?_eq_none_iff.mp e)
      rw [this]; exact ih
    | some d =>
      obtain ⟨v, h1, h2⟩ := r.get e
      rw [h1]; exact .cons h2 ih
theorem valsPerm {vs : List V} {us : List Value} (r : Vals vs us) (π : List Nat) : Vals (permL π vs) (permL π us) := by
  unfold permL
  induction π with
  | nil => exact .nil
  | cons j π ih =>
    rw [List.filterMap_cons, List.filterMap_cons]
    cases e : vs[j]? with
    | none => rw [r.none_of e]; exact ih
    | some d =>
      obtain ⟨u, h1, h2⟩ := r.get e
      rw [h1]; exact .cons h2 ih
/-- how a call of this shape (n by place, the others by the names ks) binds: parameter i gets the π i-th written value -/
def BindP (K : Kf) (fd : FuncData) (ps : List Str) (n : Nat) (ks : List Str) (π : List Nat) : Prop :=
  ∀ (t : Shared) (us ws : List Value), K.In t.heap → us.length = n → ws.length = ks.length → BindsTo t fd ⟨us, ks.zip ws⟩ (ps.zip (permL π (us ++ ws)))
def appA (f g : AF) : AF := fun env S => (f env S).bind fun a S1 => (g env S1).bind fun b S2 => .ok (a ++ b) S2
def callE (φ : Fn) (π : List Nat) (h : AF) : EF := fun env S => (h env S).bind fun ds S1 => φ (permL π ds) S1
section
variable {G : Gc} {Wx : WX} {X : Cx} {e e2 : Expr} {es : List Expr} {h k : AF} {pos p : Pos} {x : Str} {f : Addr} {fd : FuncData} {ps ks : List Str} {φ : Fn} {kk n : Nat} {π : List Nat} {kws : List Keyword}
theorem run_G {pins : List (Addr × Obj)} {σ : L2.St} {H : Hp} {s : Shared} {Q : VK} {us ws : List Value} {vs : List V} {S : Store} {W : Wd} {ds : List D}
    (F : FnG X.prog X.w X.K X.mg X.base kk f fd ps (spD G φ ps.length)) (gd : X.A.guards = some []) (hr : Room kk X.A) (tk : Takes X Wx) (hk : X.K = G.K) (hb : BindP X.K fd ps n ks π) (hπ : (permL π ds).length = ps.length)
    (I : Inv X pins σ H s) (r : Vals vs (us ++ ws)) (l1 : us.length = n) (l2 : ws.length = ks.length) (hs : StR G S W H) (rd : RepL G.K W ds vs) (o : OutR G Wx W σ (Pe G W Q) (φ (permL π ds) S)) :
    wpAny (model X.prog X.w) X.A (call (.ref f) us (ks.zip ws)) (EP X pins σ Q) X.xe s := by
  have sp : spD G φ ps.length (permL π vs) H Q (fun c dx H' => Wx c dx σ H') := by
    refine ⟨permL π ds, S, W, hs, rd.perm π, hπ, ?_⟩
    cases q : φ (permL π ds) S with
    | ok d S2 => rw [q] at o; exact o
    | exc c d S2 => rw [q] at o; exact o
    | bad => rw [q] at o; exact o
  refine wpAny_call (codeAny_mono (F.run X.A X.stack s H ⟨us, ks.zip ws⟩ (permL π (us ++ ws)) (permL π vs) Q _ gd hr I.env0 (hb s us ws I.kIn l1 l2) (valsPerm r π) sp) fun res t hq => ?_)
  cases res with
  | error e => exact tk e t (XE.of_call I (fun _ _ _ z => z) hq)
  | ok fl =>
    cases fl with
    | ret u => exact I.after hq
    | next => exact False.elim hq
    | brk => exact False.elim hq
    | cont => exact False.elim hq
theorem call_len_of {ds : List D} {vs : List V} {S : Store} {W : Wd} (rd : RepL G.K W ds vs) : ds.length = vs.length := rd.len
/-- f(a, ..) -/
theorem pe_callG (F : FnG X.prog X.w X.K X.mg X.base kk f fd ps (spD G φ ps.length)) (gd : X.A.guards = some []) (hr : Room kk X.A) (tk : Takes X Wx) (hk : X.K = G.K) (hb : BindP X.K fd ps n [] π)
    (hπ : ∀ xs : List D, xs.length = n → (permL π xs).length = ps.length) (hl : ∀ env S ds S1, h env S = .ok ds S1 → ds.length = n) (hg : Gl X x) (hm : X.mg x = some (.ref f)) (kp : PySem.W.keepIn X.K (.ref f) = true) (ha : PA X (e :: es) (tA G Wx h))
    (hdb : (x == ("__debug__" : Str)) = false) (he : starEach (e :: es) X.env = (false, eval e X.env) :: starEach es X.env) (hpl : (backTo pos (starEach es X.env)).any (·.1) = false) :
    PE X (.Call (.Name x p) (e :: es) [] pos) (tE G Wx (callE φ π h)) := by
  refine ⟨fun pins s σ H Q I ⟨env, S, W, hs, hen, o⟩ => ?_⟩
  refine wpAny_Call_Name_kw (ld_glob I hg hm ?_ hdb)
  unfold callE at o
  have o' : OutR G Wx W σ (Pe G W Q) ((h env S).bind fun ds S1 => if ds.length = n then φ (permL π ds) S1 else .bad) := by
    cases q : h env S with
    | ok ds S1 => rw [q] at o; simp only [Res.bind] at o ⊢; rw [if_pos (hl _ _ _ _ q)]; exact o
    | exc c d S1 => rw [q] at o; exact o
    | bad => rw [q] at o; exact o
  refine PySem.W.callWith_K (h₀ := X.base) I.ok.mod.kin kp (thn (ha.run pos pins s σ H _ I (tA_e hs hen o')) fun us s1 hh => ?_) he hpl
  obtain ⟨vs, H1, I1, r1, S1, W1, ds, l1, s1', e1, rd, o1⟩ := hh
  refine ⟨I1.kIn, ?_⟩
  split at o1
  · rename_i hn
    have q := run_G (us := us) (ws := []) (ks := []) F gd hr tk hk hb (hπ ds hn) I1 (by rw [List.append_nil]; exact r1) (by rw [← r1.length, ← rd.len, hn]) rfl s1' rd o1
    exact q
  · exact False.elim o1
theorem pk_nilD : PK X [] (tA G Wx nilA) := ⟨fun p pins s σ H Q I ⟨env, S, W, hs, he, o⟩ => pk_nil.run p pins s σ H Q I (o [] H W (.refl _) hs .nil)⟩
theorem pk_consD {nm : Option Str} {kpos : Pos} {f' : EF} (ha : PE X e (tE G Wx f')) (hr : PK X kws (tA G Wx k)) : PK X (⟨nm, e, kpos⟩ :: kws) (tA G Wx (consA f' k)) :=
  ⟨fun p pins s σ H Q I ⟨env, S, W, hs, he, o⟩ => (pk_cons (nm := nm) (kpos := kpos) ha hr).run p pins s σ H Q I
    (tE_mono (tE_a hs he o) fun v H1 ⟨S1, W1, d, l1, s1, e1, r1, o1⟩ =>
      tA_mono (tA_a s1 e1 o1) fun u H2 ⟨S2, W2, d2, l2, s2, e2', r2, o2⟩ => o2 _ H2 W2 (.refl _) s2 (.cons (r1.mo l2) r2))⟩
/-- f(a, .., k = b, ..) -/
theorem pe_callGK (F : FnG X.prog X.w X.K X.mg X.base kk f fd ps (spD G φ ps.length)) (gd : X.A.guards = some []) (hr : Room kk X.A) (tk : Takes X Wx) (hk : X.K = G.K) (hb : BindP X.K fd ps n ks π)
    (hπ : ∀ xs : List D, xs.length = n + ks.length → (permL π xs).length = ps.length) (hl : ∀ env S ds S1, h env S = .ok ds S1 → ds.length = n) (hl2 : ∀ env S ds S1, k env S = .ok ds S1 → ds.length = ks.length)
    (hg : Gl X x) (hm : X.mg x = some (.ref f)) (kp : PySem.W.keepIn X.K (.ref f) = true) (ha : PA X (e :: es) (tA G Wx h)) (hkw : PK X kws (tA G Wx k))
    (hall : (backToKw pos (keywordEach kws X.env)).all (·.1.isSome) = true) (hks : (backToKw pos (keywordEach kws X.env)).filterMap (·.1) = ks)
    (hdb : (x == ("__debug__" : Str)) = false) (he : starEach (e :: es) X.env = (false, eval e X.env) :: starEach es X.env) (hpl : ((backTo pos (starEach (e :: es) X.env)).any (·.1) || (backToKw pos (keywordEach kws X.env)).any (·.1.isNone)) = false) :
    PE X (.Call (.Name x p) (e :: es) kws pos) (tE G Wx (callE φ π (appA h k))) := by
  refine ⟨fun pins s σ H Q I ⟨env, S, W, hs, hen, o⟩ => ?_⟩
  refine wpAny_Call_Name_kw (ld_glob I hg hm ?_ hdb)
  unfold callE appA at o
  have o' : OutR G Wx W σ (Pe G W Q) ((h env S).bind fun ds S1 => if ds.length = n then (k env S1).bind fun es S2 => if es.length = ks.length then φ (permL π (ds ++ es)) S2 else .bad else .bad) := by
    cases q : h env S with
    | ok ds S1 =>
      rw [q] at o; simp only [Res.bind] at o ⊢; rw [if_pos (hl _ _ _ _ q)]
      cases q2 : k env S1 with
      | ok es S2 => rw [q2] at o; simp only at o ⊢; rw [if_pos (hl2 _ _ _ _ q2)]; exact o
      | exc c d S2 => rw [q2] at o; exact o
      | bad => rw [q2] at o; exact o
    | exc c d S1 => rw [q] at o; exact o
    | bad => rw [q] at o; exact o
  refine PySem.W.callWith_KW (h₀ := X.base) I.ok.mod.kin kp hall (thn (ha.run pos pins s σ H _ I (tA_e hs hen o')) fun us s1 hh => ?_) hpl he
  obtain ⟨vs, H1, I1, r1, S1, W1, ds, l1, s1', e1, rd, o1⟩ := hh
  split at o1
  · rename_i hn
    refine thn (hkw.run pos pins s1 σ H1 _ I1 (tA_e s1' e1 o1)) fun ws s2 hh2 => ?_
    obtain ⟨zs, H2, I2, r2, S2, W2, es', l2, s2', e2', rd2, o2⟩ := hh2
    refine ⟨I2.kIn, ?_⟩
    split at o2
    · rename_i hn2
      rw [hks]
      exact run_G F gd hr tk hk hb (hπ _ (by rw [List.length_append, hn, hn2])) I2 (r1.append r2) (by rw [List.nil_append, ← r1.length, ← rd.len, hn]) (by rw [← r2.length, ← rd2.len, hn2]) s2' ((rd.mo l2).app rd2) o2
    · exact False.elim o2
  · exact False.elim o1
/-- f(k = b, ..) -/
theorem pe_callGK0 (F : FnG X.prog X.w X.K X.mg X.base kk f fd ps (spD G φ ps.length)) (gd : X.A.guards = some []) (hr : Room kk X.A) (tk : Takes X Wx) (hk : X.K = G.K) (hb : BindP X.K fd ps 0 ks π)
    (hπ : ∀ xs : List D, xs.length = ks.length → (permL π xs).length = ps.length) (hl2 : ∀ env S ds S1, k env S = .ok ds S1 → ds.length = ks.length)
    (hg : Gl X x) (hm : X.mg x = some (.ref f)) (kp : PySem.W.keepIn X.K (.ref f) = true) (hkw : PK X kws (tA G Wx k))
    (hall : (backToKw pos (keywordEach kws X.env)).all (·.1.isSome) = true) (hks : (backToKw pos (keywordEach kws X.env)).filterMap (·.1) = ks)
    (hdb : (x == ("__debug__" : Str)) = false) (hpl : ((backTo pos (starEach [] X.env)).any (·.1) || (backToKw pos (keywordEach kws X.env)).any (·.1.isNone)) = false) :
    PE X (.Call (.Name x p) [] kws pos) (tE G Wx (callE φ π k)) := by
  refine ⟨fun pins s σ H Q I ⟨env, S, W, hs, hen, o⟩ => ?_⟩
  refine wpAny_Call_Name_kw (ld_glob I hg hm ?_ hdb)
  unfold callE at o
  have o' : OutR G Wx W σ (Pe G W Q) ((k env S).bind fun es S2 => if es.length = ks.length then φ (permL π es) S2 else .bad) := by
    cases q2 : k env S with
    | ok es S2 => rw [q2] at o; simp only [Res.bind] at o ⊢; rw [if_pos (hl2 _ _ _ _ q2)]; exact o
    | exc c d S2 => rw [q2] at o; exact o
    | bad => rw [q2] at o; exact o
  refine PySem.W.callWith_KW0 (h₀ := X.base) I.ok.mod.kin kp hall (thn (hkw.run pos pins s σ H _ I (tA_e hs hen o')) fun ws s2 hh2 => ?_) hpl
  obtain ⟨zs, H2, I2, r2, S2, W2, es', l2, s2', e2', rd2, o2⟩ := hh2
  refine ⟨I2.kIn, ?_⟩
  split at o2
  · rename_i hn2
    rw [hks]
    exact run_G (us := []) F gd hr tk hk hb (hπ _ hn2) I2 r2 rfl (by rw [← r2.length, ← rd2.len, hn2]) s2' rd2 o2
  · exact False.elim o2
end
end Lt
set_option maxRecDepth 100000
set_option maxHeartbeats 4000000
namespace Lt
open PySem PySem.Spec PyProof.Rows L2

/-! ### targets -/
abbrev GF := D → SV → Store → Option (SV × Store)
def tG (G : Gc) (vs : List Nat) (f : GF) : TG := fun v σ H Q => ∃ env S W d, StR G S W H ∧ EnvR G.K W env σ ∧ Rep G.K W d v ∧ match f d env S with
  | some (env', S') => ∀ σ' H' W', W.le W' → StR G S' W' H' → EnvR G.K W' env' σ' → wipe σ' vs = wipe σ vs → Q σ' H'
  | none => False
abbrev GsF := List D → SV → Store → Option (SV × Store)
def tGs (G : Gc) (vs : List Nat) (f : GsF) : TGs := fun us σ H Q => ∃ env S W ds, StR G S W H ∧ EnvR G.K W env σ ∧ RepL G.K W ds us ∧ match f ds env S with
  | some (env', S') => ∀ σ' H' W', W.le W' → StR G S' W' H' → EnvR G.K W' env' σ' → wipe σ' vs = wipe σ vs → Q σ' H'
  | none => False
def gNm (i : Nat) : GF := fun d env S => some (env.set i (some d), S)
def gNl : GsF := fun ds env S => match ds with
  | [] => some (env, S)
  | _ => none
def gCs (g : GF) (h : GsF) : GsF := fun ds env S => match ds with
  | d :: ds => match g d env S with
    | some (env1, S1) => h ds env1 S1
    | none => none
  | [] => none
def itemsOf : D → Option (List D)
  | .tup xs => some xs
  | .lst xs => some xs
  | _ => none
def gTp (n : Nat) (h : GsF) : GF := fun d env S => match itemsOf (vw S d) with
  | some xs => if xs.length = n then h xs env S else none
  | none => none
/-- o[i] = d, o a list or a dict of the store -/
def setItemD (o i d : D) (S : Store) : Option Store := match o with
  | .ref n => match S[n]? with
    | some (.lst xs) => match i with
      | .int k => (ixN xs.length k).map fun j => S.set n (.lst (xs.set j d))
      | _ => none
    | some (.dic ks vs) => none
    | _ => none
  | _ => none
def gSb (fo fi : EF) : GF := fun d env S => match fo env S with
  | .ok o S1 => match fi env S1 with
    | .ok i S2 => (setItemD o i d S2).map fun S3 => (env, S3)
    | _ => none
  | _ => none
section
variable {G : Gc} {Wx : WX} {X : Cx} {e e2 : Expr} {es : List Expr} {f g : EF} {pos : Pos} {vs : List Nat}
theorem wipe_set {σ : L2.St} {i : Nat} {x : Option V} : ∀ {vs : List Nat}, i ∈ vs → wipe (σ.set i x) vs = wipe σ vs
  | [], h => by cases h
  | v :: vs, h => by
    unfold wipe
    by_cases hm : i ∈ vs
    · rw [wipe_set hm]
    · have e : i = v := by
        rcases List.mem_cons.mp h with h | h
        · exact h
        · exact absurd h hm
      subst e
      have k : ∀ us : List Nat, (wipe (σ.set i x) us).set i none = (wipe σ us).set i none := by
        intro us
        induction us with
        | nil => unfold wipe; rw [List.set_set]
        | cons u us ih =>
          unfold wipe
          by_cases hu : u = i
          · subst hu; rw [List.set_set, List.set_set]; exact ih
          · rw [List.set_comm _ _ hu, ih, List.set_comm _ _ hu]
      exact k vs
theorem pg_nm {i : Nat} {x : Str} (hm : i ∈ vs) (hN : X.N.Nodup) (hi : X.N[i]? = some x) (hx : Loc X.env.scope x) (hf : X.fn x = true ∨ X.env.scope.names.lookup x = some .local) : PG X (.Name x pos) (tG G vs (gNm i)) :=
  ⟨fun pins s σ H v u Q I r ⟨env, S, W, d, hs, he, rd, h⟩ => (pg_name hN hi hx hf).run pins s σ H v u Q I r (h _ H W (.refl _) hs (he.set rd i) (wipe_set hm))⟩
theorem pgs_nl : PGs X [] (tGs G vs gNl) :=
  ⟨fun pins s σ H us ws Q I r ⟨env, S, W, ds, hs, he, rd, h⟩ => by
    cases rd with
    | nil => exact pgs_nil.run pins s σ H _ ws Q I r ⟨rfl, h σ H W (.refl _) hs he rfl⟩
    | cons _ _ => exact False.elim h⟩
theorem pgs_cs {t : GF} {k : GsF} (h1 : PG X e (tG G vs t)) (h2 : PGs X es (tGs G vs k)) (hs : (assignEach (e :: es) X.env).map (·.2) = assign e X.env :: (assignEach es X.env).map (·.2)) : PGs X (e :: es) (tGs G vs (gCs t k)) :=
  ⟨fun pins s σ H us ws Q I r ⟨env, S, W, ds, hst, he, rd, h⟩ => by
    cases rd with
    | nil => exact False.elim h
    | @cons d v ds us r1 r2 =>
      refine (pgs_cons h1 h2 hs).run pins s σ H _ ws Q I r ⟨v, us, rfl, env, S, W, d, hst, he, r1, ?_⟩
      unfold gCs at h
      cases q : t d env S with
      | none => simp only [q] at h
      | some p =>
        obtain ⟨env1, S1⟩ := p
        simp only [q] at h
        refine fun σ1 H1 W1 l1 s1 e1 w1 => ⟨env1, S1, W1, ds, s1, e1, r2.mo l1, ?_⟩
        cases q2 : k ds env1 S1 with
        | none => rw [q2] at h; exact False.elim h
        | some p2 =>
          obtain ⟨env2, S2⟩ := p2
          rw [q2] at h
          exact fun σ2 H2 W2 l2 s2 e2 w2 => h σ2 H2 W2 (l1.trans l2) s2 e2 (w2.trans w1)⟩
theorem pg_tp {k : Nat} {h : GsF} {n : Nat} (hk : X.K = G.K) (hc : X.calm = true) (hg : PGs X es (tGs G vs h)) (hn : (assignEach es X.env).length = n) (hst : (assignEach es X.env).findIdx? (·.1) = none) : PG X (.Tuple es k pos) (tG G vs (gTp n h)) :=
  ⟨fun pins s σ H v u Q I r ⟨env, S, W, d, hs, he, rd, w⟩ => by
    unfold gTp at w
    have nw := rd.vw hs
    generalize vw S d = d' at w nw
    cases nw with
    | @tup a us ds q rl =>
      simp only [itemsOf] at w
      by_cases hl : ds.length = n
      · rw [if_pos hl] at w
        exact (pg_tup hc hg hn hst).run pins s σ H _ u Q I r ⟨_, _, rfl, by rw [hk]; exact SqT.mo hs.rd q, by rw [← rl.len]; exact hl, env, S, W, _, hs, he, rl, w⟩
      · rw [if_neg hl] at w; exact False.elim w
    | @lst a us ds q rl =>
      simp only [itemsOf] at w
      by_cases hl : ds.length = n
      · rw [if_pos hl] at w
        exact (pg_lst hc hg hn hst).run pins s σ H _ u Q I r ⟨_, _, rfl, SqL.of q, by rw [← rl.len]; exact hl, env, S, W, _, hs, he, rl, w⟩
      · rw [if_neg hl] at w; exact False.elim w
    | _ => exact False.elim w⟩
theorem set_D : PSet X (fun o i v H Q => ∃ S W od id d S', StR G S W H ∧ Rep G.K W od o ∧ Rep G.K W id i ∧ Rep G.K W d v ∧ setItemD od id d S = some S' ∧ ∀ H' , StR G S' W H' → Q H') := by
  intro pins s σ H o i v ov iv u Q I ro ri rv ⟨S, W, od, id, d, S', hs, r1, r2, r3, he, q⟩
  unfold setItemD at he
  cases r1 with
  | ref hm =>
    rename_i n a
    simp only at he
    cases hc : S[n]? with
    | none => rw [hc] at he; cases he
    | some c =>
      rw [hc] at he
      cases c with
      | lst xs =>
        cases r2 with
        | int k =>
          simp only at he
          cases hx : ixN xs.length k with
          | none => rw [hx] at he; cases he
          | some j =>
            rw [hx] at he; cases he
            obtain ⟨a', ho, g1, g2, g3, g4⟩ := hs.live n _ hc (by simp)
            rw [hm] at g1; cases g1
            cases g4 with
            | lst rl =>
              rename_i us
              refine set_list pins s σ H _ _ v ov iv u Q I ro ri rv ⟨a, us, k, j, rfl, rfl, g3, by rw [← rl.len]; exact hx, ?_⟩
              exact q _ (hs.put hc (by simp) hm (.lst (rl.set r3 j)))
        | _ => cases he
      | dic ks vs => cases he
      | ins c fs => cases he
      | dead => cases he
  | _ => cases he
theorem pg_sb (tk0 : Takes X (fun _ _ _ _ => False)) (ha : PE X e (tE G (fun _ _ _ _ => False) f)) (hb : PE X e2 (tE G (fun _ _ _ _ => False) g))
    (hw : ∀ v, assign (.Subscript e e2 pos) X.env v = (do
      let ov ← holding [v] (eval e X.env)
      let iv ← holding [v, ov] (eval e2 X.env)
      standAt pos
      holding [v, ov, iv] (setItem ov iv v)
      release [v, ov, iv] [])) : PG X (.Subscript e e2 pos) (tG G vs (gSb f g)) :=
  ⟨fun pins s σ H v u Q I r ⟨env, S, W, d, hs, he, rd, h⟩ => by
    refine (pg_sub ha hb (set_D (G := G)) hw).run pins s σ H v u Q I r ?_
    unfold gSb at h
    cases q1 : f env S with
    | ok o S1 =>
      simp only [q1] at h
      cases q2 : g env S1 with
      | ok i S2 =>
        simp only [q2] at h
        cases q3 : setItemD o i d S2 with
        | none => simp only [q3, Option.map_none] at h
        | some S3 =>
          simp only [q3, Option.map_some] at h
          refine ⟨env, S, W, hs, he, ?_⟩
          rw [q1]
          refine fun v1 H1 W1 l1 s1 r1 => ⟨env, S1, W1, s1, he.mo l1, ?_⟩
          rw [q2]
          exact fun v2 H2 W2 l2 s2 r2 => ⟨S2, W2, o, i, d, S3, s2, r1.mo l2, r2, (rd.mo l1).mo l2, q3, fun H3 s3 => h σ H3 W2 (l1.trans l2) s3 ((he.mo l1).mo l2) rfl⟩
      | exc c d' S2 => simp only [q2] at h
      | bad => simp only [q2] at h
    | exc c d' S2 => simp only [q1] at h
    | bad => simp only [q1] at h⟩
end

/-! ### statements -/
def nextS : SF := fun env S => .nx env S
def badS : SF := fun _ _ => .bad
def seqS (f g : SF) : SF := fun env S => match f env S with
  | .nx env1 S1 => g env1 S1
  | r => r
def setS (i : Nat) (f : EF) : SF := fun env S => (f env S).bindS env fun d S1 => .nx (env.set i (some d)) S1
def asgS (f : EF) (g : GF) : SF := fun env S => (f env S).bindS env fun d S1 => match g d env S1 with
  | some (env1, S2) => .nx env1 S2
  | none => .bad
def par2 (i j : Nat) (f g : EF) : SF := fun env S => (f env S).bindS env fun a S1 => (g env S1).bindS env fun b S2 => .nx ((env.set i (some a)).set j (some b)) S2
def par3 (i j l : Nat) (f g h : EF) : SF := fun env S => (f env S).bindS env fun a S1 => (g env S1).bindS env fun b S2 => (h env S2).bindS env fun c S3 => .nx (((env.set i (some a)).set j (some b)).set l (some c)) S3
def dropS (f : EF) : SF := fun env S => (f env S).bindS env fun _ S1 => .nx env S1
def retS (f : EF) : SF := fun env S => (f env S).bindS env fun d S1 => .rt d S1
def retN : SF := fun _ S => .rt .non S
def brkS : SF := fun env S => .bk env S
def cntS : SF := fun env S => .ct env S
def ifS (c : TF) (f g : SF) : SF := fun env S => (c env S).bindS env fun b S1 => if b = true then f env S1 else g env S1
/-- x op= e -/
def augS (i : Nat) (go : D → D → Option D) (f : EF) : SF := fun env S => match env[i]? with
  | some (some x) => (f env S).bindS env fun d S1 => match go (vw S1 x) (vw S1 d) with
    | some r => .nx (env.set i (some r)) S1
    | none => .bad
  | _ => .bad
section
variable {G : Gc} {Wx : WX} {X : Cx} {e e2 e3 : Expr} {es : List Expr} {st : Stmt} {sts sts2 : List Stmt} {f g h : EF} {a b : SF} {c : TF} {pos : Pos}
theorem pss_nilD : PSs X [] (tS G Wx nextS) := pss_nil.imp fun Dn σ H ⟨env, S, W, hs, he, o⟩ => o σ H W (.refl _) hs he
theorem pss_consD (h1 : PS X st (tS G Wx a)) (h2 : PSs X sts (tS G Wx b)) : PSs X (st :: sts) (tS G Wx (seqS a b)) :=
  (pss_cons h1 h2).imp fun Dn σ H ⟨env, S, W, hs, he, o⟩ => by
    refine ⟨env, S, W, hs, he, ?_⟩
    unfold seqS at o
    cases q : a env S with
    | nx env1 S1 => rw [q] at o; exact fun σ1 H1 W1 l1 s1 e1 => ⟨env1, S1, W1, s1, e1, o.mo l1⟩
    | rt d S1 => rw [q] at o; exact o
    | bk e1 S1 => rw [q] at o; exact o
    | ct e1 S1 => rw [q] at o; exact o
    | ex c d e1 S1 => rw [q] at o; exact o
    | bad => rw [q] at o; exact o
theorem ps_setD {i : Nat} {x : Str} {pos' : Pos} (hN : X.N.Nodup) (hi : X.N[i]? = some x) (hx : Loc X.env.scope x) (hf : X.fn x = true ∨ X.env.scope.names.lookup x = some .local) (ha : PE X e (tE G Wx f)) (hw : swapsWith e (some (.Name x pos')) pos.line X.env = pure false) :
    PS X (.Assign [.Name x pos'] e pos) (tS G Wx (setS i f)) :=
  (ps_set hN hi hx ha hw hf).imp fun Dn σ H ⟨env, S, W, hs, he, o⟩ =>
    tE_mono (tE_thenS hs he o) fun v H1 ⟨S1, W1, d, l1, s1, e1, r1, o1⟩ => o1 _ H1 W1 (.refl _) s1 (e1.set r1 i)
theorem ps_asgD {tg : Expr} {gt : GF} {vs : List Nat} (ha : PE X e (tE G Wx f)) (hg : PG X tg (tG G vs gt)) (hs : swapsWithSole [tg] e pos.line X.env = pure false) (hw : swappedStores [tg] e X.env = pure none)
    (h1 : (assignEach [tg] X.env).map (·.2) = [assign tg X.env]) : PS X (.Assign [tg] e pos) (tS G Wx (asgS f gt)) :=
  (ps_asg ha hg hs hw h1).imp fun Dn σ H ⟨env, S, W, hs, he, o⟩ =>
    tE_mono (tE_thenS hs he o) fun v H1 ⟨S1, W1, d, l1, s1, e1, r1, o1⟩ => by
      refine ⟨env, S1, W1, d, s1, e1, r1, ?_⟩
      cases q : gt d env S1 with
      | none => rw [q] at o1; exact False.elim o1
      | some p => obtain ⟨env2, S2⟩ := p; rw [q] at o1; exact fun σ2 H2 W2 l2 s2 e2 _ => o1 σ2 H2 W2 l2 s2 e2
theorem ps_par2 {i j : Nat} {x y : Str} {px py pt : Pos} {kt k2 : Nat} {pt2 : Pos} (hc : X.calm = true) (hN : X.N.Nodup) (hi : X.N[i]? = some x) (hj : X.N[j]? = some y) (hij : i ≠ j)
    (hx : X.env.scope.names.lookup x = some .local) (hy : X.env.scope.names.lookup y = some .local) (ha : PE X e (tE G Wx f)) (hb : PE X e2 (tE G Wx g)) (hs1 : starEach [e, e2] X.env = (false, eval e X.env) :: starEach [e2] X.env) (hs2 : starEach [e2] X.env = (false, eval e2 X.env) :: starEach [] X.env)
    (hw : swappedStores [.Tuple [.Name x px, .Name y py] kt pt] (.Tuple [e, e2] k2 pt2) X.env = pure (some [x, y])) (hs : swapsWithSole [.Tuple [.Name x px, .Name y py] kt pt] (.Tuple [e, e2] k2 pt2) pos.line X.env = pure false) :
    PS X (.Assign [.Tuple [.Name x px, .Name y py] kt pt] (.Tuple [e, e2] k2 pt2) pos) (tS G Wx (par2 i j f g)) :=
  (ps_par hc hN hi hj hij hx hy (pa_cons ha (pa_cons hb pa_nil hs2) hs1) hw hs).imp fun Dn σ H ⟨env, S, W, hs, he, o⟩ =>
    tE_mono (tE_thenS hs he o) fun v H1 ⟨S1, W1, d, l1, s1, e1, r1, o1⟩ =>
      tE_mono (tE_thenS s1 e1 o1) fun u H2 ⟨S2, W2, d2, l2, s2, e2', r2, o2⟩ => ⟨v, u, rfl, o2 _ H2 W2 (.refl _) s2 ((e2'.set (r1.mo l2) i).set r2 j)⟩
theorem ps_par3D {i j l : Nat} {x y z : Str} {px py pz pt : Pos} {kt k2 : Nat} {pt2 : Pos} (hc : X.calm = true) (hN : X.N.Nodup) (hi : X.N[i]? = some x) (hj : X.N[j]? = some y) (hl : X.N[l]? = some z) (hij : i ≠ j) (hil : i ≠ l) (hjl : j ≠ l)
    (hx : X.env.scope.names.lookup x = some .local) (hy : X.env.scope.names.lookup y = some .local) (hz : X.env.scope.names.lookup z = some .local) (ha : PE X e (tE G Wx f)) (hb : PE X e2 (tE G Wx g)) (hc3 : PE X e3 (tE G Wx h))
    (hs1 : starEach [e, e2, e3] X.env = (false, eval e X.env) :: starEach [e2, e3] X.env) (hs2 : starEach [e2, e3] X.env = (false, eval e2 X.env) :: starEach [e3] X.env) (hs3 : starEach [e3] X.env = (false, eval e3 X.env) :: starEach [] X.env)
    (hw : swappedStores [.Tuple [.Name x px, .Name y py, .Name z pz] kt pt] (.Tuple [e, e2, e3] k2 pt2) X.env = pure (some [x, y, z])) (hs : swapsWithSole [.Tuple [.Name x px, .Name y py, .Name z pz] kt pt] (.Tuple [e, e2, e3] k2 pt2) pos.line X.env = pure false) :
    PS X (.Assign [.Tuple [.Name x px, .Name y py, .Name z pz] kt pt] (.Tuple [e, e2, e3] k2 pt2) pos) (tS G Wx (par3 i j l f g h)) :=
  (ps_par3 hc hN hi hj hl hij hil hjl hx hy hz (pa_cons ha (pa_cons hb (pa_cons hc3 pa_nil hs3) hs2) hs1) hw hs).imp fun Dn σ H ⟨env, S, W, hs, he, o⟩ =>
    tE_mono (tE_thenS hs he o) fun v H1 ⟨S1, W1, d, l1, s1, e1, r1, o1⟩ =>
      tE_mono (tE_thenS s1 e1 o1) fun u H2 ⟨S2, W2, d2, l2, s2, e2', r2, o2⟩ =>
        tE_mono (tE_thenS s2 e2' o2) fun w H3 ⟨S3, W3, d3, l3, s3, e3', r3, o3⟩ => ⟨v, u, w, rfl, o3 _ H3 W3 (.refl _) s3 (((e3'.set ((r1.mo l2).mo l3) i).set (r2.mo l3) j).set r3 l)⟩
theorem ps_dropD (ha : PE X e (tE G Wx f)) (hw : swapsWith e none pos.line X.env = pure false) : PS X (.Expr e pos) (tS G Wx (dropS f)) :=
  (ps_expr ha hw).imp fun Dn σ H ⟨env, S, W, hs, he, o⟩ =>
    tE_mono (tE_thenS hs he o) fun v H1 ⟨S1, W1, d, l1, s1, e1, r1, o1⟩ => o1 _ H1 W1 (.refl _) s1 e1
theorem ps_retD (ha : PE X e (tE G Wx f)) : PS X (.Return (some e) pos) (tS G Wx (retS f)) :=
  (ps_ret ha).imp fun Dn σ H ⟨env, S, W, hs, he, o⟩ =>
    tE_mono (tE_thenS hs he o) fun v H1 ⟨S1, W1, d, l1, s1, e1, r1, o1⟩ => o1 _ H1 W1 (.refl _) s1 r1
theorem ps_retND : PS X (.Return none pos) (tS G Wx Lt.retN) := ps_retN.imp fun Dn σ H ⟨env, S, W, hs, he, o⟩ => o _ H W (.refl _) hs .non
theorem ps_passD : PS X (.Pass pos) (tS G Wx nextS) := ps_pass.imp fun Dn σ H ⟨env, S, W, hs, he, o⟩ => o σ H W (.refl _) hs he
theorem ps_brkD : PS X (.Break pos) (tS G Wx brkS) := ps_break.imp fun Dn σ H ⟨env, S, W, hs, he, o⟩ => o σ H W (.refl _) hs he
theorem ps_cntD : PS X (.Continue pos) (tS G Wx cntS) := ps_continue.imp fun Dn σ H ⟨env, S, W, hs, he, o⟩ => o σ H W (.refl _) hs he
theorem ps_badD : PS X st (tS G Wx badS) := ps_never.imp fun Dn σ H ⟨env, S, W, hs, he, o⟩ => o
theorem ps_ifD (hc : PT X e (tT G Wx c)) (ha : PSs X sts (tS G Wx a)) (hb : PSs X sts2 (tS G Wx b)) : PS X (.If e sts sts2 pos) (tS G Wx (ifS c a b)) :=
  (ps_if hc ha hb).imp fun Dn σ H ⟨env, S, W, hs, he, o⟩ =>
    tT_mono (tT_thenS hs he o) fun k H1 ⟨S1, W1, l1, s1, e1, o1⟩ => by
      cases k with
      | true => exact ⟨env, S1, W1, s1, e1, o1⟩
      | false => exact ⟨env, S1, W1, s1, e1, o1⟩
theorem ps_augD {i : Nat} {x : Str} {op : Operator} {go : D → D → Option D} {pos' : Pos} (hN : X.N.Nodup) (hi : X.N[i]? = some x) (hx : Loc X.env.scope x) (hf : X.fn x = true ∨ X.env.scope.names.lookup x = some .local) (ha : PE X e (tE G Wx f)) (ho : OpR X (inplaceOp op) (rDB G go)) :
    PS X (.AugAssign (.Name x pos') op e pos) (tS G Wx (augS i go f)) :=
  (ps_aug hN hi hx ha (show PIp X op (rDB G go) from ho) hf).imp fun Dn σ H ⟨env, S, W, hs, he, o⟩ => by
    unfold augS at o
    split at o
    · rename_i d hd
      obtain ⟨v, h1, h2⟩ := he.2 i d hd
      refine ⟨v, h1, tE_mono (tE_thenS hs he o) fun u H1 ⟨S1, W1, d2, l1, s1, e1, r1, o1⟩ => ?_⟩
      cases q : go (vw S1 d) (vw S1 d2) with
      | none => rw [q] at o1; exact False.elim o1
      | some r =>
        rw [q] at o1
        exact ⟨S1, W1, _, _, r, s1, (h2.mo l1).vw s1, r1.vw s1, q, fun z H2 W2 l2 s2 r2 => o1 _ H2 W2 l2 s2 ((e1.mo l2).set r2 i)⟩
    · exact False.elim o
end
end Lt
set_option maxRecDepth 100000
set_option maxHeartbeats 4000000
/-! zip of a list and a tuple, either way round, from the library's level -/
namespace Lt
open PySem PySem.Spec PyProof.Rows L2
open PySem.Sem (wp)
/-- a tuple (true) or a list -/
def SqB (K : Kf) : Bool → Hp → Addr → List V → Prop
  | true => SqT K
  | false => SqL K
def IsIt : Bool → Heap → Addr → Addr → Nat → Prop
  | true => Heap.IsTupleIter
  | false => Heap.IsListIter
def IsSq : Bool → Heap → Addr → Array Value → Prop
  | true => Heap.IsTuple
  | false => Heap.IsList
def itNam : Bool → String
  | true => "tuple_iterator"
  | false => "list_iterator"
theorem IsIt.ext {b : Bool} {h h' : Heap} {it l a : Addr} {i : Nat} (x : IsIt b h it l i) (e : Heap.ExtBut a h h') (n : it ≠ a) : IsIt b h' it l i := by
  cases b
  · exact Heap.IsListIter.extBut x e n
  · exact Heap.IsTupleIter.extBut x e n
theorem IsIt.at' {b : Bool} {h h' : Heap} {it l : Addr} {i : Nat} (x : IsIt b h it l i) (e : ∀ o, h.get? it = some o → h'.get? it = some o) : IsIt b h' it l i := by
  cases b
  · exact Heap.IsListIter.at x e
  · exact Heap.IsTupleIter.at x e
theorem IsIt.ob {b : Bool} {h : Heap} {it l : Addr} {i : Nat} (x : IsIt b h it l i) : ∃ o, h.get? it = some o ∧ ∀ v, o.data = .seq v → False := by
  cases b <;> (obtain ⟨o, e, _, d⟩ := x; exact ⟨o, e, fun v q => by rw [d] at q; cases q⟩)
theorem IsIt.lt {b : Bool} {h : Heap} {it l : Addr} {i : Nat} (x : IsIt b h it l i) : it < h.objs.size := by obtain ⟨o, e, _⟩ := x.ob; exact Heap.lt_size e
theorem IsSq.ext {b : Bool} {h h' : Heap} {l a : Addr} {its : Array Value} (x : IsSq b h l its) (e : Heap.ExtBut a h h') (n : l ≠ a) : IsSq b h' l its := by
  cases b
  · exact Heap.IsList.extBut x e n
  · exact Heap.IsTuple.extBut x e n
section
variable {prog : Program} {w : World} {A : Around} {E : Value → Shared → Prop} {s : Shared}
theorem nb_item {b : Bool} {it l : Addr} {i : Nat} {items : Array Value} {x : Value} {Q : Value → Shared → Prop} (hit : IsIt b s.heap it l i) (hl : IsSq b s.heap l items) (hx : items[i]? = some x)
    (hQ : ∀ h', IsIt b h' it l (i + 1) → Heap.SameBut it s.heap h' → Q x { s with heap := h' }) : wpAny (model prog w) A (Builtin.SmallTypes.nextOf (.ref it)) Q E s := by
  cases b
  · exact wpAny_nextOf_list_item hit hl hx hQ
  · exact RZ.nextOf_tuple_item hit hl hx hQ
theorem nb_end {b : Bool} {it l : Addr} {i : Nat} {items : Array Value} {Q : Value → Shared → Prop} (hh : A.handled = none) (hit : IsIt b s.heap it l i) (hl : IsSq b s.heap l items) (hx : items[i]? = none)
    (hE : ∀ h' e, Heap.ExtBut it s.heap h' → (∃ o, h'.get? e = some o ∧ o.cls = .type "StopIteration") → E (.ref e) { s with heap := h' }) : wpAny (model prog w) A (Builtin.SmallTypes.nextOf (.ref it)) Q E s := by
  cases b
  · exact wpAny_nextOf_list_end hh hit hl hx hE
  · exact RZ.nextOf_tuple_end hh hit hl hx hE
theorem zb_item (c d : Bool) {z TI TO i1 i2 l1 l2 : Addr} {k1 k2 : Nat} {xs ys : Array Value} {x y a b : Value} {Q : Value → Shared → Prop} (D : ZipApart z TI TO i1 i2 l1 l2) (hz : IsZip s.heap z TI TO .none) (hTI : IsPair s.heap TI (.ref i1) (.ref i2)) (hTO : IsPair s.heap TO a b)
    (h1 : IsIt c s.heap i1 l1 k1) (h2 : IsIt d s.heap i2 l2 k2) (hl1 : IsSq c s.heap l1 xs) (hl2 : IsSq d s.heap l2 ys) (hx : xs[k1]? = some x) (hy : ys[k2]? = some y)
    (hQ : ∀ h', IsZip h' z TI TO (rawInt s.heap.objs.size) → IsPair h' TO x y → IsIt c h' i1 l1 (k1 + 1) → IsIt d h' i2 l2 (k2 + 1) → IsPair h' s.heap.objs.size x y → h'.objs.size = s.heap.objs.size + 1 →
      (∀ p o, p ≠ z → p ≠ TO → p ≠ i1 → p ≠ i2 → s.heap.get? p = some o → h'.get? p = some o) → Q (.ref s.heap.objs.size) { s with heap := h' }) :
    wpAny (model prog w) A (Builtin.«zip.__next__» ⟨[.ref z], []⟩) (fun fin s' => ∃ v, fin = .done (.ret v) ∧ Q v s') E s := by
  show wpAny _ _ (field (.ref z) 2 >>= _) _ _ _; refine wpAny_bind (wpAny_field hz rfl (x := .bool false) rfl ?_)
  show wpAny _ _ (field (.ref z) 3 >>= _) _ _ _; refine wpAny_bind (wpAny_field hz rfl (x := .ref TI) rfl ?_); refine wpAny_bind (wpAny_seqItems hTI rfl ?_)
  show wpAny _ _ (Builtin.SmallTypes.ownedTupleIsFree (.ref z) >>= _) _ _ _; refine wpAny_bind ?_; unfold Builtin.SmallTypes.ownedTupleIsFree
  refine wpAny_bind (wpAny_field hz rfl (x := .none) rfl (wpAny_pure ?_)); simp only [if_true]; refine wpAny_bind (wpAny_rule ?_)
  refine wpAny_bind (wpAny_field hz rfl (x := .ref TO) rfl ?_); refine wpAny_bind (wpAny_setField_rec hz (by simp) fun g1 z1 e1 => ?_)
  replace z1 : IsZip g1 z TI TO .ellipsis := z1
  refine wpAny_bind ?_; simp only [List.forIn_cons, List.forIn_nil, List.zipIdx_cons, List.zipIdx_nil]
  refine wpAny_bind (wpAny_bind (wpAny_onRaise ?_)); show wpAny _ _ (Builtin.SmallTypes.nextOf (.ref i1) >>= _) _ _ _
  refine wpAny_bind (nb_item (h1.ext e1.extBut D.i1z) (hl1.ext e1.extBut D.l1z) hx fun g2 j1 e2 => wpAny_pure ?_)
  have t2 : IsPair g2 TO a b := e2.extBut _ _ D.TOi1 (e1.extBut _ _ D.TOz hTO)
  refine wpAny_bind (wpAny_seqItems t2 rfl ?_); refine wpAny_bind (wpAny_updateSeq_pair t2 fun g3 t3 e3 => ?_)
  replace t3 : IsPair g3 TO x b := t3
  refine wpAny_bind (wpAny_letGo (wpAny_pure ?_)); refine wpAny_bind (wpAny_bind (wpAny_onRaise ?_)); show wpAny _ _ (Builtin.SmallTypes.nextOf (.ref i2) >>= _) _ _ _
  refine wpAny_bind (nb_item (((h2.ext e1.extBut D.i2z).ext e2.extBut D.i12.symm).ext e3.extBut D.TOi2.symm) (((hl2.ext e1.extBut D.l2z).ext e2.extBut D.l2i1).ext e3.extBut D.l2TO) hy fun g4 j2 e4 => wpAny_pure ?_)
  have t4 : IsPair g4 TO x b := e4.extBut _ _ D.TOi2 t3
  refine wpAny_bind (wpAny_seqItems t4 rfl ?_); refine wpAny_bind (wpAny_updateSeq_pair t4 fun g5 t5 e5 => ?_)
  replace t5 : IsPair g5 TO x y := t5
  refine wpAny_bind (wpAny_letGo (wpAny_pure (wpAny_pure ?_))); refine wpAny_bind (wpAny_seqItems t5 rfl ?_); refine wpAny_bind (wpAny_newTuple ?_)
  have sz : g5.objs.size = s.heap.objs.size := by rw [e5.1, e4.1, e3.1, e2.1, e1.1]
  have z5 : IsZip g5 z TI TO .ellipsis := e5.extBut _ _ D.TOz.symm (e4.extBut _ _ D.i2z.symm (e3.extBut _ _ D.TOz.symm (e2.extBut _ _ D.i1z.symm z1)))
  have k5 : ∀ p o, p ≠ z → p ≠ TO → p ≠ i1 → p ≠ i2 → s.heap.get? p = some o → g5.get? p = some o := fun p o p1 p2 p3 p4 e => e5.extBut _ _ p2 (e4.extBut _ _ p4 (e3.extBut _ _ p2 (e2.extBut _ _ p3 (e1.extBut _ _ p1 e))))
  have u1 : IsIt c g5 i1 l1 (k1 + 1) := ((j1.ext e3.extBut D.TOi1.symm).ext e4.extBut D.i12).ext e5.extBut D.TOi1.symm
  have u2 : IsIt d g5 i2 l2 (k2 + 1) := j2.ext e5.extBut D.TOi2.symm
  have zl : z < g5.objs.size := Heap.lt_size z5
  show wpAny _ _ (Builtin.SmallTypes.ownedTupleHandOut (.ref z) (.ref g5.objs.size) >>= _) _ _ _; refine wpAny_bind ?_; unfold Builtin.SmallTypes.ownedTupleHandOut
  have z6 : IsZip (g5.push { cls := .type "tuple", data := .seq #[x, y] }) z TI TO .ellipsis := Heap.get?_push_of_some _ z5
  refine wpAny_bind (wpAny_setField_rec z6 (by simp) fun g7 z7 e7 => ?_)
  replace z7 : IsZip g7 z TI TO (rawInt g5.objs.size) := z7
  refine wpAny_setField_rec z7 (by simp) fun g8 z8 e8 => ?_
  replace z8 : IsZip g8 z TI TO (rawInt g5.objs.size) := z8
  have up : ∀ p o, p ≠ z → g5.get? p = some o → g8.get? p = some o := fun p o p1 e => e8.extBut _ _ p1 (e7.extBut _ _ p1 (Heap.get?_push_of_some _ e))
  have t8 : IsPair g8 g5.objs.size x y := e8.extBut _ _ (Nat.ne_of_gt zl) (e7.extBut _ _ (Nat.ne_of_gt zl) (Heap.get?_push_size _ rfl))
  have s8 : g8.objs.size = g5.objs.size + 1 := by rw [e8.1, e7.1, Heap.size_push]
  rw [sz] at z8 t8 s8
  refine wpAny_pure ⟨_, rfl, ?_⟩; show Q (.ref g5.objs.size) _; rw [sz]
  exact hQ g8 z8 (up _ _ D.TOz t5) (u1.at' fun o e => up _ o D.i1z e) (u2.at' fun o e => up _ o D.i2z e) t8 s8 fun p o p1 p2 p3 p4 e => up p o p1 (k5 p o p1 p2 p3 p4 e)
theorem zb_end (c d : Bool) {z TI TO i1 i2 l1 l2 : Addr} {k1 k2 : Nat} {xs ys : Array Value} {a b : Value} {Q : Fin → Shared → Prop} (hh : A.handled = none) (D : ZipApart z TI TO i1 i2 l1 l2) (hz : IsZip s.heap z TI TO .none) (hTI : IsPair s.heap TI (.ref i1) (.ref i2)) (hTO : IsPair s.heap TO a b)
    (h1 : IsIt c s.heap i1 l1 k1) (h2 : IsIt d s.heap i2 l2 k2) (hl1 : IsSq c s.heap l1 xs) (hl2 : IsSq d s.heap l2 ys) (hend : xs[k1]? = none ∨ ys[k2]? = none)
    (hE : ∀ h' e, (∀ p o, p ≠ z → p ≠ TO → p ≠ i1 → p ≠ i2 → s.heap.get? p = some o → h'.get? p = some o) → (∃ o, h'.get? e = some o ∧ o.cls = .type "StopIteration") → E (.ref e) { s with heap := h' }) :
    wpAny (model prog w) A (Builtin.«zip.__next__» ⟨[.ref z], []⟩) Q E s := by
  show wpAny _ _ (field (.ref z) 2 >>= _) _ _ _; refine wpAny_bind (wpAny_field hz rfl (x := .bool false) rfl ?_)
  show wpAny _ _ (field (.ref z) 3 >>= _) _ _ _; refine wpAny_bind (wpAny_field hz rfl (x := .ref TI) rfl ?_); refine wpAny_bind (wpAny_seqItems hTI rfl ?_)
  show wpAny _ _ (Builtin.SmallTypes.ownedTupleIsFree (.ref z) >>= _) _ _ _; refine wpAny_bind ?_; unfold Builtin.SmallTypes.ownedTupleIsFree
  refine wpAny_bind (wpAny_field hz rfl (x := .none) rfl (wpAny_pure ?_)); simp only [if_true]; refine wpAny_bind (wpAny_rule ?_)
  refine wpAny_bind (wpAny_field hz rfl (x := .ref TO) rfl ?_); refine wpAny_bind (wpAny_setField_rec hz (by simp) fun g1 z1 e1 => ?_)
  replace z1 : IsZip g1 z TI TO .ellipsis := z1
  refine wpAny_bind ?_; simp only [List.forIn_cons, List.forIn_nil, List.zipIdx_cons, List.zipIdx_nil]
  refine wpAny_bind (wpAny_bind (wpAny_onRaise ?_)); show wpAny _ _ (Builtin.SmallTypes.nextOf (.ref i1) >>= _) _ _ _
  cases hx : xs[k1]? with
  | none =>
    refine wpAny_bind (nb_end hh (h1.ext e1.extBut D.i1z) (hl1.ext e1.extBut D.l1z) hx fun g2 e e2 ⟨oe, q1, q2⟩ => ?_)
    have z2 : IsZip g2 z TI TO .ellipsis := e2 _ _ D.i1z.symm z1
    have ez : e ≠ z := fun x => by subst x; rw [z2] at q1; cases q1; simp at q2
    exact wpAny_setField_rec z2 (by simp) fun g3 _ e3 => hE g3 e (fun p o p1 _ p3 _ x => e3.extBut _ _ p1 (e2 _ _ p3 (e1.extBut _ _ p1 x))) ⟨oe, e3.extBut _ _ ez q1, q2⟩
  | some x =>
    have hy : ys[k2]? = none := hend.elim (fun h => by rw [hx] at h; cases h) id
    refine wpAny_bind (nb_item (h1.ext e1.extBut D.i1z) (hl1.ext e1.extBut D.l1z) hx fun g2 j1 e2 => wpAny_pure ?_)
    have t2 : IsPair g2 TO a b := e2.extBut _ _ D.TOi1 (e1.extBut _ _ D.TOz hTO)
    refine wpAny_bind (wpAny_seqItems t2 rfl ?_); refine wpAny_bind (wpAny_updateSeq_pair t2 fun g3 t3 e3 => ?_)
    refine wpAny_bind (wpAny_letGo (wpAny_pure ?_)); refine wpAny_bind (wpAny_bind (wpAny_onRaise ?_)); show wpAny _ _ (Builtin.SmallTypes.nextOf (.ref i2) >>= _) _ _ _
    refine wpAny_bind (nb_end hh (((h2.ext e1.extBut D.i2z).ext e2.extBut D.i12.symm).ext e3.extBut D.TOi2.symm) (((hl2.ext e1.extBut D.l2z).ext e2.extBut D.l2i1).ext e3.extBut D.l2TO) hy fun g4 e e4 ⟨oe, q1, q2⟩ => ?_)
    have z4 : IsZip g4 z TI TO .ellipsis := e4 _ _ D.i2z.symm (e3.extBut _ _ D.TOz.symm (e2.extBut _ _ D.i1z.symm z1))
    have ez : e ≠ z := fun x => by subst x; rw [z4] at q1; cases q1; simp at q2
    exact wpAny_setField_rec z4 (by simp) fun g5 _ e5 => hE g5 e (fun p o p1 p2 p3 p4 x => e5.extBut _ _ p1 (e4 _ _ p4 (e3.extBut _ _ p2 (e2.extBut _ _ p3 (e1.extBut _ _ p1 x))))) ⟨oe, e5.extBut _ _ ez q1, q2⟩
theorem pyNext_zb (c d : Bool) {z TI TO i1 i2 l1 l2 : Addr} {k1 k2 : Nat} {xs ys : Array Value} {x y a b : Value} {Q : Option Value → Shared → Prop} (D : ZipApart z TI TO i1 i2 l1 l2) (hz : IsZip s.heap z TI TO .none) (hTI : IsPair s.heap TI (.ref i1) (.ref i2)) (hTO : IsPair s.heap TO a b)
    (h1 : IsIt c s.heap i1 l1 k1) (h2 : IsIt d s.heap i2 l2 k2) (hl1 : IsSq c s.heap l1 xs) (hl2 : IsSq d s.heap l2 ys) (hx : xs[k1]? = some x) (hy : ys[k2]? = some y)
    (hQ : ∀ h', IsZip h' z TI TO (rawInt s.heap.objs.size) → IsPair h' TO x y → IsIt c h' i1 l1 (k1 + 1) → IsIt d h' i2 l2 (k2 + 1) → IsPair h' s.heap.objs.size x y → h'.objs.size = s.heap.objs.size + 1 →
      (∀ p o, p ≠ z → p ≠ TO → p ≠ i1 → p ≠ i2 → s.heap.get? p = some o → h'.get? p = some o) → Q (some (.ref s.heap.objs.size)) { s with heap := h' }) :
    wpAny (model prog w) A (pyNext (.ref z)) Q E s := by
  have hT : s.TypeIs (.ref z) "zip" := ⟨_, hz, rfl⟩
  unfold pyNext
  exact wpAny_bind (wpAny_attempt (wpAny_callSpecial?_slot (name := Str.ofString "__next__") hT F.slot_zip_next (wpAny_call_entry F.slot_zip_next hT F.entry_zip_next (zb_item c d D hz hTI hTO h1 h2 hl1 hl2 hx hy fun h' a1 a2 a3 a4 a5 a6 a7 => wpAny_pure (hQ h' a1 a2 a3 a4 a5 a6 a7)) (F.args_zip_next_1 _))))
theorem pyNext_zbe (c d : Bool) {z TI TO i1 i2 l1 l2 : Addr} {k1 k2 : Nat} {xs ys : Array Value} {a b : Value} {Q : Option Value → Shared → Prop} (hh : A.handled = none) (D : ZipApart z TI TO i1 i2 l1 l2) (hz : IsZip s.heap z TI TO .none) (hTI : IsPair s.heap TI (.ref i1) (.ref i2)) (hTO : IsPair s.heap TO a b)
    (h1 : IsIt c s.heap i1 l1 k1) (h2 : IsIt d s.heap i2 l2 k2) (hl1 : IsSq c s.heap l1 xs) (hl2 : IsSq d s.heap l2 ys) (hend : xs[k1]? = none ∨ ys[k2]? = none)
    (hQ : ∀ h', (∀ p o, p ≠ z → p ≠ TO → p ≠ i1 → p ≠ i2 → s.heap.get? p = some o → h'.get? p = some o) → Q none { s with heap := h' }) : wpAny (model prog w) A (pyNext (.ref z)) Q E s := by
  have hT : s.TypeIs (.ref z) "zip" := ⟨_, hz, rfl⟩
  unfold pyNext
  refine wpAny_bind (wpAny_attempt (wpAny_callSpecial?_slot (name := Str.ofString "__next__") hT F.slot_zip_next (wpAny_call_entry F.slot_zip_next hT F.entry_zip_next (zb_end c d hh D hz hTI hTO h1 h2 hl1 hl2 hend fun h' e hk ⟨o, ho, hc⟩ => ?_) (F.args_zip_next_1 _))))
  exact wpAny_bind (wpAny_isInstance (T := "StopIteration") (b := true) ⟨o, ho, hc⟩ isSubtype_stop (wpAny_pure (hQ _ hk)))
end
abbrev zb1 (c : Bool) (h : Heap) (l1 : Addr) : Heap := h.push { cls := .type (itNam c), data := .fields #[.ref l1, .int 0 0] }
abbrev zb2 (c d : Bool) (h : Heap) (l1 l2 : Addr) : Heap := (zb1 c h l1).push { cls := .type (itNam d), data := .fields #[.ref l2, .int 0 0] }
abbrev zb3 (c d : Bool) (h : Heap) (l1 l2 : Addr) : Heap := (zb2 c d h l1 l2).push { cls := .type "tuple", data := .seq #[.ref h.objs.size, .ref (zb1 c h l1).objs.size] }
abbrev zb4 (c d : Bool) (h : Heap) (l1 l2 : Addr) : Heap := (zb3 c d h l1 l2).push { cls := .type "tuple", data := .seq #[.none, .none] }
abbrev zb5 (c d : Bool) (h : Heap) (l1 l2 : Addr) : Heap := (zb4 c d h l1 l2).push { cls := .type "zip", data := .fields #[.none, .bool false, .bool false, .ref (zb2 c d h l1 l2).objs.size, .ref (zb3 c d h l1 l2).objs.size] }
theorem meets_zb (c d : Bool) (l1 l2 : Addr) (xs ys : Array Value) :
    Meets (Builtin.«zip.__new__» ⟨[.type "zip", .ref l1, .ref l2], []⟩) (fun _ R s => IsSq c s.heap l1 xs ∧ IsSq d s.heap l2 ys ∧ R (.ok (.ret (.ref (zb4 c d s.heap l1 l2).objs.size))) { s with heap := zb5 c d s.heap l1 l2 }) := by
  cases c <;> cases d
  · exact meets_zip_new l1 l2 xs ys
  · refine .of_wp fun prog w A R s h => ?_
    obtain ⟨hp, g, d, tk, os⟩ := s; obtain ⟨hl1, hl2, h⟩ := h
    have hsub := sub_zip
    have a1 : Heap.IsList (Shared.heap ⟨hp, g, d, tk, os⟩) l1 xs := hl1
    have a2 : Heap.IsTuple (Shared.heap ⟨hp.push { cls := .type "list_iterator", data := .fields #[.ref l1, .int 0 0] }, g, d, tk, os⟩) l2 ys := Heap.IsTuple.push hl2 _
    wp_walk using wpAny_pyIter_list a1, wpAny_pyIter_tuple a2
    exact ⟨_, rfl, h⟩
  · refine .of_wp fun prog w A R s h => ?_
    obtain ⟨hp, g, d, tk, os⟩ := s; obtain ⟨hl1, hl2, h⟩ := h
    have hsub := sub_zip
    have a1 : Heap.IsTuple (Shared.heap ⟨hp, g, d, tk, os⟩) l1 xs := hl1
    have a2 : Heap.IsList (Shared.heap ⟨hp.push { cls := .type "tuple_iterator", data := .fields #[.ref l1, .int 0 0] }, g, d, tk, os⟩) l2 ys := Heap.IsList.push hl2 _
    wp_walk using wpAny_pyIter_tuple a1, wpAny_pyIter_list a2
    exact ⟨_, rfl, h⟩
  · exact RZ.meets_zipT_new l1 l2 xs ys
theorem isIt_mk {c : Bool} {h : Heap} {it l : Addr} (e : h.get? it = some { cls := .type (itNam c), data := .fields #[.ref l, .int 0 0] }) : IsIt c h it l 0 := by
  cases c
  · exact ⟨_, e, rfl, rfl⟩
  · exact ⟨_, e, rfl, rfl⟩
section
variable {prog : Program} {w : World} {A : Around} {E : Value → Shared → Prop} {s : Shared}
theorem call_zb (c d : Bool) {l1 l2 : Addr} {xs ys : Array Value} {Q : Value → Shared → Prop} (hl1 : IsSq c s.heap l1 xs) (hl2 : IsSq d s.heap l2 ys)
    (h : ∀ h', IsZip h' (s.heap.objs.size + 4) (s.heap.objs.size + 2) (s.heap.objs.size + 3) .none → IsPair h' (s.heap.objs.size + 2) (.ref s.heap.objs.size) (.ref (s.heap.objs.size + 1)) → IsPair h' (s.heap.objs.size + 3) .none .none → IsIt c h' s.heap.objs.size l1 0 → IsIt d h' (s.heap.objs.size + 1) l2 0 →
      (∀ p o, s.heap.get? p = some o → h'.get? p = some o) → Q (.ref (s.heap.objs.size + 4)) { s with heap := h' }) : wpAny (model prog w) A (call (.type "zip") [.ref l1, .ref l2]) Q E s := by
  refine callType_new F.called_zip (by decide) (F.typeCall_zip_2 _ _) (F.newCall_zip_2 _ _) (fun obj => F.args_object_init_3 obj _ _) F.entry_zip_new (meets_zb c d l1 l2 xs ys) ⟨hl1, hl2, ?_⟩
  have z1 : (zb1 c s.heap l1).objs.size = s.heap.objs.size + 1 := Heap.size_push ..
  have z2 : (zb2 c d s.heap l1 l2).objs.size = s.heap.objs.size + 2 := by rw [Heap.size_push, z1]
  have z3 : (zb3 c d s.heap l1 l2).objs.size = s.heap.objs.size + 3 := by rw [Heap.size_push, z2]
  have z4 : (zb4 c d s.heap l1 l2).objs.size = s.heap.objs.size + 4 := by rw [Heap.size_push, z3]
  have g5 : (zb5 c d s.heap l1 l2).get? (zb4 c d s.heap l1 l2).objs.size = some _ := Heap.get?_push_size _ rfl
  have g4 : (zb5 c d s.heap l1 l2).get? (zb3 c d s.heap l1 l2).objs.size = some _ := Heap.get?_push_of_some _ (Heap.get?_push_size _ rfl)
  have g3 : (zb5 c d s.heap l1 l2).get? (zb2 c d s.heap l1 l2).objs.size = some _ := Heap.get?_push_of_some _ (Heap.get?_push_of_some _ (Heap.get?_push_size _ rfl))
  have g2 : (zb5 c d s.heap l1 l2).get? (zb1 c s.heap l1).objs.size = some _ := Heap.get?_push_of_some _ (Heap.get?_push_of_some _ (Heap.get?_push_of_some _ (Heap.get?_push_size _ rfl)))
  have g1 : (zb5 c d s.heap l1 l2).get? s.heap.objs.size = some _ := Heap.get?_push_of_some _ (Heap.get?_push_of_some _ (Heap.get?_push_of_some _ (Heap.get?_push_of_some _ (Heap.get?_push_size _ rfl))))
  show _ ∧ _
  rw [z2, z3, z4] at g5; rw [z1, z2] at g3; rw [z3] at g4; rw [z1] at g2; rw [z4]
  exact ⟨⟨_, g5, rfl⟩, h _ g5 g3 g4 (isIt_mk g1) (isIt_mk g2) fun p o x => Heap.get?_push_of_some _ (Heap.get?_push_of_some _ (Heap.get?_push_of_some _ (Heap.get?_push_of_some _ (Heap.get?_push_of_some _ x))))⟩
end
theorem Inv_sq {X : Cx} {pins : List (Addr × Obj)} {σ : L2.St} {H : Hp} {s : Shared} {c : Bool} {a : Addr} {xs : List V} (I : Inv X pins σ H s) (h : SqB X.K c H a xs) : ∃ its : List Value, Vals xs its ∧ IsSq c s.heap a its.toArray ∧ a < s.heap.objs.size := by
  cases c
  · obtain ⟨its, rv, p, _⟩ := I.list h
    exact ⟨its, rv, p.isList, p.lt⟩
  · obtain ⟨its, rv, p, _⟩ := I.tuple h
    obtain ⟨o, ho, _⟩ := id p
    exact ⟨its, rv, p, Heap.lt_size ho⟩
theorem Inv_sqi {X : Cx} {pins : List (Addr × Obj)} {σ : L2.St} {H : Hp} {s : Shared} {c : Bool} {a : Addr} {xs ys : List V} (I : Inv X pins σ H s) (h : SqB X.K c H a xs) (h' : SqB X.K c H a ys) : xs = ys := by
  cases c
  · exact I.list_inj h h'
  · exact I.tuple_inj h h'
/-- what stands at a and b at each turn, the items in new pairs -/
def ItzB (K : Kf) (c d : Bool) (a b : Addr) : It :=
  ⟨fun i H => ∃ (xs ys : List V) (x y : V), SqB K c H a xs ∧ SqB K d H b ys ∧ xs[i]? = some x ∧ ys[i]? = some y, fun i H v H' => ∃ T x y, v = .ref T ∧ H T = none ∧ H' = upd H T (.tup [x, y]) ∧ (∀ xs, SqB K c H a xs → xs[i]? = some x) ∧ ∀ ys, SqB K d H b ys → ys[i]? = some y, fun i H => ∃ xs ys : List V, SqB K c H a xs ∧ SqB K d H b ys ∧ (xs.length ≤ i ∨ ys.length ≤ i)⟩
theorem turn_zb (c d : Bool) {P : Program} {w : World} {K : PySem.W.Frag} {elts : List Expr} {kk : Nat} {tpos : Pos} {a b z TI TO i1 i2 : Addr} (D : ZipApart z TI TO i1 i2 a b) :
    Turn P w K (.Tuple elts kk tpos) (ItzB K c d a b) [z, TI, TO, i1, i2] z (fun i h => IsZip h z TI TO .none ∧ IsPair h TI (.ref i1) (.ref i2) ∧ (∃ x y, IsPair h TO x y) ∧ IsIt c h i1 a i ∧ IsIt d h i2 b i) where
  mem := by simp
  obj := fun i h st p hp => by
    obtain ⟨hz, hTI, ⟨x, y, hTO⟩, h1, h2⟩ := st
    obtain ⟨o1, e1, d1⟩ := h1.ob
    obtain ⟨o2, e2, d2⟩ := h2.ob
    have e' : p = z ∨ p = TI ∨ p = TO ∨ p = i1 ∨ p = i2 := by simpa using hp
    rcases e' with q | q | q | q | q <;> rw [q]
    · exact ⟨_, hz, fun v q => nomatch q⟩
    · exact ⟨_, hTI, fun v q => nomatch q⟩
    · exact ⟨_, hTO, fun v q => nomatch q⟩
    · cases c <;> (obtain ⟨o1, e1, _, d1⟩ := h1; exact ⟨o1, e1, fun v q => by rw [d1] at q; cases q⟩)
    · cases d <;> (obtain ⟨o2, e2, _, d2⟩ := h2; exact ⟨o2, e2, fun v q => by rw [d2] at q; cases q⟩)
  keep := fun i h h' st k => by
    obtain ⟨hz, hTI, ⟨x, y, hTO⟩, h1, h2⟩ := st
    exact ⟨k z (by simp) _ hz, k TI (by simp) _ hTI, ⟨x, y, k TO (by simp) _ hTO⟩, h1.at' fun o q => k i1 (by simp) o q, h2.at' fun o q => k i2 (by simp) o q⟩
  item := by
    intro X hP hw hK hc i pins s σ H E I hf st hg
    subst hP hw hK
    obtain ⟨hz, hTI, ⟨x0, y0, hTO⟩, h1, h2⟩ := st
    obtain ⟨xs, ys, x, y, hqx, hqy, hx, hy⟩ := hg
    obtain ⟨its, rv, p, _⟩ := Inv_sq I hqx
    obtain ⟨its2, rv2, p2, _⟩ := Inv_sq I hqy
    obtain ⟨u, hu, ru⟩ := rv.get hx
    obtain ⟨u2, hu2, ru2⟩ := rv2.get hy
    have hzl : z < s.heap.objs.size := Heap.lt_size hz
    refine pyNext_zb c d D hz hTI hTO h1 h2 p p2 (x := u) (y := u2) (by simpa using hu) (by simpa using hu2) fun h' z' TO' h1' h2' hT hsz hk => ?_
    refine ⟨_, rfl, wpAny_letOwnedTupleGo_zip (s := { s with heap := h' }) z' fun h'' z'' sb => ?_⟩
    have hT2 : h''.get? s.heap.objs.size = some { cls := .type "tuple", data := .seq #[u, u2] } := (sb.2 _ (Nat.ne_of_gt hzl)).trans hT
    have new : ObjOk X.prog X.w (upd H s.heap.objs.size (.tup [x, y])) h'' s.heap.objs.size (.tup [x, y]) := ⟨by show 2 ≤ sizeLine; decide, [u, u2], .cons ru (.cons ru2 .nil), ⟨_, hT2, rfl, _, rfl⟩⟩
    have I1 : Inv X pins σ (upd H s.heap.objs.size (.tup [x, y])) { s with heap := h'' } := I.turnedNew (t' := s.toks) (ch := [z, TI, TO, i1, i2]) (fun p o hb q => (sb.2 p (fun q' => hb (by simp [q']))).trans (hk p o (fun q' => hb (by simp [q'])) (fun q' => hb (by simp [q'])) (fun q' => hb (by simp [q'])) (fun q' => hb (by simp [q'])) q)) hf (Nat.le_refl _) new
    refine ⟨.ref s.heap.objs.size, _, I1, rfl, ⟨_, x, y, rfl, I.hok.fresh (Nat.le_refl _), rfl, fun l hl => by rw [Inv_sqi I hl hqx]; exact hx, fun l hl => by rw [Inv_sqi I hl hqy]; exact hy⟩, ⟨z'', (sb.2 _ D.TIz).trans (hk _ _ D.TIz D.TITO D.TIi1 D.TIi2 hTI), ⟨u, u2, (sb.2 _ D.TOz).trans TO'⟩, h1'.at' fun o q => (sb.2 _ D.i1z).trans q, h2'.at' fun o q => (sb.2 _ D.i2z).trans q⟩, fun p hpm => ?_⟩
    have hlt : p < s.heap.objs.size := by
      have e' : p = z ∨ p = TI ∨ p = TO ∨ p = i1 ∨ p = i2 := by simpa using hpm
      rcases e' with q | q | q | q | q <;> rw [q]
      · exact hzl
      · exact Heap.lt_size hTI
      · exact Heap.lt_size hTO
      · exact h1.lt
      · exact h2.lt
    rw [upd_ne (Nat.ne_of_lt hlt)]
    exact (hf p hpm).1
  done := by
    intro X hP hw hK hc i pins s σ H E I hf st hg
    subst hP hw hK
    obtain ⟨hz, hTI, ⟨x0, y0, hTO⟩, h1, h2⟩ := st
    obtain ⟨xs, ys, hqx, hqy, hend⟩ := hg
    obtain ⟨its, rv, p, _⟩ := Inv_sq I hqx
    obtain ⟨its2, rv2, p2, _⟩ := Inv_sq I hqy
    have l1 := rv.length
    have l2 := rv2.length
    have he : its.toArray[i]? = none ∨ its2.toArray[i]? = none := hend.imp (fun q => by simp; omega) fun q => by simp; omega
    exact pyNext_zbe c d (I.ok.hd hc) D hz hTI hTO h1 h2 p p2 he fun h' hk => ⟨rfl, I.turnedL (t' := s.toks) (ch := [z, TI, TO, i1, i2]) (fun p o hb q => hk p o (fun q' => hb (by simp [q'])) (fun q' => hb (by simp [q'])) (fun q' => hb (by simp [q'])) (fun q' => hb (by simp [q'])) q) hf⟩
  self := fun A i s Q E st h => wpAny_pyIter_zip st.1 h
def iZipB (K : PySem.W.Frag) (ta : TA) : TI := fun σ H R => ta σ H fun vs H1 => ∃ c d a b xs ys, vs = [.ref a, .ref b] ∧ SqB K c H1 a xs ∧ SqB K d H1 b ys ∧ R (ItzB K c d a b) H1
theorem pi_zipB {X : Cx} {e e2 : Expr} {ta : TA} {p pos tpos : Pos} {elts : List Expr} {kk : Nat} (hg : Gl X "zip") (hm : X.mg "zip" = none) (ha : PA X [e, e2] ta) (hs : starEach [e, e2] X.env = (false, eval e X.env) :: starEach [e2] X.env := by rfl) (hpl : (backTo pos (starEach [e2] X.env)).any (·.1) = false := by rfl) :
    PI X (.Tuple elts kk tpos) (.Call (.Name "zip" p) [e, e2] [] pos) (iZipB X.K ta) := by
  refine ⟨fun pins s σ H R I h => ?_⟩
  refine Call_ (ld_blt I hg hm PyProof.Rows.boot_zip (PyProof.Rows.callWith_type1 (thn (ha.run pos pins s σ H _ I h) fun us s1 ⟨vs, H1, I1, r1, q1⟩ => ?_) hs hpl))
  obtain ⟨c, d, a, b, xs, ys, ex, hqx, hqy, q⟩ := q1
  subst ex
  cases r1 with
  | cons r rr =>
    cases rr with
    | cons r' rr =>
      cases rr; cases r; cases r'
      obtain ⟨its, rv, p1, l1⟩ := Inv_sq I1 hqx
      obtain ⟨its2, rv2, p2, l2⟩ := Inv_sq I1 hqy
      refine call_zb c d p1 p2 fun h' hz hTI hTO h1 h2 hk => wpAny_pyIter_zip hz ?_
      have I2 : Inv X pins σ H1 { s1 with heap := h' } := I1.kept (t' := s1.toks) hk
      refine ⟨s1.heap.objs.size + 4, [s1.heap.objs.size + 4, s1.heap.objs.size + 2, s1.heap.objs.size + 3, s1.heap.objs.size, s1.heap.objs.size + 1], _, _, H1, rfl, I2, turn_zb c d (PySem.W.ktu_apart s1.heap.objs.size a b l1 l2), ⟨hz, hTI, ⟨_, _, hTO⟩, h1, h2⟩, fun p hpm => ?_, q⟩
      have e' : p = s1.heap.objs.size + 4 ∨ p = s1.heap.objs.size + 2 ∨ p = s1.heap.objs.size + 3 ∨ p = s1.heap.objs.size ∨ p = s1.heap.objs.size + 1 := by simpa using hpm
      have hle : s1.heap.objs.size ≤ p := by
        rcases e' with z | z | z | z | z <;> rw [z]
        · exact Nat.le_add_right _ _
        · exact Nat.le_add_right _ _
        · exact Nat.le_add_right _ _
        · exact Nat.le_refl _
        · exact Nat.le_add_right _ _
      exact I1.fpOk hle (I1.hok.fresh hle)
end Lt
set_option maxRecDepth 100000
set_option maxHeartbeats 4000000
namespace Lt
open PySem PySem.Spec PyProof.Rows L2

/-! ### what is walked -/
structure ItD where
  items : Nat → Store → Option (Option D)
  fuel : Nat
abbrev IF := SV → Store → Res ItD
def valsI (xs : List D) : ItD := ⟨fun i _ => some xs[i]?, xs.length⟩
def cellI (n : Nat) (m : Nat) : ItD := ⟨fun i S => match S[n]? with
  | some (.lst xs) => some xs[i]?
  | _ => none, m⟩
def ItOk (G : Gc) (W : Wd) (J : It) (I : ItD) : Prop := ∀ (i : Nat) (S : Store) (W' : Wd) (H : Hp), W.sub W' → StR G S W' H → match I.items i S with
  | some (some d) => J.go i H ∧ ∀ x H2, J.yld i H x H2 → ∃ W2, W'.le W2 ∧ StR G S W2 H2 ∧ Rep G.K W2 d x
  | some none => J.stop i H
  | none => True
def tI (G : Gc) (Wx : WX) (f : IF) : TI := fun σ H R => ∃ env S W, StR G S W H ∧ EnvR G.K W env σ ∧ OutR G Wx W σ (fun I S' => ∀ J H' W', W.le W' → StR G S' W' H' → ItOk G W' J I → R J H') (f env S)
/-- a list, a tuple, a text by its value -/
def walk (f : EF) : IF := fun env S => (f env S).bind fun d S1 => match d with
  | .tup xs => .ok (valsI xs) S1
  | .lst xs => .ok (valsI xs) S1
  | .scr xs => .ok (valsI xs) S1
  | .str z => .ok (valsI (z.cps.toList.map fun c => .str ⟨#[c]⟩)) S1
  | .ref n => match S1[n]? with
    | some (.lst xs) => .ok (cellI n xs.length) S1
    | _ => .bad
  | _ => .bad
def rngI (lo : Int) (n : Nat) : ItD := valsI ((List.range n).map fun (i : Nat) => .int (lo + (i : Int)))
def big (i : Int) : Bool := decide (-(2 ^ 62) ≤ i) && decide (i < 2 ^ 62)
def rng1 (f : EF) : IF := fun env S => (f env S).bind fun d S1 => match d with
  | .int j => if big j = true then .ok (rngI 0 j.toNat) S1 else .bad
  | _ => .bad
def rng2 (f g : EF) : IF := fun env S => (f env S).bind fun a S1 => (g env S1).bind fun b S2 => match a, b with
  | .int i, .int j => if (big i && big j) = true then .ok (rngI i (j - i).toNat) S2 else .bad
  | _, _ => .bad
def seqOf : D → Option (List D)
  | .tup xs => some xs
  | .lst xs => some xs
  | _ => none
/-- zip of two lists or of two tuples -/
def zipI (f g : EF) : IF := fun env S => (f env S).bind fun a S1 => (g env S1).bind fun b S2 => match a, b with
  | .tup xs, .tup ys => .ok (valsI (List.zipWith (fun x y => .tup [x, y]) xs ys)) S2
  | .lst xs, .lst ys => .ok (valsI (List.zipWith (fun x y => .tup [x, y]) xs ys)) S2
  | .lst xs, .tup ys => .ok (valsI (List.zipWith (fun x y => .tup [x, y]) xs ys)) S2
  | .tup xs, .lst ys => .ok (valsI (List.zipWith (fun x y => .tup [x, y]) xs ys)) S2
  | _, _ => .bad
/-- enumerate of a list -/
def enumI (f : EF) : IF := fun env S => (f env S).bind fun a S1 => match a with
  | .lst xs => .ok (valsI (xs.mapIdx fun i x => .tup [.int i, x])) S1
  | _ => .bad

section
variable {G : Gc} {Wx : WX} {X : Cx} {e e2 : Expr} {tg : Expr} {f g : EF} {pos : Pos}
theorem ok_list {W : Wd} {a : Addr} {vs : List V} {ds : List D} (r : RepL G.K W ds vs) (h : ∀ S W' H, W.sub W' → StR G S W' H → SqL G.K H a vs) : ItOk G W (Itl G.K a) (valsI ds) := by
  intro i S W' H l s
  show match some ds[i]? with | some (some d) => _ | some none => _ | none => _
  cases e : ds[i]? with
  | some d =>
    obtain ⟨v, h1, h2⟩ := r.get e
    refine ⟨⟨vs, v, h S W' H l s, h1⟩, fun x H2 ⟨hx, hv⟩ => ?_⟩
    subst hx
    have := hv vs (h S W' _ l s)
    rw [h1] at this; cases this
    exact ⟨W', .refl _, s, h2.ms l⟩
  | none => exact ⟨vs, h S W' H l s, by rw [← r.len]; exact List.getElem?_eq_none_iff.mp e⟩
theorem ok_tup {W : Wd} {a : Addr} {vs : List V} {ds : List D} (r : RepL G.K W ds vs) (h : SqT G.K W.Z a vs) : ItOk G W (Itt G.K a) (valsI ds) := by
  intro i S W' H l s
  show match some ds[i]? with | some (some d) => _ | some none => _ | none => _
  have hq : SqT G.K H a vs := SqT.mo (fun z => s.rd (l.rd z)) h
  cases e : ds[i]? with
  | some d =>
    obtain ⟨v, h1, h2⟩ := r.get e
    refine ⟨⟨vs, v, hq, h1⟩, fun x H2 ⟨hx, hv⟩ => ?_⟩
    subst hx
    have := hv vs hq
    rw [h1] at this; cases this
    exact ⟨W', .refl _, s, h2.ms l⟩
  | none => exact ⟨vs, hq, by rw [← r.len]; exact List.getElem?_eq_none_iff.mp e⟩
theorem ok_cell {W : Wd} {a : Addr} {n m : Nat} (h : W.μ[n]? = some a) : ItOk G W (Itl G.K a) (cellI n m) := by
  intro i S W' H l s
  unfold cellI
  simp only
  cases hc : S[n]? with
  | none => trivial
  | some c =>
    cases c with
    | lst xs =>
      simp only
      obtain ⟨a', ho, g1, g2, g3, g4⟩ := s.live n _ hc (by simp)
      rw [l.get h] at g1; cases g1
      cases g4 with
      | @lst _ vs r =>
        cases e : xs[i]? with
        | some d =>
          obtain ⟨v, h1, h2⟩ := r.get e
          refine ⟨⟨vs, v, SqL.of g3, h1⟩, fun x H2 ⟨hx, hv⟩ => ?_⟩
          subst hx
          have := hv vs (SqL.of g3)
          rw [h1] at this; cases this
          exact ⟨W', .refl _, s, h2⟩
        | none => exact ⟨vs, SqL.of g3, by rw [← r.len]; exact List.getElem?_eq_none_iff.mp e⟩
    | _ => trivial
theorem ok_str {W : Wd} {z : Str} : ItOk G W (Its z) (valsI (z.cps.toList.map fun c => .str ⟨#[c]⟩)) := by
  intro i S W' H l s
  show match some (z.cps.toList.map fun c => D.str ⟨#[c]⟩)[i]? with | some (some d) => _ | some none => _ | none => _
  rw [List.getElem?_map]
  cases e : z.cps.toList[i]? with
  | some c =>
    have hi : i < z.cps.size := by have := (List.getElem?_eq_some_iff.mp e).1; simpa using this
    have hc : z.cps[i]? = some c := by rw [← Array.getElem?_toList]; exact e
    refine ⟨hi, fun x H2 ⟨hx, c', hc', hv⟩ => ?_⟩
    subst hx hv
    rw [hc] at hc'; cases hc'
    exact ⟨W', .refl _, s, .str _⟩
  | none =>
    have := List.getElem?_eq_none_iff.mp e
    show z.cps.size ≤ i
    simpa using this
theorem ok_rng {W : Wd} {lo : Int} {n : Nat} : ItOk G W (Itr lo n) (rngI lo n) := by
  intro i S W' H l s
  show match some ((List.range n).map fun (i : Nat) => D.int (lo + (i : Int)))[i]? with | some (some d) => _ | some none => _ | none => _
  rw [List.getElem?_map]
  by_cases hi : i < n
  · rw [List.getElem?_range hi]
    refine ⟨hi, fun x H2 ⟨hx, hv⟩ => ?_⟩
    subst hx hv
    exact ⟨W', .refl _, s, .int _⟩
  · rw [List.getElem?_eq_none (by simpa using hi)]
    show n ≤ i
    omega
theorem pi_walk (hk : X.K = G.K) (ha : PE X e (tE G Wx f)) : PI X tg e (tI G Wx (walk f)) := by
  refine ⟨fun pins s σ H R I ⟨env, S, W, hs, he, h⟩ => ?_⟩
  unfold walk at h
  cases hf : f env S with
  | bad => rw [hf] at h; exact False.elim h
  | exc c d S1 => rw [hf] at h; exact (pi_list ha).run pins s σ H R I ⟨env, S, W, hs, he, by rw [hf]; exact h⟩
  | ok d S1 =>
    rw [hf] at h
    cases d with
    | tup xs =>
      refine (pi_tup ha).run pins s σ H R I ⟨env, S, W, hs, he, ?_⟩
      rw [hf]
      intro v H1 W1 l1 s1 r1
      cases r1 with
      | @tup a vs _ q r => exact ⟨a, rfl, ⟨vs, by rw [hk]; exact SqT.mo s1.rd q⟩, by rw [hk]; exact h _ H1 W1 l1 s1 (ok_tup r q)⟩
    | lst xs =>
      refine (pi_list ha).run pins s σ H R I ⟨env, S, W, hs, he, ?_⟩
      rw [hf]
      intro v H1 W1 l1 s1 r1
      cases r1 with
      | @lst a vs _ q r => exact ⟨a, rfl, ⟨vs, SqL.of (s1.lst q)⟩, by rw [hk]; exact h _ H1 W1 l1 s1 (ok_list r fun S' W' H' l s => SqL.of (s.lst (l.z _ _ q)))⟩
    | scr xs =>
      refine (pi_list ha).run pins s σ H R I ⟨env, S, W, hs, he, ?_⟩
      rw [hf]
      intro v H1 W1 l1 s1 r1
      cases r1 with
      | @scr a vs _ q r => exact ⟨a, rfl, ⟨vs, by rw [hk]; exact SqL.mo s1.rd q⟩, by rw [hk]; exact h _ H1 W1 l1 s1 (ok_list r fun S' W' H' l s => SqL.mo (fun z => s.rd (l.rd z)) q)⟩
    | str z =>
      refine (pi_str ha).run pins s σ H R I ⟨env, S, W, hs, he, ?_⟩
      rw [hf]
      intro v H1 W1 l1 s1 r1
      cases r1
      exact ⟨z, rfl, h _ H1 W1 l1 s1 ok_str⟩
    | ref n =>
      refine (pi_list ha).run pins s σ H R I ⟨env, S, W, hs, he, ?_⟩
      rw [hf]
      intro v H1 W1 l1 s1 r1
      cases r1 with
      | @ref _ a hm =>
        cases hc : S1[n]? with
        | none => simp only [Res.bind, hc] at h; exact False.elim h
        | some c =>
          cases c with
          | lst xs =>
            simp only [Res.bind, hc] at h
            obtain ⟨a', ho, g1, g2, g3, g4⟩ := s1.live n _ hc (by simp)
            rw [hm] at g1; cases g1
            cases g4 with
            | @lst _ vs r => exact ⟨a, rfl, ⟨vs, SqL.of g3⟩, by rw [hk]; exact h _ H1 W1 l1 s1 (ok_cell hm)⟩
          | dic ks vs => simp only [Res.bind, hc] at h; exact False.elim h
          | ins c fs => simp only [Res.bind, hc] at h; exact False.elim h
          | dead => simp only [Res.bind, hc] at h; exact False.elim h
    | _ => exact False.elim h
theorem pi_rng1 {p : Pos} (hg : Gl X "range") (hm : X.mg "range" = none) (ha : PE X e (tE G Wx f)) (hs1 : starEach [e] X.env = (false, eval e X.env) :: starEach [] X.env) : PI X tg (.Call (.Name "range" p) [e] [] pos) (tI G Wx (rng1 f)) :=
  (pi_range1 hg hm (pa_cons ha pa_nil hs1) hs1).imp fun σ H R ⟨env, S, W, hs, he, h⟩ =>
    tE_mono (tE_then (P := fun W I S' => ∀ J H' W', W.le W' → StR G S' W' H' → ItOk G W' J I → R J H') (fun l z J H' W' l' => z J H' W' (l.trans l')) hs he h) fun v H1 ⟨S1, W1, d, l1, s1, e1, r1, o1⟩ => by
      cases r1 with
      | int j =>
        simp only at o1
        by_cases hb : big j = true
        · rw [if_pos hb] at o1
          simp only [big, Bool.and_eq_true, decide_eq_true_eq] at hb
          exact ⟨j, rfl, hb.1, hb.2, o1 _ H1 W1 (.refl _) s1 ok_rng⟩
        · rw [if_neg hb] at o1; exact False.elim o1
      | _ => exact False.elim o1
theorem pi_rng2 {p : Pos} (hg : Gl X "range") (hm : X.mg "range" = none) (ha : PE X e (tE G Wx f)) (hb : PE X e2 (tE G Wx g)) (hs1 : starEach [e, e2] X.env = (false, eval e X.env) :: starEach [e2] X.env) (hs2 : starEach [e2] X.env = (false, eval e2 X.env) :: starEach [] X.env) :
    PI X tg (.Call (.Name "range" p) [e, e2] [] pos) (tI G Wx (rng2 f g)) :=
  (pi_range2 hg hm (pa_cons ha (pa_cons hb pa_nil hs2) hs1) (by rw [hs1, hs2]; rfl) hs2).imp fun σ H R ⟨env, S, W, hs, he, h⟩ =>
    tE_mono (tE_then (P := fun W I S' => ∀ J H' W', W.le W' → StR G S' W' H' → ItOk G W' J I → R J H') (fun l z J H' W' l' => z J H' W' (l.trans l')) hs he h) fun v H1 ⟨S1, W1, d, l1, s1, e1, r1, o1⟩ =>
      tE_mono (tE_then (P := fun W I S' => ∀ J H' W', W.le W' → StR G S' W' H' → ItOk G W' J I → R J H') (fun l z J H' W' l' => z J H' W' (l.trans l')) s1 e1 o1) fun u H2 ⟨S2, W2, d2, l2, s2, e2', r2, o2⟩ => by
        cases r1 with
        | int i =>
          cases r2 with
          | int j =>
            simp only at o2
            by_cases hb : (big i && big j) = true
            · rw [if_pos hb] at o2
              simp only [big, Bool.and_eq_true, decide_eq_true_eq] at hb
              exact ⟨i, j, rfl, ⟨hb.1.1, hb.1.2, hb.2.1, hb.2.2⟩, o2 _ H2 W2 (.refl _) s2 ok_rng⟩
            · rw [if_neg hb] at o2; exact False.elim o2
          | _ => exact False.elim o2
        | _ => cases r2 <;> exact False.elim o2
theorem ok_zipB {W : Wd} {c d : Bool} {a b : Addr} {xs ys : List V} {ds es : List D} (r1 : RepL G.K W ds xs) (r2 : RepL G.K W es ys) (h1 : ∀ S W' H, W.sub W' → StR G S W' H → SqB G.K c H a xs) (h2 : ∀ S W' H, W.sub W' → StR G S W' H → SqB G.K d H b ys) :
    ItOk G W (ItzB G.K c d a b) (valsI (List.zipWith (fun x y => .tup [x, y]) ds es)) := by
  intro i S W' H l s
  show match some (List.zipWith (fun x y => D.tup [x, y]) ds es)[i]? with | some (some d) => _ | some none => _ | none => _
  rw [List.getElem?_zipWith]
  cases e1 : ds[i]? with
  | none => exact ⟨xs, ys, h1 S W' H l s, h2 S W' H l s, .inl (by rw [← r1.len]; exact List.getElem?_eq_none_iff.mp e1)⟩
  | some d =>
    cases e2 : es[i]? with
    | none => exact ⟨xs, ys, h1 S W' H l s, h2 S W' H l s, .inr (by rw [← r2.len]; exact List.getElem?_eq_none_iff.mp e2)⟩
    | some d2 =>
      obtain ⟨v, g1, g2⟩ := r1.get e1
      obtain ⟨u, k1, k2⟩ := r2.get e2
      refine ⟨⟨xs, ys, v, u, h1 S W' H l s, h2 S W' H l s, g1, k1⟩, fun x H2 ⟨T, x1, y1, hx, hT, hH, hv, hu⟩ => ?_⟩
      subst hx hH
      have q1 := hv xs (h1 S W' H l s)
      have q2 := hu ys (h2 S W' H l s)
      rw [g1] at q1; cases q1
      rw [k1] at q2; cases q2
      obtain ⟨le, s2⟩ := s.imm hT (.tup [v, u])
      exact ⟨_, le, s2, .tup (SqT.of upd_same) (.cons ((g2.ms l).mo le) (.cons ((k2.ms l).mo le) .nil))⟩
theorem pi_zipD {p tpos : Pos} {elts : List Expr} {kk : Nat} (hk : X.K = G.K) (hg : Gl X "zip") (hm : X.mg "zip" = none) (ha : PE X e (tE G Wx f)) (hb : PE X e2 (tE G Wx g))
    (hs1 : starEach [e, e2] X.env = (false, eval e X.env) :: starEach [e2] X.env) (hs2 : starEach [e2] X.env = (false, eval e2 X.env) :: starEach [] X.env) (hpl : (backTo pos (starEach [e2] X.env)).any (·.1) = false) :
    PI X (.Tuple elts kk tpos) (.Call (.Name "zip" p) [e, e2] [] pos) (tI G Wx (zipI f g)) :=
  (pi_zipB hg hm (pa_cons ha (pa_cons hb pa_nil hs2) hs1) hs1 hpl).imp fun σ H R ⟨env, S, W, hs, he, h⟩ =>
    tE_mono (tE_then (P := fun W I S' => ∀ J H' W', W.le W' → StR G S' W' H' → ItOk G W' J I → R J H') (fun l z J H' W' l' => z J H' W' (l.trans l')) hs he h) fun v H1 ⟨S1, W1, d, l1, s1, e1, r1, o1⟩ =>
      tE_mono (tE_then (P := fun W I S' => ∀ J H' W', W.le W' → StR G S' W' H' → ItOk G W' J I → R J H') (fun l z J H' W' l' => z J H' W' (l.trans l')) s1 e1 o1) fun u H2 ⟨S2, W2, d2, l2, s2, e2', r2, o2⟩ => by
        cases r1 with
        | @tup a vs _ q1 r1 =>
          have y1 : ∀ S W' H, W2.sub W' → StR G S W' H → SqB G.K true H a vs := fun S W' H l s => SqT.mo (fun {p o} h => s.rd (l.rd (l2.rd h))) q1
          cases r2 with
          | @tup b us _ q2 r2 =>
            have y2 : ∀ S W' H, W2.sub W' → StR G S W' H → SqB G.K true H b us := fun S W' H l s => SqT.mo (fun {p o} h => s.rd (l.rd h)) q2
            exact ⟨true, true, a, b, vs, us, rfl, by rw [hk]; exact y1 _ _ _ (.refl _) s2, by rw [hk]; exact y2 _ _ _ (.refl _) s2, by rw [hk]; exact o2 _ H2 W2 (.refl _) s2 (ok_zipB (r1.mo l2) r2 y1 y2)⟩
          | @lst b us _ q2 r2 =>
            have y2 : ∀ S W' H, W2.sub W' → StR G S W' H → SqB G.K false H b us := fun S W' H l s => SqL.of (s.lst (l.z _ _ q2))
            exact ⟨true, false, a, b, vs, us, rfl, by rw [hk]; exact y1 _ _ _ (.refl _) s2, by rw [hk]; exact y2 _ _ _ (.refl _) s2, by rw [hk]; exact o2 _ H2 W2 (.refl _) s2 (ok_zipB (r1.mo l2) r2 y1 y2)⟩
          | _ => exact False.elim o2
        | @lst a vs _ q1 r1 =>
          have y1 : ∀ S W' H, W2.sub W' → StR G S W' H → SqB G.K false H a vs := fun S W' H l s => SqL.of (s.lst (l.z _ _ (l2.z _ _ q1)))
          cases r2 with
          | @lst b us _ q2 r2 =>
            have y2 : ∀ S W' H, W2.sub W' → StR G S W' H → SqB G.K false H b us := fun S W' H l s => SqL.of (s.lst (l.z _ _ q2))
            exact ⟨false, false, a, b, vs, us, rfl, by rw [hk]; exact y1 _ _ _ (.refl _) s2, by rw [hk]; exact y2 _ _ _ (.refl _) s2, by rw [hk]; exact o2 _ H2 W2 (.refl _) s2 (ok_zipB (r1.mo l2) r2 y1 y2)⟩
          | @tup b us _ q2 r2 =>
            have y2 : ∀ S W' H, W2.sub W' → StR G S W' H → SqB G.K true H b us := fun S W' H l s => SqT.mo (fun {p o} h => s.rd (l.rd h)) q2
            exact ⟨false, true, a, b, vs, us, rfl, by rw [hk]; exact y1 _ _ _ (.refl _) s2, by rw [hk]; exact y2 _ _ _ (.refl _) s2, by rw [hk]; exact o2 _ H2 W2 (.refl _) s2 (ok_zipB (r1.mo l2) r2 y1 y2)⟩
          | _ => exact False.elim o2
        | _ => cases r2 <;> exact False.elim o2
theorem ok_enum {W : Wd} {a : Addr} {xs : List V} {ds : List D} (r1 : RepL G.K W ds xs) (h1 : ∀ S W' H, W.sub W' → StR G S W' H → SqL G.K H a xs) : ItOk G W (Ite G.K a) (valsI (ds.mapIdx fun i x => .tup [.int i, x])) := by
  intro i S W' H l s
  show match some (ds.mapIdx fun i x => D.tup [.int i, x])[i]? with | some (some d) => _ | some none => _ | none => _
  rw [List.getElem?_mapIdx]
  cases e1 : ds[i]? with
  | none => exact ⟨xs, h1 S W' H l s, by rw [← r1.len]; exact List.getElem?_eq_none_iff.mp e1⟩
  | some d =>
    obtain ⟨v, g1, g2⟩ := r1.get e1
    refine ⟨⟨xs, v, h1 S W' H l s, g1⟩, fun x H2 ⟨T, x1, hx, hT, hH, hv⟩ => ?_⟩
    subst hx hH
    have q1 := hv xs (h1 S W' H l s)
    rw [g1] at q1; cases q1
    obtain ⟨le, s2⟩ := s.imm hT (.tup [.int (i : Nat), v])
    exact ⟨_, le, s2, .tup (SqT.of upd_same) (.cons (.int _) (.cons ((g2.ms l).mo le) .nil))⟩
theorem pi_enumD {p tpos : Pos} {elts : List Expr} {kk : Nat} (hk : X.K = G.K) (hg : Gl X "enumerate") (hm : X.mg "enumerate" = none) (ha : PE X e (tE G Wx f)) (hs1 : starEach [e] X.env = (false, eval e X.env) :: starEach [] X.env) :
    PI X (.Tuple elts kk tpos) (.Call (.Name "enumerate" p) [e] [] pos) (tI G Wx (enumI f)) :=
  (pi_enum hg hm (pa_cons ha pa_nil hs1) hs1).imp fun σ H R ⟨env, S, W, hs, he, h⟩ =>
    tE_mono (tE_then (P := fun W I S' => ∀ J H' W', W.le W' → StR G S' W' H' → ItOk G W' J I → R J H') (fun l z J H' W' l' => z J H' W' (l.trans l')) hs he h) fun v H1 ⟨S1, W1, d, l1, s1, e1, r1, o1⟩ => by
      cases r1 with
      | @lst a vs _ q r => exact ⟨a, vs, rfl, SqL.of (s1.lst q), by rw [hk]; exact o1 _ H1 W1 (.refl _) s1 (ok_enum r fun S' W' H' l s => SqL.of (s.lst (l.z _ _ q)))⟩
      | _ => exact False.elim o1
end

/-! ### for, while -/
def forL (g : GF) (b : SF) (I : ItD) : Nat → Nat → SF
  | 0, i => fun env S => match I.items i S with
    | some none => .nx env S
    | _ => .bad
  | k + 1, i => fun env S => match I.items i S with
    | some none => .nx env S
    | none => .bad
    | some (some d) => match g d env S with
      | none => .bad
      | some (env1, S1) => match b env1 S1 with
        | .nx env2 S2 => forL g b I k (i + 1) env2 S2
        | .ct env2 S2 => forL g b I k (i + 1) env2 S2
        | .bk env2 S2 => .nx env2 S2
        | .rt d S2 => .rt d S2
        | .ex c d env2 S2 => .ex c d env2 S2
        | .bad => .bad
def forS (it : IF) (g : GF) (b : SF) : SF := fun env S => (it env S).bindS env fun I S1 => forL g b I I.fuel 0 env S1
def whileL (c : TF) (b : SF) : Nat → SF
  | 0 => fun _ _ => .bad
  | k + 1 => fun env S => (c env S).bindS env fun t S1 => if t = true then (match b env S1 with
      | .nx env2 S2 => whileL c b k env2 S2
      | .ct env2 S2 => whileL c b k env2 S2
      | .bk env2 S2 => .nx env2 S2
      | .rt d S2 => .rt d S2
      | .ex c d env2 S2 => .ex c d env2 S2
      | .bad => .bad) else .nx env S1
def whileS (n : Nat) (c : TF) (b : SF) : SF := whileL c b n
section
variable {G : Gc} {Wx : WX} {X : Cx} {e : Expr} {tg : Expr} {sts : List Stmt} {it : IF} {g : GF} {b : SF} {c : TF} {pos : Pos} {vs : List Nat}
theorem ps_forD (hp : PassesOwn (model X.prog X.w) X.A X.env X.xe) (hc : X.calm = true) (hi : PI X tg e (tI G Wx it)) (hg : PG X tg (tG G vs g)) (hb : PSs X sts (tS G Wx b)) (hf : ∀ x, foldedSetIterable e X.env x = pure x) :
    PS X (.For tg e sts [] pos) (tS G Wx (forS it g b)) :=
  (ps_for hp hc hi hg hb hf).imp fun Dn σ H ⟨env, S, W, hs, he, o⟩ => by
    refine ⟨env, S, W, hs, he, (OutS.bind he o).imp (.refl _) fun I S1 o1 J H1 W1 l1 s1 ok => ?_⟩
    refine ⟨fun i m σ H => ∃ env S W', W1.le W' ∧ StR G S W' H ∧ EnvR G.K W' env σ ∧ OutS G Wx W' Dn (forL g b I m i env S), ⟨I.fuel, env, S1, W1, .refl _, s1, he.mo l1, o1.mo l1⟩, ?_⟩
    rintro i m σ2 H2 ⟨env2, S2, W2, l2, s2, e2, o2⟩
    have q := ok i S2 W2 H2 l2.s s2
    cases m with
    | zero =>
      cases hi : I.items i S2 with
      | none => simp only [forL, hi] at o2; exact False.elim o2
      | some x =>
        cases x with
        | none => simp only [forL, hi] at o2; rw [hi] at q; exact .inl ⟨q, o2 σ2 H2 W2 (.refl _) s2 e2⟩
        | some d => simp only [forL, hi] at o2; exact False.elim o2
    | succ k =>
      cases hi : I.items i S2 with
      | none => simp only [forL, hi] at o2; exact False.elim o2
      | some x =>
        cases x with
        | none => simp only [forL, hi] at o2; rw [hi] at q; exact .inl ⟨q, o2 σ2 H2 W2 (.refl _) s2 e2⟩
        | some d =>
          simp only [forL, hi] at o2
          rw [hi] at q
          refine .inr ⟨q.1, fun σ' H' => ∃ env S W', W1.le W' ∧ StR G S W' H' ∧ EnvR G.K W' env σ' ∧ OutS G Wx W' Dn (forL g b I k (i + 1) env S), fun σ' H' z => ⟨k, Nat.lt_succ_self _, z⟩, fun x H3 hy => ?_⟩
          obtain ⟨W3, l3, s3, r3⟩ := q.2 x H3 hy
          refine ⟨env2, S2, W3, d, s3, e2.mo l3, r3, ?_⟩
          cases hg2 : g d env2 S2 with
          | none => simp only [hg2] at o2; exact False.elim o2
          | some p =>
            obtain ⟨env4, S4⟩ := p
            simp only [hg2] at o2
            refine fun σ4 H4 W4 l4 s4 e4 _ => ⟨env4, S4, W4, s4, e4, ?_⟩
            have l14 : W1.le W4 := (l2.trans l3).trans l4
            have l24 : W2.le W4 := l3.trans l4
            cases hb2 : b env4 S4 with
            | nx env5 S5 => simp only [hb2] at o2; exact fun σ5 H5 W5 l5 s5 e5 => ⟨env5, S5, W5, l14.trans l5, s5, e5, o2.mo (l24.trans l5)⟩
            | ct env5 S5 => simp only [hb2] at o2; exact fun σ5 H5 W5 l5 s5 e5 => ⟨env5, S5, W5, l14.trans l5, s5, e5, o2.mo (l24.trans l5)⟩
            | bk env5 S5 => simp only [hb2] at o2; exact fun σ5 H5 W5 l5 s5 e5 => o2 σ5 H5 W5 (l24.trans l5) s5 e5
            | rt d5 S5 => simp only [hb2] at o2; exact fun v5 H5 W5 l5 s5 r5 => o2 v5 H5 W5 (l24.trans l5) s5 r5
            | ex c5 d5 env5 S5 => simp only [hb2] at o2; exact fun dx σ5 H5 W5 l5 s5 e5 x5 => o2 dx σ5 H5 W5 (l24.trans l5) s5 e5 x5
            | bad => simp only [hb2] at o2; exact o2
theorem ps_whileD {n : Nat} (hp : PassesOwn (model X.prog X.w) X.A X.env X.xe) (hc : PT X e (tT G Wx c)) (hb : PSs X sts (tS G Wx b)) : PS X (.While e sts [] pos) (tS G Wx (whileS n c b)) :=
  (ps_while hp hc hb).imp fun Dn σ H ⟨env, S, W, hs, he, o⟩ => by
    refine ⟨fun m σ H => ∃ env S W, StR G S W H ∧ EnvR G.K W env σ ∧ OutS G Wx W Dn (whileL c b m env S), ⟨n, env, S, W, hs, he, o⟩, ?_⟩
    rintro m σ2 H2 ⟨env2, S2, W2, s2, e2, o2⟩
    cases m with
    | zero => exact False.elim o2
    | succ k =>
      refine tT_mono (tT_thenS s2 e2 o2) fun t H3 ⟨S3, W3, l3, s3, e3, o3⟩ => ?_
      cases t with
      | false => exact o3 σ2 H3 W3 (.refl _) s3 e3
      | true =>
        rw [if_pos rfl] at o3 ⊢
        refine ⟨fun σ' H' => ∃ env S W, StR G S W H' ∧ EnvR G.K W env σ' ∧ OutS G Wx W Dn (whileL c b k env S), fun σ' H' z => ⟨k, Nat.lt_succ_self _, z⟩, env2, S3, W3, s3, e3, ?_⟩
        cases hb2 : b env2 S3 with
        | nx env5 S5 => simp only [hb2] at o3; exact fun σ5 H5 W5 l5 s5 e5 => ⟨env5, S5, W5, s5, e5, o3.mo l5⟩
        | ct env5 S5 => simp only [hb2] at o3; exact fun σ5 H5 W5 l5 s5 e5 => ⟨env5, S5, W5, s5, e5, o3.mo l5⟩
        | bk env5 S5 => simp only [hb2] at o3; exact o3
        | rt d5 S5 => simp only [hb2] at o3; exact o3
        | ex c5 d5 env5 S5 => simp only [hb2] at o3; exact o3
        | bad => simp only [hb2] at o3; exact o3
end

/-! ### list comprehensions -/
def wipeE (env : SV) : List Nat → SV
  | [] => env
  | v :: vs => (wipeE env vs).set v none
/-- the turns of a comprehension: what is made so far is acc; nothing may be raised in it -/
def lcL (g : GF) (c : TF) (f : EF) (I : ItD) (env : SV) : Nat → Nat → List D → Store → Res (List D)
  | 0, i, acc, S => match I.items i S with
    | some none => .ok acc S
    | _ => .bad
  | k + 1, i, acc, S => match I.items i S with
    | some none => .ok acc S
    | none => .bad
    | some (some d) => match g d env S with
      | none => .bad
      | some (env1, S1) => match c env1 S1 with
        | .ok true S2 => match f env1 S2 with
          | .ok y S3 => if acc.length < sizeLine then lcL g c f I env k (i + 1) (acc ++ [y]) S3 else .bad
          | _ => .bad
        | .ok false S2 => lcL g c f I env k (i + 1) acc S2
        | _ => .bad
def yesT : TF := fun _ S => .ok true S
/-- its items -/
def lcA (it : IF) (vs : List Nat) (g : GF) (c : TF) (f : EF) : AF := fun env S => (it env S).bind fun I S1 => lcL g c f I (wipeE env vs) I.fuel 0 [] S1
def lcE (h : AF) : EF := fun env S => (h env S).bind fun ds S1 => .ok (.lst ds) S1
def lcM (h : AF) : EF := fun env S => (h env S).bind fun ds S1 => .ok (.ref S1.length) (S1 ++ [.lst ds])
/-- no exception comes out of a comprehension's block -/
abbrev W0 : WX := fun _ _ _ _ => False
theorem EnvR.wipe {K : Kf} {W : Wd} {env : SV} {σ : L2.St} (h : EnvR K W env σ) : ∀ vs : List Nat, EnvR K W (wipeE env vs) (L2.wipe σ vs)
  | [] => h
  | v :: vs => by unfold wipeE L2.wipe; exact (EnvR.wipe h vs).unset v none
section
variable {G : Gc} {Wx : WX} {X : Cx}
theorem upd_of {F : Hp} {p q : Addr} {o u : HO} (hF : F p = none) (h : F q = some u) : q ≠ p ∧ upd F p o q = some u := by
  have : q ≠ p := by rintro rfl; rw [hF] at h; cases h
  exact ⟨this, by rw [upd_ne this]; exact h⟩
theorem wipe_wipe (σ : L2.St) (vs : List Nat) : L2.wipe (L2.wipe σ vs) vs = L2.wipe σ vs := by
  have k : ∀ us : List Nat, (∀ u ∈ us, u ∈ vs) → L2.wipe (L2.wipe σ us) vs = L2.wipe σ vs := by
    intro us
    induction us with
    | nil => intro _; rfl
    | cons u us ih =>
      intro h
      show L2.wipe ((L2.wipe σ us).set u none) vs = _
      rw [wipe_set (h u List.mem_cons_self)]
      exact ih fun v hv => h v (List.mem_cons_of_mem _ hv)
  exact k vs fun _ h => h
/-- the turns, whatever is made of the list in the end (R) -/
theorem lc_turns {it : IF} {g : GF} {c : TF} {f : EF} {vs : List Nat} {σ : L2.St} {H : Hp} {Q : VK} (R : List D → Store → Res D)
    (hR : ∀ (ds : List D) (us : List V) (S1 : Store) (Z : Hp) (μ : List Addr) (F : Hp) (H1 : Hp) (p : Addr), StR G S1 ⟨Z, μ, upd F p (.lst us)⟩ H1 → F p = none → RepL G.K ⟨Z, μ, F⟩ ds us → OutR G Wx ⟨Z, μ, F⟩ σ (Pe G ⟨Z, μ, F⟩ Q) (R ds S1) → Q (.ref p) H1)
    {env : SV} {S : Store} {W : Wd} (hs : StR G S W H) (he : EnvR G.K W env σ) (o : OutR G Wx W σ (Pe G W Q) ((it env S).bind fun I S1 => (lcL g c f I (wipeE env vs) I.fuel 0 [] S1).bind R)) :
    tLc (tI G Wx it) (tG G vs g) (tT G W0 c) (tE G W0 f) vs σ H Q := by
  refine ⟨env, S, W, hs, he, o.bind.imp (.refl _) fun I S1 o1 J H1 W1 l1 s1 ok p hp => ?_⟩
  have hFp : W1.F p = none := by
    cases q : W1.F p with
    | none => rfl
    | some u => have := (s1.fr p u q).1; rw [hp] at this; cases this
  have e1 := he.mo l1
  have o1 : OutR G Wx W1 σ (Pe G W1 Q) ((lcL g c f I (wipeE env vs) I.fuel 0 [] S1).bind R) := o1.imp l1 fun _ _ z => Pe.mo l1 z
  -- the world at a turn: W1 and more, the list watched
  refine ⟨fun i m H => ∃ (acc : List D) (us : List V) (S' : Store) (Z : Hp) (μ : List Addr), W1.sub ⟨Z, μ, W1.F⟩ ∧ StR G S' ⟨Z, μ, upd W1.F p (.lst us)⟩ H ∧ RepL G.K ⟨Z, μ, W1.F⟩ acc us ∧
    OutR G Wx ⟨Z, μ, W1.F⟩ σ (Pe G ⟨Z, μ, W1.F⟩ Q) ((lcL g c f I (wipeE env vs) m i acc S').bind R), ⟨I.fuel, [], [], S1, W1.Z, W1.μ, .refl _, ?_, .nil, o1⟩, ?_⟩
  · have hzp := s1.zt p hp
    have hmp : p ∉ W1.μ := fun z => s1.th p z hp
    exact (s1.junk hp (.lst [])).watch upd_same hzp hmp
  · rintro i m H2 ⟨acc, us, S2, Z, μ, l2, s2, ra, o2⟩
    have q := ok i S2 ⟨Z, μ, upd W1.F p (.lst us)⟩ H2 ⟨l2.z, l2.m⟩ s2
    have stop : I.items i S2 = some none → (J.stop i H2 ∧ Q (.ref p) H2) := fun hi => by
      rw [hi] at q
      refine ⟨q, hR acc us S2 Z μ W1.F H2 p s2 hFp ra ?_⟩
      cases m with
      | zero => simp only [lcL, hi, Res.bind] at o2; exact o2
      | succ k => simp only [lcL, hi, Res.bind] at o2; exact o2
    cases hi : I.items i S2 with
    | none => cases m <;> (simp only [lcL, hi, Res.bind] at o2; exact False.elim o2)
    | some x =>
      cases x with
      | none => exact .inl (stop hi)
      | some d =>
        cases m with
        | zero => simp only [lcL, hi, Res.bind] at o2; exact False.elim o2
        | succ k =>
          simp only [lcL, hi] at o2
          rw [hi] at q
          refine .inr ⟨q.1, fun H => ∃ (acc : List D) (us : List V) (S' : Store) (Z : Hp) (μ : List Addr), W1.sub ⟨Z, μ, W1.F⟩ ∧ StR G S' ⟨Z, μ, upd W1.F p (.lst us)⟩ H ∧ RepL G.K ⟨Z, μ, W1.F⟩ acc us ∧
            OutR G Wx ⟨Z, μ, W1.F⟩ σ (Pe G ⟨Z, μ, W1.F⟩ Q) ((lcL g c f I (wipeE env vs) k (i + 1) acc S').bind R), fun H' z => ⟨k, Nat.lt_succ_self _, z⟩, fun x H3 hy => ?_⟩
          obtain ⟨W3, l3, s3, r3⟩ := q.2 x H3 hy
          have e3 : EnvR G.K W3 (wipeE env vs) (L2.wipe σ vs) := by
            have := e1.wipe vs
            exact ⟨this.1, fun j d e => let ⟨v, h1, h2⟩ := this.2 j d e; ⟨v, h1, (h2.ms (W' := ⟨Z, μ, upd W1.F p (.lst us)⟩) ⟨l2.z, l2.m⟩).mo l3⟩⟩
          refine ⟨wipeE env vs, S2, W3, d, s3, e3, r3, ?_⟩
          cases hg : g d (wipeE env vs) S2 with
          | none => simp only [hg, Res.bind] at o2; exact False.elim o2
          | some pr =>
            obtain ⟨env4, S4⟩ := pr
            simp only [hg] at o2
            refine fun σ4 H4 W4 l4 s4 e4 hw => ⟨hw.trans (wipe_wipe σ vs), env4, S4, W4, s4, e4, ?_⟩
            cases hc : c env4 S4 with
            | exc c5 d5 S5 => simp only [hc, Res.bind] at o2; exact False.elim o2
            | bad => simp only [hc, Res.bind] at o2; exact False.elim o2
            | ok t S5 =>
              cases t with
              | false =>
                simp only [hc] at o2
                refine fun H5 W5 l5 s5 => ?_
                refine L2.iteF ?_
                have lt := (l3.trans l4).trans l5
                have ef : W5.F = upd W1.F p (.lst us) := lt.f
                obtain ⟨Z5, μ5, F5⟩ := W5
                simp only at ef
                subst ef
                have l15 : W1.sub ⟨Z5, μ5, W1.F⟩ := (⟨l2.z, l2.m⟩ : W1.sub ⟨Z, μ, upd W1.F p (.lst us)⟩).trans ⟨lt.z, lt.m⟩
                have l25 : Wd.le ⟨Z, μ, W1.F⟩ ⟨Z5, μ5, W1.F⟩ := ⟨rfl, lt.z, lt.m⟩
                exact ⟨acc, us, S5, Z5, μ5, l15, s5, ra.mo l25, o2.imp l25 fun _ _ z => Pe.mo l25 z⟩
              | true =>
                simp only [hc] at o2
                refine fun H5 W5 l5 s5 => ?_
                refine L2.iteT ?_
                refine ⟨env4, S5, W5, s5, e4.mo l5, ?_⟩
                cases hf : f env4 S5 with
                | exc c5 d5 S5 => simp only [hf, Res.bind] at o2; exact False.elim o2
                | bad => simp only [hf, Res.bind] at o2; exact False.elim o2
                | ok y S6 =>
                  simp only [hf] at o2
                  refine fun v H6 W6 l6 s6 r6 => ?_
                  have lt := ((l3.trans l4).trans l5).trans l6
                  have ef : W6.F = upd W1.F p (.lst us) := lt.f
                  obtain ⟨Z6, μ6, F6⟩ := W6
                  simp only at ef
                  subst ef
                  have l16 : W1.sub ⟨Z6, μ6, W1.F⟩ := (⟨l2.z, l2.m⟩ : W1.sub ⟨Z, μ, upd W1.F p (.lst us)⟩).trans ⟨lt.z, lt.m⟩
                  have l26 : Wd.le ⟨Z, μ, W1.F⟩ ⟨Z6, μ6, W1.F⟩ := ⟨rfl, lt.z, lt.m⟩
                  have hH : H6 p = some (.lst us) := (s6.fr p (.lst us) (by show upd W1.F p (.lst us) p = _; rw [upd_same])).1
                  by_cases hz : acc.length < sizeLine
                  · rw [if_pos hz] at o2
                    have ru : RepL G.K ⟨Z6, μ6, W1.F⟩ (acc ++ [y]) (us ++ [v]) := (ra.mo l26).app (.cons (r6.frame W1.F) .nil)
                    refine ⟨us, hH, by rw [← ra.len]; exact hz, acc ++ [y], us ++ [v], S6, Z6, μ6, l16, ?_, ru, o2.imp l26 fun _ _ z => Pe.mo l26 z⟩
                    have su : StR G S6 ⟨Z6, μ6, W1.F⟩ (upd H6 p (.lst (us ++ [v]))) := s6.unwatch (p := p) (by show upd W1.F p (.lst us) p ≠ none; rw [upd_same]; simp) (fun q u h => upd_of hFp h)
                    obtain ⟨_, f2, f3⟩ := s6.fr p (.lst us) (by show upd W1.F p (.lst us) p = _; rw [upd_same])
                    exact su.watch upd_same f2 f3
                  · rw [if_neg hz] at o2; exact False.elim o2
theorem _root_.L2.PTs.imp {X : Cx} {es : List Expr} {t t' : TT} (h : PTs X es t) (k : ∀ σ H Q, t' σ H Q → t σ H Q) : PTs X es t' := ⟨fun pins s σ H Q I w => h.run pins s σ H Q I (k σ H Q w)⟩
theorem pts_nilD : PTs X [] (tT G W0 yesT) := pts_nil.imp fun σ H Q ⟨env, S, W, hs, he, o⟩ => o H W (.refl _) hs
theorem pts_oneD {e : Expr} {c : TF} (h : PT X e (tT G W0 c)) : PTs X [e] (tT G W0 c) := pts_one h
theorem lc_val {it : IF} {g : GF} {c : TF} {f : EF} {vs : List Nat} : ∀ σ H Q, tE G Wx (lcE (lcA it vs g c f)) σ H Q → tLc (tI G Wx it) (tG G vs g) (tT G W0 c) (tE G W0 f) vs σ H Q := fun σ H Q ⟨env, S, W, hs, he, o⟩ => by
  refine lc_turns (fun ds S1 => .ok (.lst ds) S1) (fun ds us S1 Z μ F H1 p s1 hF r o1 => ?_) hs he ?_
  · have hp : upd F p (.lst us) p = some (.lst us) := upd_same
    have s2 : StR G S1 ⟨upd Z p (.lst us), μ, F⟩ H1 := s1.keep hp fun q u h => upd_of hF h
    have le : Wd.le ⟨Z, μ, F⟩ ⟨upd Z p (.lst us), μ, F⟩ := ⟨rfl, fun q u h => by
      have hq : q ≠ p := by rintro rfl; have h2 := (s1.fr q _ hp).2.1; have h' : Z q = some u := h; have h2' : Z q = none := h2; rw [h'] at h2'; cases h2'
      show upd Z p (.lst us) q = some u
      rw [upd_ne hq]; exact h, [], by simp⟩
    exact o1 _ H1 _ le s2 (.lst upd_same (r.mo le))
  · unfold lcE lcA at o
    cases q : it env S with
    | ok I S1 => rw [q] at o; exact o
    | exc c' d' S1 => rw [q] at o; exact o
    | bad => rw [q] at o; exact o
theorem lc_cell {it : IF} {g : GF} {c : TF} {f : EF} {vs : List Nat} : ∀ σ H Q, tE G Wx (lcM (lcA it vs g c f)) σ H Q → tLc (tI G Wx it) (tG G vs g) (tT G W0 c) (tE G W0 f) vs σ H Q := fun σ H Q ⟨env, S, W, hs, he, o⟩ => by
  refine lc_turns (fun ds S1 => .ok (.ref S1.length) (S1 ++ [.lst ds])) (fun ds us S1 Z μ F H1 p s1 hF r o1 => ?_) hs he ?_
  · have hp : upd F p (.lst us) p = some (.lst us) := upd_same
    have s2 : StR G (S1 ++ [.lst ds]) ⟨Z, μ ++ [p], F⟩ H1 := s1.adopt hp (fun q u h => upd_of hF h) (.lst (r.frame _))
    exact o1 _ H1 ⟨Z, μ ++ [p], F⟩ ⟨rfl, fun _ _ h => h, [p], rfl⟩ s2 (.ref (by
      have hl : μ.length = S1.length := s1.len
      show (μ ++ [p])[S1.length]? = some p
      rw [← hl]; simp))
  · unfold lcM lcA at o
    cases q : it env S with
    | ok I S1 => rw [q] at o; exact o
    | exc c' d' S1 => rw [q] at o; exact o
    | bad => rw [q] at o; exact o
variable {elt tg iter : Expr} {ifs : List Expr} {scope : Scope} {own : List (Str × Nat)} {pos : Pos} {it : IF} {g : GF} {c : TF} {f : EF}
theorem pe_lcD (hc : X.calm = true) (hN : X.N.Nodup) (hi : PI X tg iter (tI G Wx it)) (ok : BlkOk X.N X.env.scope scope own)
    (hg : ∀ (s : Shared) (H : Hp) (C : Addr) (cl : List (Str × Addr)) (fp : List Addr), PG (X.blk s H scope (compEnvC scope cl C X.env) fp) tg (tG G (own.map (·.2)) g))
    (ht : ∀ (s : Shared) (H : Hp) (C : Addr) (cl : List (Str × Addr)) (fp : List Addr), PTs (X.blk s H scope (compEnvC scope cl C X.env) fp) ifs (tT G W0 c))
    (he : ∀ (s : Shared) (H : Hp) (C : Addr) (cl : List (Str × Addr)) (fp : List Addr), PE (X.blk s H scope (compEnvC scope cl C X.env) fp) elt (tE G W0 f)) (hs : ∀ x, foldedSetIterable iter X.env x = pure x) :
    PE X (.ListComp elt [⟨tg, iter, ifs, 0⟩] scope pos) (tE G Wx (lcE (lcA it (own.map (·.2)) g c f))) := (pe_lc hc hN hi ok hg ht he hs).imp lc_val
theorem pe_lcMD (hc : X.calm = true) (hN : X.N.Nodup) (hi : PI X tg iter (tI G Wx it)) (ok : BlkOk X.N X.env.scope scope own)
    (hg : ∀ (s : Shared) (H : Hp) (C : Addr) (cl : List (Str × Addr)) (fp : List Addr), PG (X.blk s H scope (compEnvC scope cl C X.env) fp) tg (tG G (own.map (·.2)) g))
    (ht : ∀ (s : Shared) (H : Hp) (C : Addr) (cl : List (Str × Addr)) (fp : List Addr), PTs (X.blk s H scope (compEnvC scope cl C X.env) fp) ifs (tT G W0 c))
    (he : ∀ (s : Shared) (H : Hp) (C : Addr) (cl : List (Str × Addr)) (fp : List Addr), PE (X.blk s H scope (compEnvC scope cl C X.env) fp) elt (tE G W0 f)) (hs : ∀ x, foldedSetIterable iter X.env x = pure x) :
    PE X (.ListComp elt [⟨tg, iter, ifs, 0⟩] scope pos) (tE G Wx (lcM (lcA it (own.map (·.2)) g c f))) := (pe_lc hc hN hi ok hg ht he hs).imp lc_cell
/-- y = [..], y a local -/
theorem ps_lcD {i : Nat} {y : Str} {py spos : Pos} {h : EF} (hh : h = lcE (lcA it (own.map (·.2)) g c f) ∨ h = lcM (lcA it (own.map (·.2)) g c f)) (hc : X.calm = true) (hN : X.N.Nodup) (hy : X.N[i]? = some y) (hyl : X.env.scope.names.lookup y = some .local)
    (hsw : swapsWith (.ListComp elt [⟨tg, iter, ifs, 0⟩] scope pos) (some (.Name y py)) spos.line X.env = pure true) (hi : PI X tg iter (tI G Wx it)) (ok : BlkOk X.N X.env.scope scope own)
    (hg : ∀ (s : Shared) (H : Hp) (C : Addr) (cl : List (Str × Addr)) (fp : List Addr), PG (X.blk s H scope (compEnvC scope cl C X.env) fp) tg (tG G (own.map (·.2)) g))
    (ht : ∀ (s : Shared) (H : Hp) (C : Addr) (cl : List (Str × Addr)) (fp : List Addr), PTs (X.blk s H scope (compEnvC scope cl C X.env) fp) ifs (tT G W0 c))
    (he : ∀ (s : Shared) (H : Hp) (C : Addr) (cl : List (Str × Addr)) (fp : List Addr), PE (X.blk s H scope (compEnvC scope cl C X.env) fp) elt (tE G W0 f)) (hs : ∀ x, foldedSetIterable iter X.env x = pure x) :
    PS X (.Assign [.Name y py] (.ListComp elt [⟨tg, iter, ifs, 0⟩] scope pos) spos) (tS G Wx (setS i h)) := by
  have base := ps_setLc hc hN hy hyl hsw hi ok hg ht he hs
  have mono : ∀ {σ H} {Q Q' : VK}, tE G Wx h σ H Q → (∀ v H, Q v H → Q' v H) → tLc (tI G Wx it) (tG G (own.map (·.2)) g) (tT G W0 c) (tE G W0 f) (own.map (·.2)) σ H Q' := fun {σ H Q Q'} w k => by
    rcases hh with rfl | rfl
    · exact lc_val σ H Q' (tE_mono w k)
    · exact lc_cell σ H Q' (tE_mono w k)
  exact base.imp fun Dn σ H ⟨env, S, W, hs, he, o⟩ =>
    mono (tE_thenS hs he o) fun v H1 ⟨S1, W1, d, l1, s1, e1, r1, o1⟩ => o1 _ H1 W1 (.refl _) s1 (e1.set r1 i)
end
end Lt
set_option maxRecDepth 100000
set_option maxHeartbeats 4000000
namespace Lt
open PySem PySem.Spec PyProof.Rows L2

/-! ### built-ins by values -/
def lenD : List D → Option D
  | [.tup xs] => some (.int xs.length)
  | [.lst xs] => some (.int xs.length)
  | [.scr xs] => some (.int xs.length)
  | [.str z] => if z.length ≤ sizeLine then some (.int z.length) else none
  | _ => none
def absD : List D → Option D
  | [.int i] => some (.int (if i < 0 then -i else i))
  | _ => none
def max2D : List D → Option D
  | [.int i, .int j] => some (.int (if j > i then j else i))
  | _ => none
def min2D : List D → Option D
  | [.int i, .int j] => some (.int (if j < i then j else i))
  | _ => none
def intD : List D → Option D
  | [.int i] => some (.int i)
  | [.bl b] => some (.int (if b then 1 else 0))
  | _ => none
def listD : List D → Option D
  | [.tup xs] => some (.lst xs)
  | [.lst xs] => some (.lst xs)
  | [.scr xs] => some (.lst xs)
  | _ => none
def tupleD : List D → Option D
  | [.tup xs] => some (.tup xs)
  | [.lst xs] => some (.tup xs)
  | [.scr xs] => some (.tup xs)
  | _ => none
def bools : List D → Option (List Bool)
  | [] => some []
  | .bl b :: r => (bools r).map (b :: ·)
  | _ => none
def intsD : List D → Option (List Int)
  | [] => some []
  | .int b :: r => (intsD r).map (b :: ·)
  | _ => none
def allD : List D → Option D
  | [.lst xs] => (bools xs).map fun bs => .bl (bs.all id)
  | _ => none
def anyD : List D → Option D
  | [.lst xs] => (bools xs).map fun bs => .bl (bs.any id)
  | _ => none
def sumD : List D → Option D
  | [.lst xs] => (intsD xs).map fun bs => .int bs.sum
  | _ => none
def maxL : List Int → Option Int
  | [] => none
  | i :: r => match maxL r with
    | none => some i
    | some m => some (if m < i then i else m)
def minL : List Int → Option Int
  | [] => none
  | i :: r => match minL r with
    | none => some i
    | some m => some (if i < m then i else m)
def maxD : List D → Option D
  | [.lst xs] => (intsD xs).bind fun bs => (maxL bs).map .int
  | _ => none
def minD : List D → Option D
  | [.lst xs] => (intsD xs).bind fun bs => (minL bs).map .int
  | _ => none
inductive Ty where | tup | str | int | bool | list | dict
def Ty.nm : Ty → String
  | .tup => "tuple" | .str => "str" | .int => "int" | .bool => "bool" | .list => "list" | .dict => "dict"
def tyOf : D → Option Ty
  | .bl _ => some .bool
  | .int _ => some .int
  | .str _ => some .str
  | .tup _ => some .tup
  | .lst _ => some .list
  | .scr _ => some .list
  | .dic _ _ => some .dict
  | _ => none
def isTy : Ty → Ty → Bool
  | .tup, .tup => true | .str, .str => true | .int, .int => true | .bool, .bool => true | .bool, .int => true | .list, .list => true | .dict, .dict => true
  | _, _ => false
/-- isinstance(d, T) -/
def isiD (T : Ty) : D → Option D
  | .non => some (.bl false)
  | d => (tyOf d).map fun t => .bl (isTy t T)
def shp : Nat → D → Bool
  | _, .non => true
  | _, .bl _ => true
  | _, .int _ => true
  | _, .str _ => true
  | n + 1, .tup xs => xs.all (shp n)
  | n + 1, .lst xs => xs.all (shp n)
  | _, _ => false
def reprD : List D → Option D
  | [d] => if (shp 40 d && (py d).showable && decide ((py d).shown.length ≤ sizeLine)) = true then some (.str (py d).shown) else none
  | _ => none
section
variable {G : Gc} {X : Cx}
theorem NowL.one {W : Wd} {H : Hp} {ds : List D} {vs : List V} {d : D} (h : NowL G W H ds vs) (e : ds = [d]) : ∃ v, vs = [v] ∧ Now G W H d v := by
  subst e
  cases h with
  | cons r t => cases t; exact ⟨_, rfl, r⟩
theorem NowL.two {W : Wd} {H : Hp} {ds : List D} {vs : List V} {d d2 : D} (h : NowL G W H ds vs) (e : ds = [d, d2]) : ∃ v v2, vs = [v, v2] ∧ Now G W H d v ∧ Now G W H d2 v2 := by
  subst e
  cases h with
  | cons r t =>
    cases t with
    | cons r2 t => cases t; exact ⟨_, _, rfl, r, r2⟩
theorem cr_lenD (hk : X.K = G.K) : CallR X (.builtin "len") (rDN G lenD) := by
  intro pins s σ H xs us Q I r ⟨S, W, ds, d, hs, nl, hr, q⟩
  unfold lenD at hr
  split at hr <;> first | cases hr | skip
  · obtain ⟨v, rfl, n⟩ := nl.one rfl
    cases n with
    | tup h r1 => exact call_len pins s σ H _ us Q I r ⟨_, _, rfl, .inr ⟨_, by rw [hk]; exact SqT.mo hs.rd h, rfl⟩, by rw [← r1.len]; exact q _ H W (.refl _) hs (.int _)⟩
  · obtain ⟨v, rfl, n⟩ := nl.one rfl
    cases n with
    | lst h r1 => exact call_len pins s σ H _ us Q I r ⟨_, _, rfl, .inl ⟨_, SqL.of h, rfl⟩, by rw [← r1.len]; exact q _ H W (.refl _) hs (.int _)⟩
  · obtain ⟨v, rfl, n⟩ := nl.one rfl
    cases n with
    | scr h r1 => exact call_len pins s σ H _ us Q I r ⟨_, _, rfl, .inl ⟨_, by rw [hk]; exact SqL.mo hs.rd h, rfl⟩, by rw [← r1.len]; exact q _ H W (.refl _) hs (.int _)⟩
  · split at hr
    · rename_i z hz
      cases hr
      obtain ⟨v, rfl, n⟩ := nl.one rfl
      cases n
      exact call_len pins s σ H _ us Q I r ⟨_, _, rfl, ⟨hz, rfl⟩, q _ H W (.refl _) hs (.int _)⟩
    · cases hr
theorem cr_absD : CallR X (.builtin "abs") (rDN G absD) := by
  intro pins s σ H xs us Q I r ⟨S, W, ds, d, hs, nl, hr, q⟩
  unfold absD at hr
  split at hr <;> cases hr
  obtain ⟨v, rfl, n⟩ := nl.one rfl
  cases n
  exact call_abs pins s σ H _ us Q I r ⟨_, rfl, q _ H W (.refl _) hs (.int _)⟩
theorem cr_max2D (hc : X.calm = true) : CallR X (.builtin "max") (rDN G max2D) := by
  intro pins s σ H xs us Q I r ⟨S, W, ds, d, hs, nl, hr, q⟩
  unfold max2D at hr
  split at hr <;> cases hr
  obtain ⟨v, v2, rfl, n, n2⟩ := nl.two rfl
  cases n; cases n2
  exact call_max2 hc pins s σ H _ us Q I r ⟨_, _, rfl, q _ H W (.refl _) hs (.int _)⟩
theorem cr_min2D (hc : X.calm = true) : CallR X (.builtin "min") (rDN G min2D) := by
  intro pins s σ H xs us Q I r ⟨S, W, ds, d, hs, nl, hr, q⟩
  unfold min2D at hr
  split at hr <;> cases hr
  obtain ⟨v, v2, rfl, n, n2⟩ := nl.two rfl
  cases n; cases n2
  exact call_min2 hc pins s σ H _ us Q I r ⟨_, _, rfl, q _ H W (.refl _) hs (.int _)⟩
theorem cr_intD : CallR X (.type "int") (rDN G intD) := by
  intro pins s σ H xs us Q I r ⟨S, W, ds, d, hs, nl, hr, q⟩
  unfold intD at hr
  split at hr <;> cases hr
  · obtain ⟨v, rfl, n⟩ := nl.one rfl
    cases n
    exact call_int1 pins s σ H _ us Q I r (.inl ⟨_, rfl, q _ H W (.refl _) hs (.int _)⟩)
  · obtain ⟨v, rfl, n⟩ := nl.one rfl
    cases n
    exact call_int1 pins s σ H _ us Q I r (.inr ⟨_, rfl, q _ H W (.refl _) hs (.int _)⟩)
theorem cr_listD (hk : X.K = G.K) : CallR X (.type "list") (rDN G listD) := by
  intro pins s σ H xs us Q I r ⟨S, W, ds, d, hs, nl, hr, q⟩
  have fin : ∀ {vs : List V} {es : List D}, d = .lst es → RepL G.K W es vs → ∀ l, H l = none → Q (.ref l) (upd H l (.lst vs)) := fun {vs es} e rl l hl => by
    subst e
    obtain ⟨le, s2⟩ := hs.imm hl (.lst vs)
    exact q _ _ _ le s2 (.lst upd_same (rl.mo le))
  unfold listD at hr
  split at hr <;> cases hr
  · obtain ⟨v, rfl, n⟩ := nl.one rfl
    cases n with
    | tup h r1 => exact call_list_of pins s σ H _ us Q I r ⟨_, _, rfl, .inr (by rw [hk]; exact SqT.mo hs.rd h), fin rfl r1⟩
  · obtain ⟨v, rfl, n⟩ := nl.one rfl
    cases n with
    | lst h r1 => exact call_list_of pins s σ H _ us Q I r ⟨_, _, rfl, .inl (SqL.of h), fin rfl r1⟩
  · obtain ⟨v, rfl, n⟩ := nl.one rfl
    cases n with
    | scr h r1 => exact call_list_of pins s σ H _ us Q I r ⟨_, _, rfl, .inl (by rw [hk]; exact SqL.mo hs.rd h), fin rfl r1⟩
theorem cr_tupleD (hk : X.K = G.K) : CallR X (.type "tuple") (rDN G tupleD) := by
  intro pins s σ H xs us Q I r ⟨S, W, ds, d, hs, nl, hr, q⟩
  have fin : ∀ {vs : List V} {es : List D}, d = .tup es → RepL G.K W es vs → ∀ l, H l = none → Q (.ref l) (upd H l (.tup vs)) := fun {vs es} e rl l hl => by
    subst e
    obtain ⟨le, s2⟩ := hs.imm hl (.tup vs)
    exact q _ _ _ le s2 (.tup (SqT.of upd_same) (rl.mo le))
  unfold tupleD at hr
  split at hr <;> cases hr
  · obtain ⟨v, rfl, n⟩ := nl.one rfl
    cases n with
    | tup h r1 => exact call_tuple_of pins s σ H _ us Q I r ⟨_, _, rfl, .inr ⟨by rw [hk]; exact SqT.mo hs.rd h, q _ H W (.refl _) hs (.tup h r1)⟩⟩
  · obtain ⟨v, rfl, n⟩ := nl.one rfl
    cases n with
    | lst h r1 => exact call_tuple_of pins s σ H _ us Q I r ⟨_, _, rfl, .inl ⟨SqL.of h, fin rfl r1⟩⟩
  · obtain ⟨v, rfl, n⟩ := nl.one rfl
    cases n with
    | scr h r1 => exact call_tuple_of pins s σ H _ us Q I r ⟨_, _, rfl, .inl ⟨by rw [hk]; exact SqL.mo hs.rd h, fin rfl r1⟩⟩
theorem bools_V {K : Kf} {W : Wd} : ∀ {ds : List D} {vs : List V} {bs : List Bool}, RepL K W ds vs → bools ds = some bs → vs = bs.map V.bl
  | _, _, bs, .nil, h => by cases h; rfl
  | _, _, bs, .cons (d := d) r t, h => by
    cases r with
    | bl b =>
      simp only [bools] at h
      cases e : bools _ with
      | none => rw [e] at h; cases h
      | some bs' => rw [e] at h; cases h; rw [bools_V t e]; rfl
    | _ => cases h
theorem ints_V {K : Kf} {W : Wd} : ∀ {ds : List D} {vs : List V} {bs : List Int}, RepL K W ds vs → intsD ds = some bs → vs = bs.map V.int
  | _, _, bs, .nil, h => by cases h; rfl
  | _, _, bs, .cons (d := d) r t, h => by
    cases r with
    | int b =>
      simp only [intsD] at h
      cases e : intsD _ with
      | none => rw [e] at h; cases h
      | some bs' => rw [e] at h; cases h; rw [ints_V t e]; rfl
    | _ => cases h
theorem cr_allD (hc : X.calm = true) : CallR X (.builtin "all") (rDN G allD) := by
  intro pins s σ H xs us Q I r ⟨S, W, ds, d, hs, nl, hr, q⟩
  unfold allD at hr
  split at hr <;> first | cases hr; done | skip
  rename_i es
  cases e : bools es with
  | none => rw [e] at hr; cases hr
  | some bs =>
    rw [e] at hr; cases hr
    obtain ⟨v, rfl, n⟩ := nl.one rfl
    cases n with
    | lst h r1 =>
      have ev := bools_V r1 e
      subst ev
      exact cr_all hc pins s σ H _ us Q I r ⟨_, bs, rfl, SqL.of h, q _ H W (.refl _) hs (.bl _)⟩
theorem cr_anyD (hc : X.calm = true) : CallR X (.builtin "any") (rDN G anyD) := by
  intro pins s σ H xs us Q I r ⟨S, W, ds, d, hs, nl, hr, q⟩
  unfold anyD at hr
  split at hr <;> first | cases hr; done | skip
  rename_i es
  cases e : bools es with
  | none => rw [e] at hr; cases hr
  | some bs =>
    rw [e] at hr; cases hr
    obtain ⟨v, rfl, n⟩ := nl.one rfl
    cases n with
    | lst h r1 =>
      have ev := bools_V r1 e
      subst ev
      exact cr_any hc pins s σ H _ us Q I r ⟨_, bs, rfl, SqL.of h, q _ H W (.refl _) hs (.bl _)⟩
theorem cr_sumD (hc : X.calm = true) : CallR X (.builtin "sum") (rDN G sumD) := by
  intro pins s σ H xs us Q I r ⟨S, W, ds, d, hs, nl, hr, q⟩
  unfold sumD at hr
  split at hr <;> first | cases hr; done | skip
  rename_i es
  cases e : intsD es with
  | none => rw [e] at hr; cases hr
  | some bs =>
    rw [e] at hr; cases hr
    obtain ⟨v, rfl, n⟩ := nl.one rfl
    cases n with
    | lst h r1 =>
      have ev := ints_V r1 e
      subst ev
      exact cr_sum hc pins s σ H _ us Q I r ⟨_, bs, rfl, SqL.of h, q _ H W (.refl _) hs (.int _)⟩
theorem maxL_spec : ∀ {l : List Int} {m : Int}, maxL l = some m → m ∈ l ∧ ∀ y ∈ l, y ≤ m
  | [], m, h => by cases h
  | i :: r, m, h => by
    unfold maxL at h
    cases e : maxL r with
    | none =>
      rw [e] at h; cases h
      have : r = [] := by
        cases r with
        | nil => rfl
        | cons a b => unfold maxL at e; split at e <;> cases e
      subst this
      exact ⟨List.mem_cons_self, by intro y hy; simp at hy; omega⟩
    | some m' =>
      rw [e] at h
      obtain ⟨h1, h2⟩ := maxL_spec e
      have h' : (if m' < i then i else m') = m := Option.some.inj h
      by_cases c : m' < i
      · rw [if_pos c] at h'; subst h'
        exact ⟨List.mem_cons_self, fun y hy => by rcases List.mem_cons.mp hy with z | z; omega; have := h2 y z; omega⟩
      · rw [if_neg c] at h'; subst h'
        exact ⟨List.mem_cons_of_mem _ h1, fun y hy => by rcases List.mem_cons.mp hy with z | z; omega; exact h2 y z⟩
theorem minL_spec : ∀ {l : List Int} {m : Int}, minL l = some m → m ∈ l ∧ ∀ y ∈ l, m ≤ y
  | [], m, h => by cases h
  | i :: r, m, h => by
    unfold minL at h
    cases e : minL r with
    | none =>
      rw [e] at h; cases h
      have : r = [] := by
        cases r with
        | nil => rfl
        | cons a b => unfold minL at e; split at e <;> cases e
      subst this
      exact ⟨List.mem_cons_self, by intro y hy; simp at hy; omega⟩
    | some m' =>
      rw [e] at h
      obtain ⟨h1, h2⟩ := minL_spec e
      have h' : (if i < m' then i else m') = m := Option.some.inj h
      by_cases c : i < m'
      · rw [if_pos c] at h'; subst h'
        exact ⟨List.mem_cons_self, fun y hy => by rcases List.mem_cons.mp hy with z | z; omega; have := h2 y z; omega⟩
      · rw [if_neg c] at h'; subst h'
        exact ⟨List.mem_cons_of_mem _ h1, fun y hy => by rcases List.mem_cons.mp hy with z | z; omega; exact h2 y z⟩
theorem cr_maxD (hc : X.calm = true) : CallR X (.builtin "max") (rDN G maxD) := by
  intro pins s σ H xs us Q I r ⟨S, W, ds, d, hs, nl, hr, q⟩
  unfold maxD at hr
  split at hr <;> first | cases hr; done | skip
  rename_i es
  cases e : intsD es with
  | none => rw [e] at hr; cases hr
  | some bs =>
    rw [e] at hr
    cases e2 : maxL bs with
    | none => simp only [Option.bind_some, e2] at hr; cases hr
    | some m =>
      simp only [Option.bind_some, e2] at hr; cases hr
      obtain ⟨v, rfl, n⟩ := nl.one rfl
      cases n with
      | lst h r1 =>
        have ev := ints_V r1 e
        subst ev
        obtain ⟨m1, m2⟩ := maxL_spec e2
        refine cr_max hc pins s σ H _ us Q I r ⟨_, bs, rfl, SqL.of h, List.length_pos_of_mem m1, fun m' h1 h2 => ?_⟩
        have : m' = m := Int.le_antisymm (m2 _ h1) (h2 _ m1)
        subst this
        exact q _ H W (.refl _) hs (.int _)
theorem cr_minD (hc : X.calm = true) : CallR X (.builtin "min") (rDN G minD) := by
  intro pins s σ H xs us Q I r ⟨S, W, ds, d, hs, nl, hr, q⟩
  unfold minD at hr
  split at hr <;> first | cases hr; done | skip
  rename_i es
  cases e : intsD es with
  | none => rw [e] at hr; cases hr
  | some bs =>
    rw [e] at hr
    cases e2 : minL bs with
    | none => simp only [Option.bind_some, e2] at hr; cases hr
    | some m =>
      simp only [Option.bind_some, e2] at hr; cases hr
      obtain ⟨v, rfl, n⟩ := nl.one rfl
      cases n with
      | lst h r1 =>
        have ev := ints_V r1 e
        subst ev
        obtain ⟨m1, m2⟩ := minL_spec e2
        refine cr_min hc pins s σ H _ us Q I r ⟨_, bs, rfl, SqL.of h, List.length_pos_of_mem m1, fun m' h1 h2 => ?_⟩
        have : m' = m := Int.le_antisymm (h2 _ m1) (m2 _ h1)
        subst this
        exact q _ H W (.refl _) hs (.int _)
/-! isinstance -/
theorem kit_tab (K : Kf) (a b : Ty) : PySem.W.kitOne K (.type a.nm) (.type b.nm) = some (isTy a b) := by
  refine kit_ty ?_
  cases a <;> cases b <;> decide +kernel
theorem kit_non (K : Kf) (b : Ty) : PySem.W.kitOne K (.type "NoneType") (.type b.nm) = some false := by
  refine kit_ty ?_
  cases b <;> decide +kernel
theorem tyX_of (hk : X.K = G.K) {S : Store} {W : Wd} {H : Hp} (hs : StR G S W H) {d : D} {v : V} {t : Ty} (n : Now G W H d v) (h : tyOf d = some t) : TyX X.K H v (.type t.nm) := by
  cases n with
  | bl b => cases h; exact .base (.bl b)
  | int b => cases h; exact .base (.int b)
  | str b => cases h; exact .base (.str b)
  | tup q r =>
    cases h
    rcases SqT.mo hs.rd q with (q | ⟨o, q⟩) | ⟨o, its, m, q1, q2, _⟩
    · exact .base (.tup q)
    · exact .fTuple q
    · exact .kTuple (by rw [hk]; exact q1) q2
  | lst q r => cases h; exact .base (.lst q)
  | scr q r =>
    cases h
    rcases SqL.mo hs.rd q with (q | ⟨o, q⟩) | ⟨o, its, m, q1, q2, _⟩
    · exact .base (.lst q)
    · exact .base (.frz q)
    · exact .kList (by rw [hk]; exact q1) q2
  | dic q _ r =>
    cases h
    rcases q with q | ⟨o, q⟩
    · exact .base (.dK q)
    · exact .fDict q
  | non => cases h
  | ref q => cases h
theorem cr_isiD (hk : X.K = G.K) (T : Ty) : CallR X (.builtin "isinstance") (fun xs H Q => ∃ x, xs = [x, .ty T.nm] ∧ rDU G (isiD T) x H Q) := by
  intro pins s σ H xs us Q I r ⟨x, ex, S, W, d, r', hs, n, hr, q⟩
  subst ex
  by_cases hn : ∃ t, tyOf d = some t
  · obtain ⟨t, ht⟩ := hn
    have e : isiD T d = some (.bl (isTy t T)) := by
      cases d <;> cases ht <;> rfl
    rw [e] at hr; cases hr
    exact call_isi pins s σ H _ us Q I r ⟨x, .ty T.nm, .type t.nm, .type T.nm, isTy t T, rfl, .ty _, tyX_of hk hs n ht, kit_tab _ _ _, q _ H W (.refl _) hs (.bl _)⟩
  · cases n with
    | non =>
      cases hr
      exact call_isi pins s σ H _ us Q I r ⟨.non, .ty T.nm, .type "NoneType", .type T.nm, false, rfl, .ty _, .base .non, kit_non _ _, q _ H W (.refl _) hs (.bl _)⟩
    | ref q => cases hr
    | bl b => exact absurd ⟨_, rfl⟩ hn
    | int b => exact absurd ⟨_, rfl⟩ hn
    | str b => exact absurd ⟨_, rfl⟩ hn
    | tup q r => exact absurd ⟨_, rfl⟩ hn
    | lst q r => exact absurd ⟨_, rfl⟩ hn
    | scr q r => exact absurd ⟨_, rfl⟩ hn
    | dic q _ r => exact absurd ⟨_, rfl⟩ hn
/-! repr -/
theorem shp_ok : ∀ (n : Nat) (d : D), shp n d = true → (py d).hasDict = false ∧ (py d).depth ≤ n := by
  have all (n : Nat) (ih : ∀ d : D, shp n d = true → (py d).hasDict = false ∧ (py d).depth ≤ n) : ∀ xs : List D, xs.all (shp n) = true → PyData.hasDictAll (pyL xs) = false ∧ PyData.depthAll (pyL xs) ≤ n := by
    intro xs
    induction xs with
    | nil => intro _; exact ⟨by simp [pyL, PyData.hasDictAll], by simp [pyL, PyData.depthAll]⟩
    | cons x xs ihx =>
      intro h
      rw [List.all_cons, Bool.and_eq_true] at h
      obtain ⟨a1, a2⟩ := ih x h.1
      obtain ⟨b1, b2⟩ := ihx h.2
      refine ⟨by simp [pyL, PyData.hasDictAll, a1, b1], ?_⟩
      simp only [pyL, PyData.depthAll]
      omega
  have flat : ∀ n d, (∀ xs, d ≠ .tup xs) → (∀ xs, d ≠ .lst xs) → (∀ xs, d ≠ .scr xs) → (py d).hasDict = false ∧ (py d).depth ≤ n := by
    intro n d h1 h2 h3
    cases d with
    | tup xs => exact absurd rfl (h1 xs)
    | lst xs => exact absurd rfl (h2 xs)
    | scr xs => exact absurd rfl (h3 xs)
    | _ => exact ⟨by simp [py, PyData.hasDict], by simp [py, PyData.depth]⟩
  intro n
  induction n with
  | zero =>
    intro d h
    cases d with
    | tup xs => simp [shp] at h
    | lst xs => simp [shp] at h
    | scr xs => simp [shp] at h
    | _ => exact flat 0 _ (fun _ z => nomatch z) (fun _ z => nomatch z) (fun _ z => nomatch z)
  | succ n ih =>
    intro d h
    cases d with
    | tup xs =>
      obtain ⟨a, b⟩ := all n ih xs (by simpa [shp] using h)
      exact ⟨by simpa [py, PyData.hasDict] using a, by simp only [py, PyData.depth]; omega⟩
    | lst xs =>
      obtain ⟨a, b⟩ := all n ih xs (by simpa [shp] using h)
      exact ⟨by simpa [py, PyData.hasDict] using a, by simp only [py, PyData.depth]; omega⟩
    | scr xs => simp [shp] at h
    | _ => exact flat _ _ (fun _ z => nomatch z) (fun _ z => nomatch z) (fun _ z => nomatch z)
theorem shp_dp {S : Store} {W : Wd} {H : Hp} (s : StR G S W H) : ∀ (n : Nat) {d : D} {v : V}, shp n d = true → Now G W H d v → Dp G.K H v (py d) := by
  have all (n : Nat) (ih : ∀ {d : D} {v : V}, shp n d = true → Now G W H d v → Dp G.K H v (py d)) : ∀ {xs : List D} {vs : List V}, xs.all (shp n) = true → RepL G.K W xs vs → DpAll G.K H vs (pyL xs) := by
    intro xs
    induction xs with
    | nil => intro vs _ r; cases r; unfold pyL; exact .nil
    | cons x xs ihx =>
      intro vs h r
      cases r with
      | cons r1 r2 =>
        rw [List.all_cons, Bool.and_eq_true] at h
        unfold pyL
        exact .cons (ih h.1 (r1.now s)) (ihx h.2 r2)
  intro n
  induction n with
  | zero =>
    intro d v h r
    cases r with
    | non => unfold py; exact .non
    | bl b => unfold py; exact .bl b
    | int i => unfold py; exact .int i
    | str x => unfold py; exact .str x
    | _ => simp [shp] at h
  | succ n ih =>
    intro d v h r
    cases r with
    | non => unfold py; exact .non
    | bl b => unfold py; exact .bl b
    | int i => unfold py; exact .int i
    | str x => unfold py; exact .str x
    | tup q r => unfold py; exact .tup (SqT.mo s.rd q) (all n ih (by simpa [shp] using h) r)
    | lst q r => unfold py; exact .lst (SqL.of q) (all n ih (by simpa [shp] using h) r)
    | _ => simp [shp] at h
theorem cr_reprD (hk : X.K = G.K) (gd : X.A.guards = some []) (hu : X.A.units + 64 < cLine) : CallR X (.builtin "repr") (rDN G reprD) := by
  intro pins s σ H xs us Q I r ⟨S, W, ds, d', hs, nl, hr, q⟩
  unfold reprD at hr
  split at hr <;> first | cases hr; done | skip
  rename_i d
  split at hr
  · rename_i hz
    cases hr
    rw [Bool.and_eq_true, Bool.and_eq_true, decide_eq_true_eq] at hz
    obtain ⟨⟨h1, h2⟩, h3⟩ := hz
    obtain ⟨v, rfl, n⟩ := nl.one rfl
    obtain ⟨u, rfl, ru⟩ := vals1 r
    have dp := shp_dp hs 40 h1 n
    obtain ⟨as, rd⟩ := Dp.reads I (py d) v u (by rw [hk]; exact dp) ru
    obtain ⟨k1, k2⟩ := shp_ok 40 d h1
    have fin : ∀ h' tk t, (∀ b o, s.heap.get? b = some o → h'.get? b = some o) → EP X pins σ Q (.str (py d).shown t) { s with heap := h', toks := tk } := fun h' tk t hk' =>
      ⟨.str (py d).shown, H, I.kept hk', ⟨_, rfl⟩, q _ H W (.refl _) hs (.str _)⟩
    have leaf : ∀ tk t, EP X pins σ Q (.str (py d).shown t) { s with toks := tk } := fun tk t => fin s.heap tk t fun _ _ e => e
    generalize hp : py d = p at rd h2 h3 k1 k2 fin leaf
    cases rd with
    | none => refine PySem.P.repr_of_none ?_; simpa [PyData.shown] using leaf _ _
    | bool b => refine PySem.P.repr_of_bool ?_; simpa [PyData.shown] using leaf _ _
    | int i t => refine PySem.P.repr_of_int (by simpa [PyData.showable] using h2) ?_; simpa [PyData.shown] using leaf _ _
    | str x t => refine PySem.P.repr_of_str ?_ (by simpa [PyData.shown] using h3); simpa [PyData.shown] using leaf _ _
    | list a1 a2 a3 a4 => exact repr_of_reads' (.list a1 a2 a3 a4) h2 (PyData.noDict_hsm k1) gd (by omega) (fun _ _ e => e) (fun h' t tk hk' => fin h' tk t hk') h3
    | tuple a1 a2 a3 a4 => exact repr_of_reads' (.tuple a1 a2 a3 a4) h2 (PyData.noDict_hsm k1) gd (by omega) (fun _ _ e => e) (fun h' t tk hk' => fin h' tk t hk') h3
    | dict a1 a2 a3 a4 a5 => simp [PyData.hasDict] at k1
  · cases hr
end
end Lt
set_option maxRecDepth 100000
set_option maxHeartbeats 4000000
namespace Lt
open PySem PySem.Spec PyProof.Rows L2

/-! ### a tuple from behind, a tuple once -/
theorem adjust_rev (n : Nat) : Builtin.Slice.sliceAdjust none none (-1) (n : Int) = ((n : Int) - 1, -1) := by
  simp [Builtin.Slice.sliceAdjust]
theorem places_rev (n : Nat) : Builtin.Slice.slicePlaces ((n : Int) - 1) (-1) (-1) = n := by
  unfold Builtin.Slice.slicePlaces
  rw [if_neg (by decide)]
  by_cases h : (n : Int) - 1 > -1
  · rw [if_pos h, show -(-1 : Int) = 1 by decide, Int.ediv_one]; omega
  · rw [if_neg h]; omega
theorem pick_rev (xs : Array Value) : (List.filterMap (fun (k : Nat) => xs[Int.toNat (((xs.size : Nat) : Int) - 1 + (k : Int) * (-1))]?) (List.range xs.size)) = xs.toList.reverse := by
  apply List.ext_getElem?
  intro i
  have e : (List.filterMap (fun (k : Nat) => xs[Int.toNat (((xs.size : Nat) : Int) - 1 + (k : Int) * (-1))]?) (List.range xs.size)) = (List.range xs.size).filterMap (fun k => (xs.toList.reverse)[k]?) := by
    have key : ∀ (l : List Nat), (∀ k ∈ l, k < xs.size) → (List.filterMap (fun (k : Nat) => xs[Int.toNat (((xs.size : Nat) : Int) - 1 + (k : Int) * (-1))]?) l) = l.filterMap (fun k => (xs.toList.reverse)[k]?) := by
      intro l
      induction l with
      | nil => intro _; rfl
      | cons k l ih =>
        intro h
        have hk' : k < xs.size := h k List.mem_cons_self
        have e1 : xs[Int.toNat (((xs.size : Nat) : Int) - 1 + (k : Int) * (-1))]? = (xs.toList.reverse)[k]? := by
          rw [List.getElem?_reverse (by simpa using hk')]
          simp only [Array.length_toList, Array.getElem?_toList]
          congr 1
          omega
        rw [List.filterMap_cons, List.filterMap_cons, e1, ih fun j hj => h j (List.mem_cons_of_mem _ hj)]
    exact key _ fun k hk => by simpa using hk
  rw [e]
  have e2 : ∀ (l : List Value), (List.range l.length).filterMap (fun k => l[k]?) = l := by
    intro l
    induction l with
    | nil => rfl
    | cons a l ih =>
      rw [List.length_cons, List.range_succ_eq_map, List.filterMap_cons]
      simp only [List.getElem?_cons_zero, List.filterMap_map]
      congr 1
  have := e2 xs.toList.reverse
  rw [List.length_reverse, Array.length_toList] at this
  rw [this]
theorem sliceApplied_rev {prog : Program} {w : World} {A : Around} {E : Value → Shared → Prop} {s : Shared} {sl : Addr} {u : Tok} {n : Nat} {Q : Int × Int × Nat → Shared → Prop}
    (h : Heap.IsSliceOf s.heap sl .none .none (.int (-1) u)) (q : Q ((n : Int) - 1, -1, n) s) : wpAny (model prog w) A (Builtin.Slice.sliceApplied (.ref sl) (pure (n : Int))) Q E s := by
  obtain ⟨o, h1, h2, h3⟩ := h
  unfold Builtin.Slice.sliceApplied Builtin.Slice.sliceFields
  refine wpAny_bind (wpAny_bind (wpAny_field h1 h3 rfl (wpAny_bind (wpAny_field h1 h3 rfl (wpAny_bind (wpAny_field h1 h3 rfl (wpAny_pure ?_)))))))
  refine wpAny_bind (HT.slicePart_ (.int (-1) u) ?_)
  refine wpAny_ite_false (by decide) ?_
  refine wpAny_bind (PyProof.Rows.slicePart_none (wpAny_bind (PyProof.Rows.slicePart_none (wpAny_bind (wpAny_pure ?_)))))
  show wpAny _ _ (match Builtin.Slice.sliceAdjust none none (-1) (n : Int) with | (lo, hi) => pure (lo, (-1 : Int), Builtin.Slice.slicePlaces lo hi (-1))) Q E s
  rw [adjust_rev]
  refine wpAny_pure ?_
  rw [places_rev]
  exact q
theorem getItem_tuple_rev {prog : Program} {w : World} {A : Around} {E : Value → Shared → Prop} {s : Shared} {t sl : Addr} {items : Array Value} {u : Tok} {Q : Value → Shared → Prop}
    (ht : IsTup s.heap t items) (hs : Heap.IsSliceOf s.heap sl .none .none (.int (-1) u))
    (q : Q (.ref s.heap.objs.size) { s with heap := s.heap.push { cls := .type "tuple", data := .seq items.toList.reverse.toArray } }) (hz : items.size ≤ sizeLine) : wpAny (model prog w) A (getItem (.ref t) (.ref sl)) Q E s := by
  unfold getItem
  refine wpAny_holding (wpAny_bind (wpAny_sequenceKey ht.typeIs (by decide) (wpAny_bind (wpAny_callSpecial?_slot ht.typeIs PyProof.Rows.slot_tuple_getitem ?_))))
  refine wpAny_call_entry PyProof.Rows.slot_tuple_getitem ht.typeIs PyProof.Rows.entry_tuple_getitem ?_ (PyProof.Rows.args_tuple_getitem _ _)
  unfold Builtin.«tuple.__getitem__»
  have hst : s.TypeIs (.ref sl) "slice" := by
    obtain ⟨o, h1, h2, h3⟩ := hs
    exact ⟨o, h1, h2⟩
  refine wpAny_bind (wpAny_of_eq (a := (.ref t, [.ref sl])) rfl ?_)
  refine wpAny_bind (PyProof.Rows.tupleItemsOf_ ht (wpAny_bind (wpAny_typeOf hst ?_)))
  rw [if_pos (by decide)]
  refine wpAny_bind (sliceApplied_rev (n := items.size) hs ?_)
  refine wpAny_ite_false (by simp) ?_
  unfold Builtin.Tuple.tupleExact
  rw [pick_rev]
  refine wpAny_bind (wpAny_newObj_type ?_ (by show (_ : Array Value).size ≤ sizeLine; simpa using hz))
  refine wpAny_pure ?_
  exact ⟨_, rfl, wpAny_pure q⟩
def tRevT (K : Kf) (te : TE) : TE := fun σ H Q => te σ H fun x H1 => ∃ a xs, x = .ref a ∧ SqT K H1 a xs ∧ ∀ p, H1 p = none → Q (.ref p) (upd H1 p (.tup xs.reverse))
theorem pe_revT {X : Cx} {e : Expr} {te : TE} {k : Nat} {p1 p2 p3 pos : Pos} (ha : PE X e te) : PE X (.Subscript e (.Slice none none (some (.UnaryOp .USub (.Constant (.int 1) k p1) p2)) p3) pos) (tRevT X.K te) := by
  refine ⟨fun pins s σ H Q I w => Subscript_ (thn (ha.run pins s σ H _ I w) fun v s1 hh => ?_)⟩
  obtain ⟨x, H1, I1, r1, a, xs, rfl, sq, q⟩ := hh
  have ev : v = .ref a := r1
  subst ev
  refine wpAny_Slice (thn (po_none.run pins s1 σ H1 (fun o H2 => o = none ∧ H2 = H1) I1 ⟨rfl, rfl⟩) fun l s2 h2 => ?_)
  obtain ⟨o, H2, I2, il, rfl, rfl⟩ := h2
  refine thn (po_none.run pins s2 σ H2 (fun o H3 => o = none ∧ H3 = H2) I2 ⟨rfl, rfl⟩) fun l2 s3 h3 => ?_
  obtain ⟨o3, H3, I3, il2, rfl, rfl⟩ := h3
  refine thn ((po_some (pe_un un_neg pe_int)).run pins s3 σ H3 (fun o H4 => o = some (-1) ∧ H4 = H3) I3 ⟨1, rfl, ⟨-1, rfl, rfl, rfl⟩⟩) fun st s4 h4 => ?_
  obtain ⟨o4, H4, I4, ist, rfl, rfl⟩ := h4
  cases il; cases il2; cases ist
  rename_i tk
  have hpush : ∀ b o', s4.heap.get? b = some o' → (s4.heap.push { cls := .type "slice", data := .fields #[.none, .none, .int (-1) tk] }).get? b = some o' := fun b o' e => Heap.get?_push_of_some _ e
  have I5 := I4.kept (t' := s4.toks) hpush
  obtain ⟨its, rv, it, hz⟩ := I5.tuple sq
  have hsl := Heap.IsSliceOf.new s4.heap .none .none (.int (-1) tk)
  refine tail_any it.typeIs PyProof.Rows.slot_tuple_getitem.lookup ?_ (ops := [.ref a, .ref s4.heap.objs.size]) rfl
  refine getItem_tuple_rev it hsl ?_ (by rw [List.size_toArray, ← rv.length]; exact hz)
  refine ⟨.ref _, upd H4 _ (.tup xs.reverse), ?_, rfl, q _ (I5.hok.fresh (Nat.le_refl _))⟩
  refine I5.laid (fun b u e => Heap.get?_push_of_some _ e) (Nat.le_refl _) ?_
  unfold ObjOk
  exact ⟨by simpa using hz, _, rv.reverse, IsTup.new _ _⟩
/-- xs[::-1] -/
def revD : D → Option D
  | .tup xs => some (.tup xs.reverse)
  | .lst xs => some (.lst xs.reverse)
  | .scr xs => some (.lst xs.reverse)
  | _ => none
section
variable {G : Gc} {Wx : WX} {X : Cx} {e e2 e3 : Expr} {es : List Expr} {f g h : EF} {a : AF} {pos : Pos}
theorem pe_revD {k : Nat} {p1 p2 p3 : Pos} (hk : X.K = G.K) (ha : PE X e (tE G Wx f)) : PE X (.Subscript e (.Slice none none (some (.UnaryOp .USub (.Constant (.int 1) k p1) p2)) p3) pos) (tE G Wx (pU revD f)) := by
  refine ⟨fun pins s σ H Q I ⟨env, S, W, hs, he, h⟩ => ?_⟩
  unfold pU at h
  cases hf : f env S with
  | bad => rw [hf] at h; exact False.elim h
  | exc c d S1 => rw [hf] at h; exact (pe_revL ha).run pins s σ H Q I ⟨env, S, W, hs, he, by rw [hf]; exact h⟩
  | ok d S1 =>
    rw [hf] at h
    have h : OutR G Wx W σ (Pe G W Q) (opt (revD (vw S1 d)) S1) := h
    obtain ⟨r, hr, q⟩ := opt_out h
    have lists : (∀ W1 H1 v, W.le W1 → StR G S1 W1 H1 → Now G W1 H1 (vw S1 d) v → ∃ a xs, v = .ref a ∧ SqL G.K H1 a xs ∧ ∃ ds, r = .lst ds ∧ RepL G.K W1 ds xs.reverse) → wpAny (model X.prog X.w) X.A (eval (.Subscript e (.Slice none none (some (.UnaryOp .USub (.Constant (.int 1) k p1) p2)) p3) pos) X.env) (EP X pins σ Q) X.xe s := fun hl => by
      refine (pe_revL ha).run pins s σ H Q I ⟨env, S, W, hs, he, ?_⟩
      rw [hf]
      intro v H1 W1 l1 s1 r1
      obtain ⟨a, xs, rfl, sq, ds, rfl, rl⟩ := hl W1 H1 v l1 s1 (r1.vw s1)
      refine ⟨a, xs, rfl, by rw [hk]; exact sq, fun p hp => ?_⟩
      obtain ⟨le, s2⟩ := s1.imm hp (.lst xs.reverse)
      exact q _ _ _ (l1.trans le) s2 (.lst upd_same (rl.mo le))
    generalize hd : vw S1 d = d' at hr lists
    cases d' with
    | tup xs =>
      cases hr
      refine (pe_revT ha).run pins s σ H Q I ⟨env, S, W, hs, he, ?_⟩
      rw [hf]
      intro v H1 W1 l1 s1 r1
      have n := r1.vw s1
      rw [hd] at n
      cases n with
      | @tup a vs _ q1 rl =>
        refine ⟨a, vs, rfl, by rw [hk]; exact SqT.mo s1.rd q1, fun p hp => ?_⟩
        obtain ⟨le, s2⟩ := s1.imm hp (.tup vs.reverse)
        exact q _ _ _ (l1.trans le) s2 (.tup (SqT.of upd_same) (rl.rev.mo le))
    | lst xs =>
      cases hr
      refine lists fun W1 H1 v l1 s1 n => ?_
      cases n with
      | @lst a vs _ q1 rl => exact ⟨a, vs, rfl, SqL.of q1, _, rfl, rl.rev⟩
    | scr xs =>
      cases hr
      refine lists fun W1 H1 v l1 s1 n => ?_
      cases n with
      | @scr a vs _ q1 rl => exact ⟨a, vs, rfl, SqL.mo s1.rd q1, _, rfl, rl.rev⟩
    | _ => cases hr

/-! ### chains of two comparisons -/
def chE (p q : D → D → Option D) (f g h : EF) : EF := fun env S => (f env S).bind fun a S1 => (g env S1).bind fun b S2 => match p (vw S2 a) (vw S2 b) with
  | some (.bl true) => (h env S2).bind fun c S3 => opt (q (vw S3 b) (vw S3 c)) S3
  | some (.bl false) => .ok (.bl false) S2
  | _ => .bad
theorem pe_chD {op op' : CmpOp} {p q : D → D → Option D} (ho : OpR X (compareOp op) (rDB G p)) (ho' : OpR X (compareOp op') (rDB G q)) (ha : PE X e (tE G Wx f)) (hb : PE X e2 (tE G Wx g)) (hc : PE X e3 (tE G Wx h)) (hm : lastMarks [op, op'] [e2, e3] = false) :
    PE X (.Compare e [op, op'] [e2, e3] pos) (tE G Wx (chE p q f g h)) :=
  (pe_chain ho ho' ha hb hc hm).imp fun σ H Q ⟨env, S, W, hs, he, o⟩ =>
    tE_mono (tE_e hs he o) fun v H1 ⟨S1, W1, d, l1, s1, e1, r1, o1⟩ =>
      tE_mono (tE_e s1 e1 o1) fun u H2 ⟨S2, W2, d2, l2, s2, e2', r2, o2⟩ => by
        cases hp : p (vw S2 d) (vw S2 d2) with
        | none => simp only [hp] at o2; exact False.elim o2
        | some r =>
          cases r with
          | bl k =>
            refine ⟨S2, W2, _, _, _, s2, (r1.mo l2).vw s2, r2.vw s2, hp, fun z H3 W3 l3 s3 r3 => ?_⟩
            cases r3
            refine ⟨k, rfl, ?_⟩
            cases k with
            | false =>
              simp only [hp] at o2
              exact o2 _ H3 W3 l3 s3 (.bl _)
            | true =>
              simp only [hp] at o2
              rw [if_pos rfl]
              refine tE_mono (tE_e s3 (e2'.mo l3) (o2.imp l3 fun _ _ z => Pe.mo l3 z)) fun x H4 ⟨S4, W4, d4, l4, s4, e4, r4, o4⟩ => ?_
              obtain ⟨r, hr, q⟩ := opt_out o4
              exact ⟨S4, W4, _, _, r, s4, ((r2.mo l3).mo l4).vw s4, r4.vw s4, hr, q⟩
          | _ => simp only [hp] at o2; exact False.elim o2
/-- as a test: by the value -/
theorem pt_chD {op op' : CmpOp} {p q : D → D → Option D} (hq : ∀ a b r, q a b = some r → ∃ k, r = .bl k) (ho : OpR X (compareOp op) (rDB G p)) (ho' : OpR X (compareOp op') (rDB G q)) (ha : PE X e (tE G Wx f)) (hb : PE X e2 (tE G Wx g)) (hc : PE X e3 (tE G Wx h)) (hm : lastMarks [op, op'] [e2, e3] = false) :
    PT X (.Compare e [op, op'] [e2, e3] pos) (tT G Wx (tst (chE p q f g h))) :=
  (pt_chain ho ho' ha hb hc hm).imp fun σ H Q ⟨env, S, W, hs, he, o⟩ => by
    have o2 : OutR G Wx W σ (Pt G W Q) ((f env S).bind fun a S1 => (g env S1).bind fun b S2 => match p (vw S2 a) (vw S2 b) with
        | some (.bl true) => (h env S2).bind fun c S3 => (opt (q (vw S3 b) (vw S3 c)) S3).bind fun a S1 => match truD (vw S1 a) with
          | some b => .ok b S1
          | none => .bad
        | some (.bl false) => .ok false S2
        | _ => .bad) := by
      unfold tst chE at o
      cases q1 : f env S with
      | exc c d S => rw [q1] at o; exact o
      | bad => rw [q1] at o; exact o
      | ok a S1 =>
        rw [q1] at o
        simp only [Res.bind] at o ⊢
        cases q2 : g env S1 with
        | exc c d S => rw [q2] at o; exact o
        | bad => rw [q2] at o; exact o
        | ok b S2 =>
          rw [q2] at o
          simp only [Res.bind] at o ⊢
          cases q3 : p (vw S2 a) (vw S2 b) with
          | none => simp only [q3] at o; exact False.elim o
          | some r =>
            cases r with
            | bl k =>
              cases k with
              | false => simp only [q3] at o ⊢; exact o
              | true =>
                simp only [q3] at o ⊢
                cases q4 : h env S2 with
                | exc c d S => rw [q4] at o; exact o
                | bad => rw [q4] at o; exact o
                | ok c S3 => rw [q4] at o; exact o
            | _ => simp only [q3] at o; exact False.elim o
    refine tE_mono (tE_t hs he o2) fun v H1 ⟨S1, W1, d, l1, s1, e1, r1, o1⟩ => ?_
    refine tE_mono (tE_t s1 e1 o1) fun u H2 ⟨S2, W2, d2, l2, s2, e2', r2, o2⟩ => ?_
    cases hp : p (vw S2 d) (vw S2 d2) with
    | none => simp only [hp] at o2; exact False.elim o2
    | some r =>
      cases r with
      | bl k =>
        refine ⟨S2, W2, _, _, _, s2, (r1.mo l2).vw s2, r2.vw s2, hp, fun z H3 W3 l3 s3 r3 => ?_⟩
        cases r3
        refine ⟨k, rfl, ?_⟩
        cases k with
        | false =>
          simp only [hp] at o2
          exact ⟨false, rfl, o2 H3 W3 l3 s3⟩
        | true =>
          simp only [hp] at o2
          rw [if_pos rfl]
          refine tE_mono (tE_t s3 (e2'.mo l3) (o2.imp l3 fun _ _ z => Pt.mo l3 z)) fun x H4 ⟨S4, W4, d4, l4, s4, e4, r4, o4⟩ => ?_
          cases hq2 : q (vw S4 d2) (vw S4 d4) with
          | none => rw [hq2] at o4; exact False.elim o4
          | some r =>
            rw [hq2] at o4
            obtain ⟨k, rfl⟩ := hq _ _ _ hq2
            refine ⟨S4, W4, _, _, _, s4, ((r2.mo l3).mo l4).vw s4, r4.vw s4, hq2, fun v H5 W5 l5 s5 r5 => ?_⟩
            cases r5
            exact ⟨k, rfl, o4 H5 W5 l5 s5⟩
      | _ => simp only [hp] at o2; exact False.elim o2

/-! ### xs.append(e), xs a list of the store -/
def cellL (S : Store) (d : D) : Option (Nat × List D) := match d with
  | .ref n => match S[n]? with
    | some (.lst xs) => some (n, xs)
    | _ => none
  | _ => none
def appE (f g : EF) : EF := fun env S => (f env S).bind fun o S1 => match cellL S1 o with
  | none => .bad
  | some _ => (g env S1).bind fun d S2 => match cellL S2 o with
    | some (n, xs) => if xs.length < sizeLine then .ok .non (S2.set n (.lst (xs ++ [d]))) else .bad
    | none => .bad
theorem cellL_ok {S : Store} {W : Wd} {H : Hp} {d : D} {v : V} {n : Nat} {xs : List D} (hs : StR G S W H) (r : Rep G.K W d v) (h : cellL S d = some (n, xs)) : ∃ a vs, d = .ref n ∧ S[n]? = some (.lst xs) ∧ v = .ref a ∧ W.μ[n]? = some a ∧ H a = some (.lst vs) ∧ RepL G.K W xs vs := by
  unfold cellL at h
  cases r with
  | @ref m a hm =>
    simp only at h
    cases hc : S[m]? with
    | none => rw [hc] at h; cases h
    | some c =>
      rw [hc] at h
      cases c with
      | lst ys =>
        cases h
        obtain ⟨a', ho, g1, g2, g3, g4⟩ := hs.live n _ hc (by simp)
        rw [hm] at g1; cases g1
        cases g4 with
        | lst rl => exact ⟨a, _, rfl, hc, rfl, hm, g3, rl⟩
      | _ => cases h
  | _ => cases h
theorem pe_appD {apos : Pos} (ha : PE X e (tE G Wx f)) (hb : PE X e2 (tE G Wx g)) (hba : attributeBase e "append" X.env (eval e X.env) = eval e X.env) (hs1 : starEach [e2] X.env = (false, eval e2 X.env) :: starEach [] X.env)
    (hfew : (((backTo pos (starEach [e2] X.env)).all (fun x => !x.1) && (backToKw pos (keywordEach [] X.env)).all (fun x => x.1.isSome)) && decide ((List.length [e2] + List.length ([] : List Keyword) + if List.isEmpty ([] : List Keyword) = true then 0 else 1) < 30)) = true)
    (hline : (apos.endLine == pos.line) = true) (hpl : (backTo pos (starEach [] X.env)).any (·.1) = false) :
    PE X (.Call (.Attribute e "append" apos) [e2] [] pos) (tE G Wx (appE f g)) :=
  (pe_bm PySem.F.plainAttrs_list PySem.F.slot_list_append PySem.F.type_list_append mt_append ha (pa_cons hb pa_nil hs1) hba hfew hline hs1 hpl).imp fun σ H Q ⟨env, S, W, hs, he, o⟩ =>
    tE_mono (tE_e hs he o) fun v H1 ⟨S1, W1, d, l1, s1, e1, r1, o1⟩ => by
      cases hc : cellL S1 d with
      | none => simp only [hc] at o1; exact False.elim o1
      | some p =>
        obtain ⟨n, xs⟩ := p
        simp only [hc] at o1
        obtain ⟨a, vs, rfl, hn, rfl, hm, hh, rl⟩ := cellL_ok s1 r1 hc
        refine ⟨.inl ⟨rfl, _, SqL.of hh⟩, tE_mono (tE_e s1 e1 o1) fun u H2 ⟨S2, W2, d2, l2, s2, e2', r2, o2⟩ => ?_⟩
        cases hc2 : cellL S2 (.ref n) with
        | none => simp only [hc2] at o2; exact False.elim o2
        | some p =>
          obtain ⟨n2, ys⟩ := p
          simp only [hc2] at o2
          obtain ⟨b, us, e9, hn2, e8, hm2, hh2, rl2⟩ := cellL_ok s2 (r1.mo l2) hc2
          cases e9; cases e8
          by_cases hz : ys.length < sizeLine
          · rw [if_pos hz] at o2
            refine ⟨a, us, u, rfl, rfl, hh2, by rw [← rl2.len]; exact hz, ?_⟩
            exact o2 _ _ W2 (.refl _) (s2.put hn2 (by simp) hm2 (.lst (rl2.app (.cons r2 .nil)))) .non
          · rw [if_neg hz] at o2; exact False.elim o2
end
end Lt
set_option maxRecDepth 100000
set_option maxHeartbeats 4000000
namespace Lt
open PySem PySem.Spec PyProof.Rows L2

/-! ### written dicts -/
def prsE : List (EF × EF) → SV → Store → Res (List (D × D))
  | [], _, S => .ok [] S
  | (f, g) :: r, env, S => (f env S).bind fun a S1 => (g env S1).bind fun b S2 => (prsE r env S2).bind fun l S3 => .ok ((a, b) :: l) S3
def keysD : List (D × D) → Option (List Key)
  | [] => some []
  | (k, _) :: r => (keyD k).bind fun a => (keysD r).map (a :: ·)
def mkDic (ps : List (D × D)) : Option D := (keysD ps).bind fun ks => if ks.Nodup ∧ ps.length ≤ 15 then some (.dic ks (ps.map (·.2))) else none
def dicE (fs : List (EF × EF)) : EF := fun env S => match prsE fs env S with
  | .ok ps S1 => opt (mkDic ps) S1
  | _ => .bad
inductive PrR (K : Kf) (W : Wd) : List (D × D) → List (V × V) → Prop
  | nil : PrR K W [] []
  | cons {a b : D} {x y : V} {ps : List (D × D)} {vs : List (V × V)} : Rep K W a x → Rep K W b y → PrR K W ps vs → PrR K W ((a, b) :: ps) ((x, y) :: vs)
theorem PrR.mo {K : Kf} {W W' : Wd} (l : W.le W') {ps : List (D × D)} {vs : List (V × V)} (h : PrR K W ps vs) : PrR K W' ps vs := by
  induction h with
  | nil => exact .nil
  | cons a b _ ih => exact .cons (a.mo l) (b.mo l) ih
section
variable {G : Gc} {Wx : WX} {X : Cx} {e e2 e3 : Expr} {f g h : EF} {pos : Pos}
theorem prs_pairs : ∀ (fs : List (EF × EF)) {σ : L2.St} {H : Hp} {Q : List (V × V) → Hp → Prop} {env : SV} {S : Store} {W : Wd}, StR G S W H → EnvR G.K W env σ →
    OutR G Wx W σ (fun ps S' => ∀ vs H' W', W.le W' → StR G S' W' H' → PrR G.K W' ps vs → Q vs H') (prsE fs env S) → tPairs (fs.map fun p => (tE G Wx p.1, tE G Wx p.2)) σ H Q
  | [], σ, H, Q, env, S, W, hs, he, o => o [] H W (.refl _) hs .nil
  | (f, g) :: r, σ, H, Q, env, S, W, hs, he, o => by
    have hP : ∀ {Q : List (V × V) → Hp → Prop} {W W' : Wd} {ps : List (D × D)} {S' : Store}, W.le W' → (∀ vs H' W2, W.le W2 → StR G S' W2 H' → PrR G.K W2 ps vs → Q vs H') → (∀ vs H' W2, W'.le W2 → StR G S' W2 H' → PrR G.K W2 ps vs → Q vs H') :=
      fun l z vs H' W2 l2 => z vs H' W2 (l.trans l2)
    show tE G Wx f σ H fun x H1 => tE G Wx g σ H1 fun y H2 => tPairs (r.map fun p => (tE G Wx p.1, tE G Wx p.2)) σ H2 fun ps H3 => Q ((x, y) :: ps) H3
    refine tE_mono (tE_then (P := fun W ps S' => ∀ vs H' W2, W.le W2 → StR G S' W2 H' → PrR G.K W2 ps vs → Q vs H') (fun l z => hP l z) hs he o) fun x H1 ⟨S1, W1, d, l1, s1, e1, r1, o1⟩ => ?_
    refine tE_mono (tE_then (P := fun W ps S' => ∀ vs H' W2, W.le W2 → StR G S' W2 H' → PrR G.K W2 ps vs → Q vs H') (fun l z => hP l z) s1 e1 o1) fun y H2 ⟨S2, W2, d2, l2, s2, e2', r2, o2⟩ => ?_
    refine prs_pairs r s2 e2' (o2.bind.imp (.refl _) fun ps S3 o3 vs H3 W3 l3 s3 r3 => ?_)
    exact o3 _ H3 W3 l3 s3 (.cons ((r1.mo l2).mo l3) (r2.mo l3) r3)
theorem putK_new {kvs : List (Key × V)} {k : Key} {v : V} (h : k ∉ kvs.map (·.1)) : putK kvs k v = kvs ++ [(k, v)] := by
  unfold putK
  rw [if_neg]
  intro q
  rw [List.any_eq_true] at q
  obtain ⟨x, h1, h2⟩ := q
  exact h (List.mem_map.mpr ⟨x, h1, by simpa using h2⟩)
theorem merge_new : ∀ (kvs acc : List (Key × V)), (acc.map (·.1) ++ kvs.map (·.1)).Nodup → mergeK acc kvs = acc ++ kvs
  | [], acc, _ => by unfold mergeK; simp
  | (k, v) :: r, acc, h => by
    have h1 : k ∉ acc.map (·.1) := by
      intro q
      rw [List.nodup_append] at h
      exact h.2.2 k q k (by simp) rfl
    have e : mergeK acc ((k, v) :: r) = mergeK (putK acc k v) r := rfl
    rw [e, putK_new h1, merge_new r _ (by simpa using h)]
    simp
theorem keys_ok : ∀ {ps : List (D × D)} {vs : List (V × V)} {ks : List Key} {W : Wd} {H : Hp} {S : Store}, StR G S W H → PrR G.K W ps vs → keysD ps = some ks → vs = (ks.zip (vs.map (·.2))).map (fun kv => (kV kv.1, kv.2)) ∧ ks.length = ps.length ∧ RepL G.K W (ps.map (·.2)) (vs.map (·.2))
  | _, _, ks, W, H, S, hs, .nil, e => by cases e; exact ⟨rfl, rfl, .nil⟩
  | _, _, ks, W, H, S, hs, .cons (a := a) (b := b) (x := x) (y := y) (ps := ps) (vs := vs) r1 r2 r3, e => by
    unfold keysD at e
    cases hk : keyD a with
    | none => rw [hk] at e; cases e
    | some k =>
      rw [hk] at e
      cases hks : keysD ps with
      | none => rw [hks] at e; cases e
      | some ks' =>
        rw [hks] at e; cases e
        obtain ⟨h1, h2, h3⟩ := keys_ok hs r3 hks
        have hx : x = kV k := keyD_V (r1.now hs) hk
        refine ⟨?_, by simp [h2], .cons r2 h3⟩
        rw [List.map_cons, List.zip_cons_cons, List.map_cons, ← h1, hx]
theorem pe_dicD {keys : List (Option Expr)} {values : List Expr} {fs : List (EF × EF)} (h : PPs X pos keys values (fs.map fun p => (tE G Wx p.1, tE G Wx p.2))) (hall : keys.all (·.isSome) = true) (hl : keys.length = values.length) (h0 : keys ≠ []) (h15 : keys.length ≤ 15) :
    PE X (.Dict keys values pos) (tE G Wx (dicE fs)) :=
  (pe_disp h hall hl h0 h15).imp fun σ H Q ⟨env, S, W, hs, he, o⟩ p hp => by
    have hzp := hs.zt p hp
    have hmp : p ∉ W.μ := fun z => hs.th p z hp
    have hFp : W.F p = none := by
      cases q : W.F p with
      | none => rfl
      | some u => have := (hs.fr p u q).1; rw [hp] at this; cases this
    have s0 : StR G S ⟨W.Z, W.μ, upd W.F p (.dK [])⟩ (upd H p (.dK [])) := (hs.junk hp (.dK [])).watch upd_same hzp hmp
    have e0 : EnvR G.K ⟨W.Z, W.μ, upd W.F p (.dK [])⟩ env σ := ⟨he.1, fun j d e => let ⟨v, h1, h2⟩ := he.2 j d e; ⟨v, h1, h2.ms (W := W) (W' := ⟨W.Z, W.μ, upd W.F p (.dK [])⟩) ⟨fun _ _ h => h, [], by simp⟩⟩⟩
    unfold dicE at o
    cases hp2 : prsE fs env S with
    | exc c d S1 => rw [hp2] at o; exact False.elim o
    | bad => rw [hp2] at o; exact False.elim o
    | ok ps S1 =>
      rw [hp2] at o
      obtain ⟨r, hr, q⟩ := opt_out o
      refine prs_pairs fs s0 e0 ?_
      rw [hp2]
      intro vs H1 W1 l1 s1 r1
      have ef : W1.F = upd W.F p (.dK []) := l1.f
      obtain ⟨Z1, μ1, F1⟩ := W1
      simp only at ef
      subst ef
      obtain ⟨f1, f2, f3⟩ := s1.fr p (.dK []) (by show upd W.F p (.dK []) p = _; rw [upd_same])
      unfold mkDic at hr
      cases hks : keysD ps with
      | none => rw [hks] at hr; cases hr
      | some ks =>
        rw [hks] at hr
        have hr' : (if ks.Nodup ∧ ps.length ≤ 15 then some (D.dic ks (ps.map (·.2))) else none) = some r := hr
        by_cases hc : ks.Nodup ∧ ps.length ≤ 15
        · rw [if_pos hc] at hr'; cases hr'
          obtain ⟨h1, h2, h3⟩ := keys_ok s1 r1 hks
          have hl3 := h3.len
          have hlen : ks.length = (vs.map (·.2)).length := by rw [h2]; simpa using hl3
          refine ⟨f1, ks.zip (vs.map (·.2)), h1, by simp [List.length_zip, ← hlen, h2]; omega, ?_⟩
          have hm : mergeK [] (ks.zip (vs.map (·.2))) = ks.zip (vs.map (·.2)) := by
            rw [merge_new _ _ (by rw [List.map_fst_zip (Nat.le_of_eq hlen)]; simpa using hc.1)]
            simp
          rw [hm]
          have su : StR G S1 ⟨Z1, μ1, W.F⟩ (upd H1 p (.dK (ks.zip (vs.map (·.2))))) := s1.unwatch (p := p) (by show upd W.F p (.dK []) p ≠ none; rw [upd_same]; simp) (fun q u h => upd_of hFp h)
          have sw : StR G S1 ⟨Z1, μ1, upd W.F p (.dK (ks.zip (vs.map (·.2))))⟩ (upd H1 p (.dK (ks.zip (vs.map (·.2))))) := su.watch upd_same f2 f3
          have sk : StR G S1 ⟨upd Z1 p (.dK (ks.zip (vs.map (·.2)))), μ1, W.F⟩ (upd H1 p (.dK (ks.zip (vs.map (·.2))))) := sw.keep upd_same fun q u h => upd_of hFp h
          have l2 : Wd.sub ⟨Z1, μ1, upd W.F p (.dK [])⟩ ⟨upd Z1 p (.dK (ks.zip (vs.map (·.2)))), μ1, W.F⟩ := ⟨fun q u h => by
            have h' : Z1 q = some u := h
            have f2' : Z1 p = none := f2
            have hq : q ≠ p := by rintro rfl; rw [h'] at f2'; cases f2'
            show upd Z1 p _ q = some u
            rw [upd_ne hq]; exact h', [], by simp⟩
          have l3 : W.le ⟨upd Z1 p (.dK (ks.zip (vs.map (·.2)))), μ1, W.F⟩ := ⟨rfl, fun q u h => l2.z q u (l1.z q u h), l1.m⟩
          exact q _ _ _ l3 sk (.dic upd_same (by rw [h2]; simp) (h3.ms l2))
        · rw [if_neg hc] at hr'; cases hr'
theorem pps_nilD : PPs X pos [] [] (([] : List (EF × EF)).map fun p => (tE G Wx p.1, tE G Wx p.2)) := pps_nil
theorem pps_consD {ks : List (Option Expr)} {vs : List Expr} {fs : List (EF × EF)} (ha : PE X e (tE G Wx f)) (hb : PE X e2 (tE G Wx g)) (hr : PPs X pos ks vs (fs.map fun p => (tE G Wx p.1, tE G Wx p.2))) :
    PPs X pos (some e :: ks) (e2 :: vs) (((f, g) :: fs).map fun p => (tE G Wx p.1, tE G Wx p.2)) := pps_cons ha hb hr
theorem pe_dic0 : PE X (.Dict [] [] pos) (tE G Wx (cst (.dic [] []))) :=
  pe_dnewK.imp fun σ H Q ⟨env, S, W, hs, he, o⟩ p hp => by
    obtain ⟨le, s2⟩ := hs.imm hp (.dK [])
    exact o _ _ _ le s2 (.dic (vs := []) upd_same rfl .nil)
/-- {} as a cell -/
def dicM : EF := fun env S => .ok (.ref S.length) (S ++ [.dic [] []])
theorem pe_dicM : PE X (.Dict [] [] pos) (tE G Wx dicM) :=
  pe_dnewK.imp fun σ H Q ⟨env, S, W, hs, he, o⟩ p hp => by
    obtain ⟨le, s2⟩ := hs.new hp (.dic (vs := []) (ks := []) (ds := []) rfl .nil)
    exact o _ _ _ le s2 (.ref (by simp [← hs.len]))

/-! ### d.get(k, e), d.get(k) -/
def dgetD (d k : D) : Option (Option D) := match d with
  | .dic ks vs => (keyD k).map fun x => dget ks vs x
  | _ => none
def get2E (f g h : EF) : EF := fun env S => (f env S).bind fun d S1 => if isDic (vw S1 d) = true then (g env S1).bind fun k S2 => (h env S2).bind fun z S3 => match dgetD (vw S3 d) (vw S3 k) with
    | some (some y) => .ok y S3
    | some none => .ok z S3
    | none => .bad
  else .bad
def get1E (f g : EF) : EF := fun env S => (f env S).bind fun d S1 => if isDic (vw S1 d) = true then (g env S1).bind fun k S2 => match dgetD (vw S2 d) (vw S2 k) with
    | some (some y) => .ok y S2
    | some none => .ok .non S2
    | none => .bad
  else .bad
theorem isDic_V {W : Wd} {H : Hp} {d : D} {v : V} (n : Now G W H d v) (h : isDic d = true) : ∃ a, v = .ref a ∧ IsD H a := by
  cases n with
  | dic q _ _ => exact ⟨_, rfl, .inl ⟨_, q⟩⟩
  | _ => cases h
theorem dgetD_V {W : Wd} {H : Hp} {d k : D} {v y : V} {r : Option D} (n : Now G W H d v) (n2 : Now G W H k y) (h : dgetD d k = some r) : ∃ a o, v = .ref a ∧ DGet H a y o ∧ (match r with | some x => ∃ u, o = some u ∧ Rep G.K W x u | none => o = none) := by
  cases n with
  | dic hH hl rl =>
    unfold dgetD at h
    cases hk : keyD k with
    | none => simp only [hk] at h; cases h
    | some x =>
      simp only [hk, Option.map_some, Option.some.injEq] at h
      obtain ⟨g1, g2⟩ := dget_V (k := x) hl rl
      cases r with
      | some d0 =>
        obtain ⟨u, h1, h2⟩ := g1 d0 h
        exact ⟨_, some u, rfl, .inl ⟨_, x, hH, keyD_V n2 hk, h1.symm⟩, u, rfl, h2⟩
      | none => exact ⟨_, none, rfl, .inl ⟨_, x, hH, keyD_V n2 hk, (g2 h).symm⟩, rfl⟩
  | _ => cases h
theorem pe_get2D {apos : Pos} (hu : X.A.units + 1 < cLine) (ha : PE X e (tE G Wx f)) (hb : PE X e2 (tE G Wx g)) (hc : PE X e3 (tE G Wx h)) (hm : M2 X e "get" apos e2 e3 pos) : PE X (.Call (.Attribute e "get" apos) [e2, e3] [] pos) (tE G Wx (get2E f g h)) :=
  (pe_dget2 hu ha hb hc hm).imp fun σ H Q ⟨env, S, W, hs, he, o⟩ =>
    tE_mono (tE_e hs he o) fun v H1 ⟨S1, W1, d, l1, s1, e1, r1, o1⟩ => by
      by_cases hd : isDic (vw S1 d) = true
      · rw [if_pos hd] at o1
        obtain ⟨a, rfl, isd⟩ := isDic_V (r1.vw s1) hd
        refine ⟨a, rfl, isd, tE_mono (tE_e s1 e1 o1) fun u H2 ⟨S2, W2, d2, l2, s2, e2', r2, o2⟩ => tE_mono (tE_e s2 e2' o2) fun z H3 ⟨S3, W3, d3, l3, s3, e3', r3, o3⟩ => ?_⟩
        cases q : dgetD (vw S3 d) (vw S3 d2) with
        | none => simp only [q] at o3; exact False.elim o3
        | some r =>
          obtain ⟨b, oo, eb, dg, hr⟩ := dgetD_V (((r1.mo l2).mo l3).vw s3) ((r2.mo l3).vw s3) q
          cases eb
          cases r with
          | some x =>
            simp only [q] at o3
            obtain ⟨u2, rfl, ru⟩ := hr
            exact ⟨_, dg, o3 _ H3 W3 (.refl _) s3 ru⟩
          | none =>
            simp only [q] at o3
            cases hr
            exact ⟨_, dg, o3 _ H3 W3 (.refl _) s3 r3⟩
      · rw [if_neg hd] at o1; exact False.elim o1
theorem pe_get1D {apos : Pos} (hu : X.A.units + 1 < cLine) (ha : PE X e (tE G Wx f)) (hb : PE X e2 (tE G Wx g)) (hm : M1 X e "get" apos e2 pos) : PE X (.Call (.Attribute e "get" apos) [e2] [] pos) (tE G Wx (get1E f g)) :=
  (pe_dget1 hu ha hb hm).imp fun σ H Q ⟨env, S, W, hs, he, o⟩ =>
    tE_mono (tE_e hs he o) fun v H1 ⟨S1, W1, d, l1, s1, e1, r1, o1⟩ => by
      by_cases hd : isDic (vw S1 d) = true
      · rw [if_pos hd] at o1
        obtain ⟨a, rfl, isd⟩ := isDic_V (r1.vw s1) hd
        refine ⟨a, rfl, isd, tE_mono (tE_e s1 e1 o1) fun u H2 ⟨S2, W2, d2, l2, s2, e2', r2, o2⟩ => ?_⟩
        cases q : dgetD (vw S2 d) (vw S2 d2) with
        | none => simp only [q] at o2; exact False.elim o2
        | some r =>
          obtain ⟨b, oo, eb, dg, hr⟩ := dgetD_V ((r1.mo l2).vw s2) (r2.vw s2) q
          cases eb
          cases r with
          | some x =>
            simp only [q] at o2
            obtain ⟨u2, rfl, ru⟩ := hr
            exact ⟨_, dg, o2 _ H2 W2 (.refl _) s2 ru⟩
          | none =>
            simp only [q] at o2
            cases hr
            exact ⟨_, dg, o2 _ H2 W2 (.refl _) s2 .non⟩
      · rw [if_neg hd] at o1; exact False.elim o1
/-! ### a dict of the written part, by a text -/
def kixE (tb : List (Str × D)) (f : EF) : EF := fun env S => (f env S).bind fun k S1 => match k with
  | .str z => opt (tb.lookup z) S1
  | _ => .bad
/-- what the written dict at a tells -/
def KTab (G : Gc) (w : World) (a : Addr) (tb : List (Str × D)) : Prop := ∀ z d, tb.lookup z = some d → ∃ v, KDct G.K w a z v ∧ ∀ W, Rep G.K W d v
theorem pe_kixD {tb : List (Str × D)} {a : Addr} (hk : X.K = G.K) (hp : PlainIx e2) (ha : PE X e (tC (.ref a))) (hb : PE X e2 (tE G Wx g)) (ht : KTab G X.w a tb) : PE X (.Subscript e e2 pos) (tE G Wx (kixE tb g)) :=
  (pe_ix ix_kdict ha hb hp).imp fun σ H Q ⟨env, S, W, hs, he, o⟩ =>
    tE_mono (tE_e hs he o) fun v H1 ⟨S1, W1, d, l1, s1, e1, r1, o1⟩ => by
      cases r1 with
      | str z =>
        obtain ⟨r, hr, q⟩ := opt_out o1
        obtain ⟨v, h1, h2⟩ := ht z r hr
        exact ⟨a, z, v, rfl, rfl, by rw [hk]; exact h1, q _ H1 W1 (.refl _) s1 (h2 _)⟩
      | _ => exact False.elim o1
end
end Lt
set_option maxRecDepth 100000
set_option maxHeartbeats 4000000
namespace Lt
open PySem PySem.Spec PyProof.Rows L2

/-! ### tuple * n where nothing is new -/
theorem tuple_mulSame (l : Addr) (items : Array Value) (n : Nat) (dd : Option Addr) (sl : Array (Option Value)) (x : Int) (u : Tok)
    (c0 : (decide (x < -2 ^ 63) || decide (x ≥ 2 ^ 63)) = false) (c1 : (items.isEmpty || x == 1) = true) :
    Meets (Builtin.«tuple.__mul__» { pos := [.ref l, .int x u] }) fun x_1 R s =>
      s.heap.get? l = some { cls := .type "tuple", dict := dd, data := .seq items n, slots := sl } ∧ R (.ok (.ret (.ref l))) s :=
  Meets.of_wp fun prog w A R s h => by
    obtain ⟨hp, g, d, tk, os⟩ := s
    obtain ⟨hl, h⟩ := h
    have f1 := AutoSeq1.idx_int
    have c0' : ¬((decide (x < -2 ^ 63) || decide (x ≥ 2 ^ 63)) = true) := by rw [c0]; exact Bool.false_ne_true
    refine wpAny_bind (m := asIndex (.int x u)) ?_
    refine wpAny_of_eq (a := x) rfl ?_
    refine wpAny_ite_false (decide_eq_false c0') ?_
    refine wpAny_bind (m := Builtin.Tuple.tupleItemsOf (.ref l)) ?_
    refine PyProof.Rows.tupleItemsOf_ (t := l) (items := items) ⟨_, hl, rfl, n, rfl⟩ ?_
    have ht : Shared.TypeIs ⟨hp, g, d, tk, os⟩ (.ref l) "tuple" := ⟨_, hl, rfl⟩
    refine wpAny_ite_true (by simpa using c1) ?_
    refine wpAny_bind (wpAny_bind (wpAny_typeOf ht (wpAny_pure ?_)))
    refine wpAny_ite_true (by simp) ?_
    exact wpAny_bind (wpAny_rule (wpAny_pure ⟨_, rfl, h⟩))
theorem tuple_mulNo (l : Addr) (items : Array Value) (n : Nat) (dd : Option Addr) (sl : Array (Option Value)) (x : Int) (u : Tok)
    (c0 : (decide (x < -2 ^ 63) || decide (x ≥ 2 ^ 63)) = false) (c1 : (items.isEmpty || x == 1) = false) (c2 : x ≤ 0) :
    Meets (Builtin.«tuple.__mul__» { pos := [.ref l, .int x u] }) fun x_1 R s =>
      s.heap.get? l = some { cls := .type "tuple", dict := dd, data := .seq items n, slots := sl } ∧ R (.ok (.ret (.ref s.heap.objs.size))) { s with heap := s.heap.push { cls := .type "tuple", data := .seq #[] } } :=
  Meets.of_wp fun prog w A R s h => by
    obtain ⟨hp, g, d, tk, os⟩ := s
    obtain ⟨hl, h⟩ := h
    have f1 := AutoSeq1.idx_int
    have c0' : ¬((decide (x < -2 ^ 63) || decide (x ≥ 2 ^ 63)) = true) := by rw [c0]; exact Bool.false_ne_true
    refine wpAny_bind (m := asIndex (.int x u)) ?_
    refine wpAny_of_eq (a := x) rfl ?_
    refine wpAny_ite_false (decide_eq_false c0') ?_
    refine wpAny_bind (m := Builtin.Tuple.tupleItemsOf (.ref l)) ?_
    refine PyProof.Rows.tupleItemsOf_ (t := l) (items := items) ⟨_, hl, rfl, n, rfl⟩ ?_
    refine wpAny_ite_false (by simp [c1]) ?_
    refine wpAny_ite_true (by simp [c2]) ?_
    unfold Builtin.Tuple.tupleExact
    refine wpAny_bind (wpAny_newObj_type ?_ (by show (#[] : Array Value).size ≤ sizeLine; simp))
    exact wpAny_pure ⟨_, rfl, h⟩
section
variable {X : Cx}
theorem op_repSame : OpR X (binaryOp .Mult) (fun x y H Q => ∃ l k xs, x = .ref l ∧ y = .int k ∧ SqT X.K H l xs ∧ (xs = [] ∨ k = 1) ∧ -(2 ^ 63) ≤ k ∧ k < 2 ^ 63 ∧ Q (.ref l) H) := by
  intro pins s σ H x y v u Q I rx ry ⟨l, k, xs, ex, ey, sq, hc, k1, k2, q⟩
  subst ex ey
  cases rx
  obtain ⟨t, rfl⟩ := ry
  obtain ⟨its, rv, it, hz⟩ := I.tuple sq
  have it0 := it
  obtain ⟨o, h1, h2, n, h3⟩ := it0
  obtain ⟨oc, od, odat, osl⟩ := o
  simp only at h2 h3
  subst h2 h3
  have c0 : (decide (k < -2 ^ 63) || decide (k ≥ 2 ^ 63)) = false := by
    rw [Bool.or_eq_false_iff]
    exact ⟨decide_eq_false (by omega), decide_eq_false (by omega)⟩
  have c1 : (its.toArray.isEmpty || k == 1) = true := by
    rcases hc with rfl | rfl
    · have : its = [] := List.eq_nil_of_length_eq_zero (by rw [← rv.length]; rfl)
      subst this; rfl
    · simp
  refine wpAny_binaryOp_repeat_ref (by decide) it.typeIs (fun s' => typeIs_int s' k t) noFill_tuple_mul PySem.F.fills_int_mul PySem.F.slot_int_rmul repeat_tuple PySem.F.slot_int_index.lookup ?_
  refine call_meets PySem.F.slot_int_rmul (typeIs_int s k t) PySem.F.entry_int_rmul (PySem.F.args_int_rmul_2 _ _) (int_rmul_tuple k t l _ _ _ _) ⟨h1, ?_⟩
  refine ⟨rfl, it.typeIs, ?_⟩
  refine call_meets PySem.F.slot_tuple_mul it.typeIs PySem.F.entry_tuple_mul (PySem.F.args_tuple_mul_2 _ _) (tuple_mulSame l _ _ _ _ k t c0 c1) ⟨h1, ?_⟩
  exact ⟨.ref l, H, I, rfl, q⟩
theorem op_repNo : OpR X (binaryOp .Mult) (fun x y H Q => ∃ l k xs, x = .ref l ∧ y = .int k ∧ SqT X.K H l xs ∧ xs ≠ [] ∧ -(2 ^ 63) ≤ k ∧ k ≤ 0 ∧ ∀ p, H p = none → Q (.ref p) (upd H p (.tup []))) := by
  intro pins s σ H x y v u Q I rx ry ⟨l, k, xs, ex, ey, sq, hc, k1, k2, q⟩
  subst ex ey
  cases rx
  obtain ⟨t, rfl⟩ := ry
  obtain ⟨its, rv, it, hz⟩ := I.tuple sq
  have it0 := it
  obtain ⟨o, h1, h2, n, h3⟩ := it0
  obtain ⟨oc, od, odat, osl⟩ := o
  simp only at h2 h3
  subst h2 h3
  have c0 : (decide (k < -2 ^ 63) || decide (k ≥ 2 ^ 63)) = false := by
    rw [Bool.or_eq_false_iff]
    exact ⟨decide_eq_false (by omega), decide_eq_false (by omega)⟩
  have c1 : (its.toArray.isEmpty || k == 1) = false := by
    rw [Bool.or_eq_false_iff]
    refine ⟨?_, by simp; omega⟩
    cases its with
    | nil => exact absurd (List.eq_nil_of_length_eq_zero rv.length) hc
    | cons a b => rfl
  refine wpAny_binaryOp_repeat_ref (by decide) it.typeIs (fun s' => typeIs_int s' k t) noFill_tuple_mul PySem.F.fills_int_mul PySem.F.slot_int_rmul repeat_tuple PySem.F.slot_int_index.lookup ?_
  refine call_meets PySem.F.slot_int_rmul (typeIs_int s k t) PySem.F.entry_int_rmul (PySem.F.args_int_rmul_2 _ _) (int_rmul_tuple k t l _ _ _ _) ⟨h1, ?_⟩
  refine ⟨rfl, it.typeIs, ?_⟩
  refine call_meets PySem.F.slot_tuple_mul it.typeIs PySem.F.entry_tuple_mul (PySem.F.args_tuple_mul_2 _ _) (tuple_mulNo l _ _ _ _ k t c0 c1 k2) ⟨h1, ?_⟩
  refine ⟨.ref _, upd H _ (.tup []), ?_, rfl, q _ (I.hok.fresh (Nat.le_refl _))⟩
  refine I.laid (fun b u e => Heap.get?_push_of_some _ e) (Nat.le_refl _) ?_
  unfold ObjOk
  exact ⟨by simp, [], .nil, IsTup.new _ _⟩
/-- a tuple beside the empty one -/
theorem op_eqT0 (hu : X.A.units + 64 < cLine) : OpR X (compareOp .Eq) (fun x y H Q => ∃ l k xs, x = .ref l ∧ y = .ref k ∧ SqT X.K H l xs ∧ SqT X.K H k [] ∧ Q (.bl xs.isEmpty) H) := by
  intro pins s σ H x y v u Q I rx ry ⟨l, k, xs, ex, ey, sq, sq2, q⟩
  subst ex ey
  cases rx
  cases ry
  obtain ⟨its, rv, it, hz⟩ := I.tuple sq
  obtain ⟨its2, rv2, it2, hz2⟩ := I.tuple sq2
  cases rv2
  have it0 := it
  have it20 := it2
  obtain ⟨o, h1, h2, n, h3⟩ := it0
  obtain ⟨o2, h12, h22, n2, h32⟩ := it20
  obtain ⟨oc, od, odat, osl⟩ := o
  obtain ⟨oc2, od2, odat2, osl2⟩ := o2
  simp only at h2 h3 h22 h32
  subst h2 h3 h22 h32
  refine wpAny_richCompare_same_or (op := .Eq) it.typeIs it2.typeIs PySem.F.slot_tuple_eq ?_ (.inr (by omega))
  refine call_meets PySem.F.slot_tuple_eq it.typeIs PySem.F.entry_tuple_eq (PySem.F.args_tuple_eq_2 _ _) (SeqAt.tuple_eqAt l k _ _ _ _ _ _ _ _ (fun _ => true)) ⟨h1, h12, fun j g1 g2 => absurd g2 (by simp), ?_⟩
  refine ⟨by simp, .bl xs.isEmpty, H, I, ?_, q⟩
  have e : (its.toArray.size == ([] : List Value).toArray.size) = xs.isEmpty := by
    rw [List.size_toArray, ← rv.length]
    cases xs <;> rfl
  show _ = Value.bool xs.isEmpty
  rw [e]
  simp
/-! ### dispatch -/
def mulDD : D → D → Option D
  | .tup xs, .int k => if -(2 ^ 63) ≤ k ∧ k < 2 ^ 63 then (if xs.isEmpty = true ∨ k = 1 then some (.tup xs) else if k ≤ 0 then some (.tup []) else if k ≤ 1000 ∧ xs.length ≤ 1000 then some (.tup (List.replicate k.toNat xs).flatten) else none) else none
  | a, b => mulD a b
def eqDD : D → D → Option D
  | .tup xs, .tup ys => if ys.isEmpty = true then some (.bl xs.isEmpty) else eqD (.tup xs) (.tup ys)
  | a, b => eqD a b
variable {G : Gc}
theorem op_mulDD (hk : X.K = G.K) : OpR X (binaryOp .Mult) (rDB G mulDD) := by
  intro pins s σ H x y v u Q I rx ry ⟨S, W, d, e, r, hs, nd, ne, hr, q⟩
  have old : mulD d e = some r → wpAny (model X.prog X.w) X.A (binaryOp .Mult v u) (EP X pins σ Q) X.xe s := fun h => op_mulD hk pins s σ H x y v u Q I rx ry ⟨S, W, d, e, r, hs, nd, ne, h, q⟩
  cases nd with
  | tup h r1 =>
    rename_i a vs ds
    cases ne with
    | int k =>
      have hr' : (if -(2 ^ 63) ≤ k ∧ k < 2 ^ 63 then (if ds.isEmpty = true ∨ k = 1 then some (D.tup ds) else if k ≤ 0 then some (.tup []) else if k ≤ 1000 ∧ ds.length ≤ 1000 then some (.tup (List.replicate k.toNat ds).flatten) else none) else none) = some r := hr
      by_cases h1 : -(2 ^ 63) ≤ k ∧ k < 2 ^ 63
      · rw [if_pos h1] at hr'
        by_cases h2 : ds.isEmpty = true ∨ k = 1
        · rw [if_pos h2] at hr'; cases hr'
          refine op_repSame pins s σ H _ _ v u Q I rx ry ⟨_, _, vs, rfl, rfl, by rw [hk]; exact SqT.mo hs.rd h, h2.imp (fun z => ?_) id, h1.1, h1.2, q _ H W (.refl _) hs (.tup h r1)⟩
          cases r1 with
          | nil => rfl
          | cons _ _ => simp at z
        · rw [if_neg h2] at hr'
          have hne : vs ≠ [] := fun z => by subst z; cases r1; exact h2 (.inl rfl)
          by_cases h3 : k ≤ 0
          · rw [if_pos h3] at hr'; cases hr'
            refine op_repNo pins s σ H _ _ v u Q I rx ry ⟨_, _, vs, rfl, rfl, by rw [hk]; exact SqT.mo hs.rd h, hne, h1.1, h3, fun p hp => ?_⟩
            obtain ⟨le, s2⟩ := hs.imm hp (.tup [])
            exact q _ _ _ le s2 (.tup (SqT.of upd_same) .nil)
          · rw [if_neg h3] at hr'
            by_cases h4 : k ≤ 1000 ∧ ds.length ≤ 1000
            · rw [if_pos h4] at hr'; cases hr'
              refine op_repT pins s σ H _ _ v u Q I rx ry ⟨_, k, vs, rfl, rfl, by rw [hk]; exact SqT.mo hs.rd h, hne, by have := fun z => h2 (.inr z); omega, h4.1, by rw [← r1.len]; exact h4.2, fun p hp => ?_⟩
              obtain ⟨le, s2⟩ := hs.imm hp (.tup (List.replicate k.toNat vs).flatten)
              exact q _ _ _ le s2 (.tup (SqT.of upd_same) ((r1.rep _).mo le))
            · rw [if_neg h4] at hr'; cases hr'
      · rw [if_neg h1] at hr'; cases hr'
    | _ => exact old hr
  | _ => exact old hr
theorem op_eqDD' (hk : X.K = G.K) (hu : X.A.units + 64 < cLine) : OpR X (compareOp .Eq) (rDB G eqDD) := by
  intro pins s σ H x y v u Q I rx ry ⟨S, W, d, e, r, hs, nd, ne, hr, q⟩
  have old : eqD d e = some r → wpAny (model X.prog X.w) X.A (compareOp .Eq v u) (EP X pins σ Q) X.xe s := fun h => op_eqDD hk hu pins s σ H x y v u Q I rx ry ⟨S, W, d, e, r, hs, nd, ne, h, q⟩
  cases nd with
  | tup h r1 =>
    rename_i a vs ds
    cases ne with
    | tup h2 r2 =>
      rename_i a2 vs2 ds2
      have hr' : (if ds2.isEmpty = true then some (D.bl ds.isEmpty) else eqD (.tup ds) (.tup ds2)) = some r := hr
      by_cases hz : ds2.isEmpty = true
      · rw [if_pos hz] at hr'; cases hr'
        cases r2 with
        | cons _ _ => simp at hz
        | nil =>
          refine op_eqT0 hu pins s σ H _ _ v u Q I rx ry ⟨_, _, vs, rfl, rfl, by rw [hk]; exact SqT.mo hs.rd h, by rw [hk]; exact SqT.mo hs.rd h2, ?_⟩
          have : vs.isEmpty = ds.isEmpty := by cases r1 <;> rfl
          rw [this]
          exact q _ H W (.refl _) hs (.bl _)
      · rw [if_neg hz] at hr'; exact old hr'
    | _ => exact old hr
  | _ => exact old hr
end
end Lt
set_option maxRecDepth 100000
set_option maxHeartbeats 4000000
namespace Lt
open PySem PySem.Spec PyProof.Rows L2

/-! ### what shape an expression has -/
def notStar : Expr → Bool
  | .Starred _ _ => false
  | _ => true
theorem star_cons {e : Expr} {es : List Expr} {env : Env} (h : notStar e = true) : starEach (e :: es) env = (false, eval e env) :: starEach es env := by
  cases e <;> first | rfl | cases h
theorem star_back {pos : Pos} {env : Env} : ∀ {es : List Expr}, es.all notStar = true → (backTo pos (starEach es env)).any (·.1) = false
  | [], _ => rfl
  | e :: es, h => by
    rw [List.all_cons, Bool.and_eq_true] at h
    rw [star_cons h.1]
    show ((backTo pos ((false, eval e env) :: starEach es env)).any (·.1)) = false
    unfold backTo
    rw [List.map_cons, List.any_cons]
    exact star_back (pos := pos) h.2
theorem star_trees {pos : Pos} {env : Env} : ∀ {es : List Expr}, es.all notStar = true → backTo pos (starEach es env) = es.map fun e => (false, eval e env)
  | [], _ => rfl
  | e :: es, h => by
    rw [List.all_cons, Bool.and_eq_true] at h
    rw [star_cons h.1]
    unfold backTo
    rw [List.map_cons, List.map_cons]
    have := star_trees (pos := pos) (env := env) h.2
    unfold backTo at this
    rw [this]
    rfl
theorem asg_one {e : Expr} {env : Env} (h : notStar e = true) : (assignEach [e] env).map (·.2) = [assign e env] := by
  cases e <;> first | rfl | cases h
theorem asg_cons {e : Expr} {es : List Expr} {env : Env} (h : notStar e = true) : (assignEach (e :: es) env).map (·.2) = assign e env :: (assignEach es env).map (·.2) := by
  cases e <;> first | rfl | cases h
theorem asg_len {env : Env} : ∀ {es : List Expr}, es.all notStar = true → (assignEach es env).length = es.length
  | [], _ => rfl
  | e :: es, h => by
    rw [List.all_cons, Bool.and_eq_true] at h
    have ih := asg_len (env := env) h.2
    obtain ⟨h1, h2⟩ := h
    cases e <;> first | cases h1; done | (show (assignEach es env).length + 1 = es.length + 1; rw [ih])
theorem asg_find {env : Env} : ∀ {es : List Expr}, es.all notStar = true → (assignEach es env).findIdx? (·.1) = none
  | [], _ => rfl
  | e :: es, h => by
    rw [List.all_cons, Bool.and_eq_true] at h
    have ih := asg_find (env := env) h.2
    obtain ⟨h1, h2⟩ := h
    have k : assignEach (e :: es) env = (false, assign e env) :: assignEach es env := by cases e <;> first | rfl | cases h1
    rw [k, List.findIdx?_cons]
    simp [ih]
def isLc : Expr → Bool
  | .ListComp _ _ _ _ => true
  | .SetComp _ _ _ _ => true
  | .DictComp _ _ _ _ _ => true
  | _ => false
theorem sw_none {e : Expr} {t : Option Expr} {l : Nat} {env : Env} (h : isLc e = false) : swapsWith e t l env = pure false := by
  cases e <;> first | rfl | cases h
theorem sw_tgt {e t : Expr} {l : Nat} {env : Env} (h : ∀ x p, t ≠ .Name x p) : swapsWith e (some t) l env = pure false := by
  cases e <;> cases t <;> first | rfl | exact absurd rfl (h _ _)
def plainT : Expr → Bool
  | .Name _ _ => true
  | .Call _ _ _ _ => true
  | .Subscript _ _ _ => true
  | .Attribute _ _ _ => true
  | .BinOp _ _ _ _ => true
  | .ListComp _ _ _ _ => true
  | _ => false
theorem truth_of {e : Expr} {env : Env} (h : plainT e = true) : ∀ whole, isTrue e env whole = (do let v ← whole; standAt e.pos; holding [v] (truthy v)) := by
  intro whole
  cases e <;> first | rfl | cases h
def plainI : Expr → Bool
  | .Name _ _ => true
  | .Call _ _ _ _ => true
  | .Subscript _ _ _ => true
  | .BinOp _ _ _ _ => true
  | .UnaryOp _ _ _ => true
  | .Constant _ _ _ => true
  | .IfExp _ _ _ _ => true
  | _ => false
theorem plainIx_of {e : Expr} (h : plainI e = true) : PlainIx e := by
  intro o i
  cases e <;> first | rfl | cases h
theorem asg_sub {e e2 : Expr} {pos : Pos} {env : Env} (h : plainI e2 = true) : ∀ v, assign (.Subscript e e2 pos) env v = (do
      let ov ← holding [v] (eval e env)
      let iv ← holding [v, ov] (eval e2 env)
      standAt pos
      holding [v, ov, iv] (setItem ov iv v)
      release [v, ov, iv] []) := by
  intro v
  cases e2 <;> first | rfl | cases h
def plainO : Expr → Bool
  | .Name _ _ => true
  | .Subscript _ _ _ => true
  | .Attribute _ _ _ => true
  | .List _ _ => true
  | .Dict _ _ _ => true
  | _ => false
theorem base_of {e : Expr} {m : Str} {env : Env} (h : plainO e = true) : attributeBase e m env (eval e env) = eval e env := by
  cases e <;> first | rfl | cases h
def notSet : Expr → Bool
  | .Set _ _ _ => false
  | _ => true
theorem nomark_of {op : CmpOp} {e : Expr} (h : notSet e = true) : behindInMarks op e = false := by
  cases e <;> first | rfl | cases h
theorem folded_of {e : Expr} {env : Env} (h : notSet e = true) : ∀ x, foldedSetIterable e env x = pure x := by
  intro x
  cases e <;> first | rfl | cases h
theorem marks_of {op op' : CmpOp} {e e2 : Expr} (h : notSet e = true) (h2 : notSet e2 = true) : lastMarks [op, op'] [e, e2] = false := by
  cases e <;> first | cases h; done | (cases e2 <;> first | rfl | cases h2)
/-- the order of the stores of a, b = c, d -/
def swGo (kindOf : Str → Option NameKind) (bk : ScopeKind) (targets : List Expr) (value : Expr) : Option (Option (List Str)) :=
  match (match targets, value with
    | [.Tuple ts _ _], .Tuple vs _ _ => some (ts, vs)
    | [.List ts _], .Tuple vs _ _ => some (ts, vs)
    | _, _ => none) with
  | some (ts, vs) =>
    if (!(ts.length == 2 || ts.length == 3) || vs.length != ts.length || bk != .function) = true then some none else
    if (vs.any fun | .Starred _ _ => true | _ => false) = true then some none else
    let line := ((ts.head?).map fun x => x.pos.line).getD 0
    let names := ts.filterMap fun | .Name id pos => if (kindOf id == some .local && pos.line == line) = true then some id else none | _ => none
    if (names.length != ts.length || names.eraseDups.length != names.length) = true then some none else
    if (vs.all (foldedForSure 8)) = true then some none else
    if (vs.all (constantsAlone 8)) = true then none else some (some names)
  | none => some none
def blkK (sc : Scope) : ScopeKind := if sc.kind.isAnnotationScope = true then .function else sc.kind
theorem sw_go {targets : List Expr} {value : Expr} {env : Env} {r : Option (List Str)} (h : swGo (fun x => env.scope.names.lookup x) (blkK env.scope) targets value = some r) : swappedStores targets value env = pure r := by
  unfold swGo at h
  unfold swappedStores
  split at h
  · rename_i ts vs hm
    split
    · rename_i ts2 vs2 hm2
      have e : some (ts, vs) = some (ts2, vs2) := hm.symm.trans hm2
      cases e
      dsimp only at h ⊢
      by_cases c1 : (!(ts.length == 2 || ts.length == 3) || vs.length != ts.length || blkK env.scope != .function) = true
      · rw [if_pos c1] at h
        cases h
        exact if_pos c1
      · rw [if_neg c1] at h
        refine (if_neg c1).trans ?_
        by_cases c2 : (vs.any fun | .Starred _ _ => true | _ => false) = true
        · rw [if_pos c2] at h
          cases h
          exact if_pos c2
        · rw [if_neg c2] at h
          refine (if_neg c2).trans ?_
          generalize hn : (ts.filterMap fun
            | .Name id pos => if (env.scope.names.lookup id == some .local && pos.line == ((ts.head?).map fun x => x.pos.line).getD 0) = true then some id else none
            | _ => none) = names at h
          by_cases c3 : (names.length != ts.length || names.eraseDups.length != names.length) = true
          · rw [if_pos c3] at h
            cases h
            subst hn
            exact if_pos c3
          · rw [if_neg c3] at h
            subst hn
            refine (if_neg c3).trans ?_
            by_cases c4 : vs.all (foldedForSure 8) = true
            · rw [if_pos c4] at h
              cases h
              exact if_pos c4
            · rw [if_neg c4] at h
              refine (if_neg c4).trans ?_
              by_cases c5 : vs.all (constantsAlone 8) = true
              · rw [if_pos c5] at h; cases h
              · rw [if_neg c5] at h
                cases h
                exact if_neg c5
    · rename_i hm2
      exact (hm2 _ _ hm).elim
  · rename_i hm
    cases h
    split
    · rename_i ts2 vs2 hm2
      exact nomatch hm.symm.trans hm2
    · rfl
end Lt
set_option maxRecDepth 100000
set_option maxHeartbeats 4000000
namespace Lt
open PySem PySem.Spec PyProof.Rows L2

/-! ### tables of operations -/
def isDD (a b : D) : Option D := if isnon b = true then isND a b else isBD a b
def nisDD (a b : D) : Option D := if isnon b = true then nisND a b else nisBD a b
def binGo : Operator → Option (D → D → Option D)
  | .Add => some addD
  | .Sub => some subD
  | .Mult => some mulDD
  | .FloorDiv => some fdivD
  | .Mod => some modD
  | .Pow => some powD
  | _ => none
def cmpGo : CmpOp → Option (D → D → Option D)
  | .Eq => some eqDD
  | .NotEq => some neD
  | .Lt => some ltD
  | .LtE => some leD
  | .Gt => some gtD
  | .GtE => some geD
  | .In => some inD
  | .NotIn => some ninD
  | .Is => some isDD
  | .IsNot => some nisDD
inductive BI where | len | abs | max | min | int | list | tuple | all | any | sum | repr
deriving DecidableEq
def BI.nm : BI → String
  | .len => "len" | .abs => "abs" | .max => "max" | .min => "min" | .int => "int" | .list => "list" | .tuple => "tuple" | .all => "all" | .any => "any" | .sum => "sum" | .repr => "repr"
def BI.ty : BI → Bool
  | .int => true | .list => true | .tuple => true | _ => false
def biGo : BI → Nat → Option (List D → Option D)
  | .len, 1 => some lenD
  | .abs, 1 => some absD
  | .max, 2 => some max2D
  | .min, 2 => some min2D
  | .max, 1 => some maxD
  | .min, 1 => some minD
  | .int, 1 => some intD
  | .list, 1 => some listD
  | .tuple, 1 => some tupleD
  | .all, 1 => some allD
  | .any, 1 => some anyD
  | .sum, 1 => some sumD
  | .repr, 1 => some reprD
  | _, _ => none
def biAll : List BI := [.len, .abs, .max, .min, .int, .list, .tuple, .all, .any, .sum, .repr]
def biOf (x : Str) : Option BI := biAll.find? fun b => x == Str.ofString b.nm
def tyAll : List Ty := [.tup, .str, .int, .bool, .list, .dict]
def tyNm (x : Str) : Option Ty := tyAll.find? fun b => x == Str.ofString b.nm
theorem biOf_ok {x : Str} {b : BI} (h : biOf x = some b) : x = Str.ofString b.nm := by
  have := List.find?_some h
  simpa using this
theorem tyNm_ok {x : Str} {b : Ty} (h : tyNm x = some b) : x = Str.ofString b.nm := by
  have := List.find?_some h
  simpa using this
section
variable {X : Cx} {G : Gc}
theorem binGo_ok (hk : X.K = G.K) {op : Operator} {go : D → D → Option D} (h : binGo op = some go) : OpR X (binaryOp op) (rDB G go) := by
  cases op <;> cases h
  · exact op_addD hk
  · exact op_subD
  · exact op_mulDD hk
  · exact op_modD
  · exact op_powD
  · exact op_fdivD
theorem op_isDD : OpR X (compareOp .Is) (rDB G isDD) := by
  intro pins s σ H x y v u Q I rx ry ⟨S, W, d, e, r, hs, nd, ne, hr, q⟩
  unfold isDD at hr
  by_cases hz : isnon e = true
  · rw [if_pos hz] at hr; exact op_isND pins s σ H x y v u Q I rx ry ⟨S, W, d, e, r, hs, nd, ne, hr, q⟩
  · rw [if_neg hz] at hr; exact op_isBD pins s σ H x y v u Q I rx ry ⟨S, W, d, e, r, hs, nd, ne, hr, q⟩
theorem op_nisDD : OpR X (compareOp .IsNot) (rDB G nisDD) := by
  intro pins s σ H x y v u Q I rx ry ⟨S, W, d, e, r, hs, nd, ne, hr, q⟩
  unfold nisDD at hr
  by_cases hz : isnon e = true
  · rw [if_pos hz] at hr; exact op_nisND pins s σ H x y v u Q I rx ry ⟨S, W, d, e, r, hs, nd, ne, hr, q⟩
  · rw [if_neg hz] at hr; exact op_nisBD pins s σ H x y v u Q I rx ry ⟨S, W, d, e, r, hs, nd, ne, hr, q⟩
theorem cmpGo_ok (hk : X.K = G.K) (hu : X.A.units + 64 < cLine) {op : CmpOp} {go : D → D → Option D} (h : cmpGo op = some go) : OpR X (compareOp op) (rDB G go) := by
  cases op <;> cases h
  · exact op_eqDD' hk hu
  · exact op_neDD hk hu
  · exact op_cmpI op_lt
  · exact op_cmpI op_le
  · exact op_cmpI op_gt
  · exact op_cmpI op_ge
  · exact op_isDD
  · exact op_nisDD
  · exact op_inDD hk hu
  · exact op_ninDD hk hu
theorem cmpGo_bl {op : CmpOp} {go : D → D → Option D} (h : cmpGo op = some go) : ∀ a b r, go a b = some r → ∃ k, r = .bl k := by
  intro a b r e
  cases op <;> cases h <;>
  · first
    | (unfold eqDD eqD at e; split at e <;> (repeat' split at e) <;> cases e <;> exact ⟨_, rfl⟩)
    | (unfold neD at e; split at e <;> cases e <;> exact ⟨_, rfl⟩)
    | (unfold ltD cmpD at e; split at e <;> cases e <;> exact ⟨_, rfl⟩)
    | (unfold leD cmpD at e; split at e <;> cases e <;> exact ⟨_, rfl⟩)
    | (unfold gtD cmpD at e; split at e <;> cases e <;> exact ⟨_, rfl⟩)
    | (unfold geD cmpD at e; split at e <;> cases e <;> exact ⟨_, rfl⟩)
    | (unfold inD at e; split at e <;> (repeat' split at e) <;> cases e <;> exact ⟨_, rfl⟩)
    | (unfold ninD at e; split at e <;> (repeat' split at e) <;> cases e <;> exact ⟨_, rfl⟩)
    | (unfold isDD isND isBD at e; (repeat' split at e) <;> cases e <;> exact ⟨_, rfl⟩)
    | (unfold nisDD nisND nisBD at e; (repeat' split at e) <;> cases e <;> exact ⟨_, rfl⟩)
theorem biGo_fn (hc : X.calm = true) (hk : X.K = G.K) (gd : X.A.guards = some []) (hu : X.A.units + 64 < cLine) {b : BI} {n : Nat} {go : List D → Option D} (h : biGo b n = some go) (ht : b.ty = false) : CallR X (.builtin b.nm) (rDN G go) := by
  unfold biGo at h
  split at h <;> cases h
  · exact cr_lenD hk
  · exact cr_absD
  · exact cr_max2D hc
  · exact cr_min2D hc
  · exact cr_maxD hc
  · exact cr_minD hc
  · cases ht
  · cases ht
  · cases ht
  · exact cr_allD hc
  · exact cr_anyD hc
  · exact cr_sumD hc
  · exact cr_reprD hk gd hu
theorem biGo_ty (hk : X.K = G.K) {b : BI} {n : Nat} {go : List D → Option D} (h : biGo b n = some go) (ht : b.ty = true) : CallR X (.type b.nm) (rDN G go) := by
  unfold biGo at h
  split at h <;> cases h <;> first | cases ht; done | skip
  · exact cr_intD
  · exact cr_listD hk
  · exact cr_tupleD hk
theorem bi_boot (b : BI) (ht : b.ty = false) : bootBuiltins (Str.ofString b.nm) = some (.builtin b.nm) := by
  cases b <;> first | cases ht; done | decide +kernel
theorem bi_bootT (b : BI) (ht : b.ty = true) : bootBuiltins (Str.ofString b.nm) = some (.type b.nm) := by
  cases b <;> first | cases ht; done | decide +kernel
theorem ty_boot (b : Ty) : bootBuiltins (Str.ofString b.nm) = some (.type b.nm) := by
  cases b <;> decide +kernel
theorem bi_name (b : BI) : Str.ofString b.nm ≠ "__name__" := by cases b <;> decide +kernel
theorem bi_dbg (b : BI) : (Str.ofString b.nm == ("__debug__" : Str)) = false := by cases b <;> decide +kernel
end
end Lt
set_option maxRecDepth 100000
set_option maxHeartbeats 4000000
namespace Lt
open PySem PySem.Spec PyProof.Rows L2

/-! ### how plain parameters are bound -/
def slot : List Str → Str → Option Nat
  | [], _ => none
  | y :: r, x => if x == y then some 0 else (slot r x).map (· + 1)
theorem slot_get : ∀ {N : List Str} {x : Str} {i : Nat}, slot N x = some i → N[i]? = some x
  | y :: r, x, i, h => by
    unfold slot at h
    by_cases e : (x == y) = true
    · rw [if_pos e] at h; cases h
      rw [beq_iff_eq] at e; subst e; rfl
    · rw [if_neg e] at h
      cases q : slot r x with
      | none => rw [q] at h; cases h
      | some j => rw [q] at h; cases h; simpa using slot_get q
theorem slot_lt {N : List Str} {x : Str} {i : Nat} (h : slot N x = some i) : i < N.length := (List.getElem?_eq_some_iff.mp (slot_get h)).1
theorem lookup_zip : ∀ {N : List Str} {vs : List Value} {x : Str}, N.length = vs.length → (N.zip vs).lookup x = (slot N x).bind fun i => vs[i]?
  | [], [], x, _ => rfl
  | y :: r, v :: vs, x, h => by
    rw [List.zip_cons_cons, List.lookup_cons]
    unfold slot
    by_cases e : (x == y) = true
    · rw [if_pos e, e]; rfl
    · rw [if_neg e]
      rw [show (x == y) = false by simpa using e]
      simp only []
      rw [lookup_zip (Nat.succ.inj h)]
      cases slot r x with
      | none => rfl
      | some j => simp
theorem slot_none : ∀ {N : List Str} {x : Str}, x ∉ N → slot N x = none
  | [], _, _ => rfl
  | y :: r, x, h => by
    unfold slot
    rw [if_neg (by rw [beq_iff_eq]; rintro rfl; exact h List.mem_cons_self), slot_none fun z => h (List.mem_cons_of_mem _ z)]
    rfl
theorem binds_perm {names : List Str} {vals : List Value} (hl : names.length = vals.length) : ∀ {ps : List Str}, (ps.all fun p => (slot names p).isSome) = true →
    ps.filterMap (fun p => ((names.zip vals).lookup p).map (p, ·)) = ps.zip (permL (ps.filterMap (slot names)) vals)
  | [], _ => rfl
  | p :: ps, h => by
    rw [List.all_cons, Bool.and_eq_true] at h
    have ih := binds_perm hl (ps := ps) h.2
    obtain ⟨i, hi⟩ := Option.isSome_iff_exists.mp h.1
    have hlt : i < vals.length := by rw [← hl]; exact slot_lt hi
    have hv : vals[i]? = some vals[i] := List.getElem?_eq_getElem hlt
    have e : ((names.zip vals).lookup p) = some vals[i] := by rw [lookup_zip hl, hi]; exact hv
    rw [List.filterMap_cons, e, List.filterMap_cons, hi]
    simp only [Option.map_some]
    unfold permL at ih ⊢
    rw [List.filterMap_cons, hv]
    simp only []
    rw [List.zip_cons_cons, ih]
/-- which written value a parameter gets -/
def permOf (ps : List Str) (n : Nat) (ks : List Str) : Option (List Nat) :=
  if n + ks.length = ps.length ∧ (ps.take n ++ ks).Nodup ∧ (ks.all fun k => ps.contains k) = true ∧ (ps.all fun p => (slot (ps.take n ++ ks) p).isSome) = true then some (ps.filterMap (slot (ps.take n ++ ks))) else none
structure PlainFd (fd : FuncData) (ps : List Str) : Prop where
  nd : ps.Nodup
  df : fd.defaults = .none
  po : fd.params.posonlyargs = []
  ar : fd.params.args.map (·.arg) = ps
  va : fd.params.vararg = none
  ko : fd.params.kwonlyargs = []
  ka : fd.params.kwarg = none
theorem forIn_pure {α β : Type} (f : α → β → Sem (ForInStep β)) (g : α → β → β) (P : List α → β → Prop) (h : ∀ x xs b, P (x :: xs) b → f x b = pure (.yield (g x b)) ∧ P xs (g x b)) :
    ∀ (kw : List α) (b : β), P kw b → forIn kw b f = pure (kw.foldl (fun b x => g x b) b)
  | [], b, _ => rfl
  | x :: xs, b, hp => by
    obtain ⟨h1, h2⟩ := h x xs b hp
    rw [List.forIn_cons, h1]
    exact forIn_pure f g P h xs (g x b) h2
theorem fold_app {α β : Type} (kw : List α) (sl : List α) (ex : β) : kw.foldl (fun (b : List α × β) x => (b.1 ++ [x], b.2)) (sl, ex) = (sl ++ kw, ex) := by
  induction kw generalizing sl with
  | nil => simp
  | cons x xs ih => rw [List.foldl_cons, ih]; simp
theorem lookup_not {l : List (Str × Value)} {k : Str} (h : k ∉ l.map (·.1)) : l.lookup k = none := by
  induction l with
  | nil => rfl
  | cons a l ih =>
    obtain ⟨x, v⟩ := a
    rw [List.lookup_cons]
    have : (k == x) = false := by
      rw [beq_eq_false_iff_ne]; rintro rfl; exact h (by simp)
    rw [this]
    exact ih fun z => h (List.mem_cons_of_mem _ z)
theorem zip_take {α β : Type} : ∀ (ps : List α) (us : List β), ps.zip us = (ps.take us.length).zip us
  | [], _ => by simp
  | _ :: _, [] => by simp
  | p :: ps, u :: us => by simp [zip_take ps us]
theorem bind_gen {K : Kf} {fd : FuncData} {ps ks : List Str} {n : Nat} {π : List Nat} (F : PlainFd fd ps) (h : permOf ps n ks = some π) : BindP K fd ps n ks π := by
  intro t us ws _ hu hw
  unfold permOf at h
  split at h
  · rename_i hc
    cases h
    obtain ⟨h1, h2, h3, h4⟩ := hc
    refine BindsTo.of_eq ?_
    unfold bindArgs
    simp only [F.df, F.po, F.ar, F.va, F.ko, F.ka, List.map_nil, List.nil_append, List.append_nil]
    have hn : n ≤ ps.length := by omega
    have hzip : ps.zip us = (ps.take n).zip us := by rw [zip_take, hu]
    have hlen : (ps.take n).length = us.length := by rw [List.length_take, hu]; omega
    have hz : (ps.take n).zip us ++ ks.zip ws = (ps.take n ++ ks).zip (us ++ ws) := (List.zip_append hlen).symm
    rw [forIn_pure _ (fun x b => (b.1 ++ [x], b.2)) (fun kw b => (b.1.map (·.1) ++ kw.map (·.1)).Nodup ∧ ∀ p ∈ kw, ps.contains p.1 = true) ?_ (ks.zip ws) (ps.zip us, []) ?_, fold_app]
    · have e0 : seqItems? Value.none = pure none := rfl
      rw [e0]
      rw [hzip, hz]
      have hvl : (ps.take n ++ ks).length = (us ++ ws).length := by rw [List.length_append, List.length_append, hlen, hw]
      have hall : ∀ m, (List.filter (fun p => Option.isNone (((ps.take n ++ ks).zip (us ++ ws)).lookup p)) (List.take m ps)) = [] := by
        intro m
        rw [List.filter_eq_nil_iff]
        intro p hp
        obtain ⟨i, hi⟩ := Option.isSome_iff_exists.mp (List.all_eq_true.mp h4 p (List.mem_of_mem_take hp))
        have hlt : i < (us ++ ws).length := by rw [← hvl]; exact slot_lt hi
        rw [lookup_zip hvl, hi]
        simp only [Option.bind_some, List.getElem?_eq_getElem hlt]
        simp
      simp only [pure_bind]
      rw [if_neg (by simp; omega), hall]
      simp only [Option.getD_none, List.drop_nil, List.zip_nil_right]
      rw [← binds_perm hvl h4]
      rfl
    · rintro ⟨k, v⟩ xs ⟨sl, ex⟩ ⟨p1, p2⟩
      refine ⟨?_, by simpa using p1, fun p hp => p2 p (List.mem_cons_of_mem _ hp)⟩
      have c1 : ps.contains k = true := p2 (k, v) List.mem_cons_self
      have c2 : k ∉ sl.map (·.1) := by
        intro z
        rw [List.nodup_append] at p1
        exact p1.2.2 k z k (by simp) rfl
      simp only [c1, Bool.true_or, if_true]
      rw [lookup_not c2]
      rfl
    · refine ⟨?_, fun p hp => ?_⟩
      · rw [hzip, List.map_fst_zip (Nat.le_of_eq hlen), List.map_fst_zip (by omega)]
        exact h2
      · have := (List.of_mem_zip hp).1
        exact List.all_eq_true.mp h3 _ this
  · cases h
end Lt
set_option maxRecDepth 100000
set_option maxHeartbeats 4000000
namespace Lt
open PySem PySem.Spec PyProof.Rows L2
section
variable {G : Gc} {Wx : WX} {X : Cx} {e e2 : Expr} {f g : EF} {pos : Pos}
/-! ### a + b, a list that is changed later -/
def addL : D → D → Option (List D)
  | .lst xs, .lst ys => if xs.length + ys.length ≤ sizeLine then some (xs ++ ys) else none
  | _, _ => none
def pBM (f g : EF) : EF := fun env S => (f env S).bind fun a S1 => (g env S1).bind fun b S2 => match addL (vw S2 a) (vw S2 b) with
  | some zs => .ok (.ref S2.length) (S2 ++ [.lst zs])
  | none => .bad
theorem op_addM : OpR X (binaryOp .Add) (fun x y H Q => ∃ S W d e zs, StR G S W H ∧ Now G W H d x ∧ Now G W H e y ∧ addL d e = some zs ∧ Pe G W Q (.ref S.length) (S ++ [.lst zs])) := by
  intro pins s σ H x y v u Q I rx ry ⟨S, W, d, e, zs, hs, nd, ne, hr, q⟩
  cases nd with
  | lst h r1 =>
    cases ne with
    | lst h2 r2 =>
      rename_i a vs ds b us es
      have hr' : (if ds.length + es.length ≤ sizeLine then some (ds ++ es) else none) = some zs := hr
      by_cases hz : ds.length + es.length ≤ sizeLine
      · rw [if_pos hz] at hr'; cases hr'
        have hz2 : vs.length + us.length ≤ sizeLine := by rw [← r1.len, ← r2.len]; exact hz
        refine op_cat pins s σ H _ _ v u _ I rx ry ⟨_, _, _, _, rfl, rfl, h, h2, hz2, fun p hp => ?_⟩
        obtain ⟨le, s2⟩ := hs.new hp (.lst (r1.app r2))
        exact q _ _ _ le s2 (.ref (by simp [← hs.len]))
      · rw [if_neg hz] at hr'; cases hr'
    | _ => cases hr
  | _ => cases hr
theorem pe_binM (ha : PE X e (tE G Wx f)) (hb : PE X e2 (tE G Wx g)) : PE X (.BinOp e .Add e2 pos) (tE G Wx (pBM f g)) :=
  (pe_op op_addM ha hb).imp fun σ H Q ⟨env, S, W, hs, he, h⟩ =>
    tE_mono (tE_e hs he h) fun v H1 ⟨S1, W1, d, l1, s1, e1, r1, o1⟩ =>
      tE_mono (tE_e s1 e1 o1) fun u H2 ⟨S2, W2, d2, l2, s2, e2', r2, o2⟩ => by
        cases hr : addL (vw S2 d) (vw S2 d2) with
        | none => simp only [hr] at o2; exact False.elim o2
        | some zs => simp only [hr] at o2; exact ⟨S2, W2, _, _, zs, s2, (r1.mo l2).vw s2, r2.vw s2, hr, o2⟩
/-! xs.count(x), xs.index(x), xs.pop(i), xs.pop() -/
def cntD : D → D → Option D
  | .lst xs, x => if (xs.all (lay 39) && lay 40 x) = true then some (.int ((xs.countP fun y => deq y x : Nat) : Int)) else none
  | _, _ => none
def idxD : D → D → Option D
  | .lst xs, x => if (xs.all (lay 39) && lay 40 x) = true then (xs.findIdx? fun y => deq y x).map fun (j : Nat) => .int (j : Int) else none
  | _, _ => none
def isLst : D → Bool
  | .lst _ => true
  | _ => false
/-- a list's method of one argument that only tells -/
def mthB (go : D → D → Option D) (f g : EF) : EF := fun env S => (f env S).bind fun a S1 => if isLst (vw S1 a) = true then (g env S1).bind fun b S2 => opt (go (vw S2 a) (vw S2 b)) S2 else .bad
theorem Reads_py {pins : List (Addr × Obj)} {s : Shared} {σ : L2.St} {H : Hp} {S : Store} {W : Wd} {d : D} {v : V} {u : Value} (hk : X.K = G.K) (I : Inv X pins σ H s) (hs : StR G S W H) (nd : Now G W H d v) (hl : lay 40 d = true) (r : RelV v u) : ∃ as, Reads s.heap u (py d) as :=
  Dp.reads I (py d) v u (by rw [hk]; exact lay_dp hs 40 hl nd) r
theorem mt_cntD (hk : X.K = G.K) (hu : X.A.units + 65 < cLine) : MtR X "list.count" (fun x ys H Q => ∃ y, ys = [y] ∧ rDB G cntD x y H Q) := by
  intro pins s σ H x xs v us Q I rx rxs ⟨y, ey, S, W, d, e, r, hs, nd, ne, hr, q⟩
  subst ey
  cases rxs with
  | cons ry rt =>
    rename_i uy ut
    cases rt
    cases nd with
    | lst h r1 =>
      rename_i a vs ds
      have hr' : (if (ds.all (lay 39) && lay 40 e) = true then some (D.int ((ds.countP fun y => deq y e : Nat) : Int)) else none) = some r := hr
      by_cases hz : (ds.all (lay 39) && lay 40 e) = true
      · rw [if_pos hz] at hr'; cases hr'
        rw [Bool.and_eq_true] at hz
        obtain ⟨bs, ryr⟩ := Reads_py hk I hs ne hz.2 ry
        cases rx
        obtain ⟨its, rv, ⟨⟨cls, dd, data, sls⟩, n, ho, hc, hdn, hdt⟩, hlen⟩ := I.list (SqL.of h)
        simp only at hc hdt
        subst hc hdt
        have hdl : lay 40 (.lst ds) = true := hz.1
        have hdp := lay_dp hs 40 hdl (.lst h r1)
        rw [← hk] at hdp
        have hxs : PyData.canLayAll0 (pyL ds) = true := SeqAt.canLay_of_shaped (lay_shaped (n := 40) (by decide) hdl)
        cases hdp with
        | lst hs2 ha =>
          rename_i vs2
          have e2 : vs2 = vs := by
            obtain ⟨its2, rv2, ⟨⟨cls2, dd2, data2, sls2⟩, n2, ho2, hc2, hdn2, hdt2⟩, hlen2⟩ := I.list hs2
            simp only at hc2 hdt2
            subst hc2 hdt2
            rw [ho] at ho2
            cases ho2
            exact (Vals.inj rv2 rv)
          subst e2
          obtain ⟨as, h4⟩ := Dp.readsAll I _ _ its ha rv
          have hroom : X.A.units + 1 + min (PyData.depthAll (pyL ds)) (py e).depth < cLine := room_in_shaped (lay_shaped (n := 40) (by decide) hz.2) hu
          have hmap : its.map (SeqAt.readOf s.heap) = pyL ds := SeqAt.readsAll_map _ its as hxs h4
          refine call_meets PySem.F.slot_list_count ⟨_, ho, rfl⟩ PySem.F.entry_list_count (PySem.F.args_list_count_2 _ _)
            (SeqAt.list_countAt a its.toArray n dd sls uy (fun u => PyData.eqv (SeqAt.readOf s.heap u) (py e))) ⟨ho, SeqAt.items_eqAt (vs := its.toArray) (show ReadsAll s.heap its.toArray.toList (pyL ds) as from h4) ryr hxs (SeqAt.canLay_of_shaped (lay_shaped (n := 40) (by decide) hz.2)) hroom, ?_⟩
          have ec : (its.toArray.toList.countP fun u => PyData.eqv (SeqAt.readOf s.heap u) (py e)) = ds.countP fun y => deq y e := by
            show (its.countP ((fun d => PyData.eqv d (py e)) ∘ SeqAt.readOf s.heap)) = _
            rw [← List.countP_map, hmap, pyL_map, List.countP_map]; rfl
          rw [ec]
          exact ⟨.int _, H, I.tok _, ⟨_, rfl⟩, q _ H W (.refl _) hs (.int _)⟩
      · rw [if_neg hz] at hr'; cases hr'
    | _ => cases hr
theorem mt_idxD (hk : X.K = G.K) (hu : X.A.units + 65 < cLine) : MtR X "list.index" (fun x ys H Q => ∃ y, ys = [y] ∧ rDB G idxD x y H Q) := by
  intro pins s σ H x xs v us Q I rx rxs ⟨y, ey, S, W, d, e, r, hs, nd, ne, hr, q⟩
  subst ey
  cases nd with
  | lst h r1 =>
    rename_i a vs ds
    have hr' : (if (ds.all (lay 39) && lay 40 e) = true then (ds.findIdx? fun y => deq y e).map fun (j : Nat) => D.int (j : Int) else none) = some r := hr
    by_cases hz : (ds.all (lay 39) && lay 40 e) = true
    · rw [if_pos hz] at hr'
      rw [Bool.and_eq_true] at hz
      obtain ⟨j, hj, rfl⟩ := Option.map_eq_some_iff.mp hr'
      obtain ⟨hjl, h2, h3⟩ := List.findIdx?_eq_some_iff_getElem.mp hj
      have hdl : lay 40 (.lst ds) = true := hz.1
      refine mt_indexD hu pins s σ H _ _ v us Q I rx rxs ⟨a, y, py e, pyL ds, j, py ds[j], rfl, rfl, by rw [hk]; exact lay_dp hs 40 hdl (.lst h r1), by rw [hk]; exact lay_dp hs 40 hz.2 ne, lay_shaped (n := 40) (by decide) hdl, lay_shaped (n := 40) (by decide) hz.2, ?_, h2, fun m z' hm hz' => ?_, q _ H W (.refl _) hs (.int _)⟩
      · rw [pyL_map, List.getElem?_map, List.getElem?_eq_getElem hjl]; rfl
      · rw [pyL_map, List.getElem?_map, List.getElem?_eq_getElem (by omega)] at hz'
        cases hz'
        have := h3 m hm
        simpa [deq] using this
    · rw [if_neg hz] at hr'; cases hr'
  | _ => cases hr
section
variable {e e2 : Expr} {f g : EF} {pos : Pos} {Wx : WX}
theorem isLst_V {W : Wd} {H : Hp} {d : D} {v : V} (n : Now G W H d v) (h : isLst d = true) : ∃ a xs, v = .ref a ∧ H a = some (.lst xs) := by
  cases n with
  | lst q r => exact ⟨_, _, rfl, q⟩
  | _ => cases h
theorem pe_mthB {apos : Pos} {name : Str} {id : String} {go : D → D → Option D} (hk : X.K = G.K) (slot : Slot "list" name id) (hty : typeOf (.builtin id) = pure (.type "method_descriptor")) (hm : MtR X id (fun x ys H Q => ∃ y, ys = [y] ∧ rDB G go x y H Q))
    (ha : PE X e (tE G Wx f)) (hb : PE X e2 (tE G Wx g)) (hba : attributeBase e name X.env (eval e X.env) = eval e X.env) (hs1 : starEach [e2] X.env = (false, eval e2 X.env) :: starEach [] X.env)
    (hfew : (((backTo pos (starEach [e2] X.env)).all (fun x => !x.1) && (backToKw pos (keywordEach [] X.env)).all (fun x => x.1.isSome)) && decide ((List.length [e2] + List.length ([] : List Keyword) + if List.isEmpty ([] : List Keyword) = true then 0 else 1) < 30)) = true)
    (hline : (apos.endLine == pos.line) = true) (hpl : (backTo pos (starEach [] X.env)).any (·.1) = false) :
    PE X (.Call (.Attribute e name apos) [e2] [] pos) (tE G Wx (mthB go f g)) :=
  (pe_bm PySem.F.plainAttrs_list slot hty hm ha (pa_cons hb pa_nil hs1) hba hfew hline hs1 hpl).imp fun σ H Q ⟨env, S, W, hs, he, o⟩ =>
    tE_mono (tE_e hs he o) fun v H1 ⟨S1, W1, d, l1, s1, e1, r1, o1⟩ => by
      by_cases hl : isLst (vw S1 d) = true
      · rw [if_pos hl] at o1
        obtain ⟨a, xs, rfl, hh⟩ := isLst_V (r1.vw s1) hl
        refine ⟨.inl ⟨rfl, _, SqL.of hh⟩, tE_mono (tE_e s1 e1 o1) fun u H2 ⟨S2, W2, d2, l2, s2, e2', r2, o2⟩ => ?_⟩
        obtain ⟨r, hr, q⟩ := opt_out o2
        exact ⟨u, rfl, S2, W2, _, _, r, s2, (r1.mo l2).vw s2, r2.vw s2, hr, q⟩
      · rw [if_neg hl] at o1; exact False.elim o1
/-- xs.pop(i), xs a list of the store -/
def popE (f g : EF) : EF := fun env S => (f env S).bind fun o S1 => match cellL S1 o with
  | none => .bad
  | some _ => (g env S1).bind fun d S2 => match cellL S2 o, d with
    | some (n, xs), .int i => if 0 ≤ i ∧ i < 1000000 then match xs[i.toNat]? with
      | some y => .ok y (S2.set n (.lst (xs.eraseIdx i.toNat)))
      | none => .bad
      else .bad
    | _, _ => .bad
theorem RepL.erase {K : Kf} {W : Wd} : ∀ {ds : List D} {vs : List V} (i : Nat), RepL K W ds vs → RepL K W (ds.eraseIdx i) (vs.eraseIdx i)
  | _, _, _, .nil => .nil
  | _, _, 0, .cons _ r => r
  | _, _, i + 1, .cons h r => .cons h (r.erase i)
theorem pe_popD {apos : Pos} (ha : PE X e (tE G Wx f)) (hb : PE X e2 (tE G Wx g)) (hba : attributeBase e "pop" X.env (eval e X.env) = eval e X.env) (hs1 : starEach [e2] X.env = (false, eval e2 X.env) :: starEach [] X.env)
    (hfew : (((backTo pos (starEach [e2] X.env)).all (fun x => !x.1) && (backToKw pos (keywordEach [] X.env)).all (fun x => x.1.isSome)) && decide ((List.length [e2] + List.length ([] : List Keyword) + if List.isEmpty ([] : List Keyword) = true then 0 else 1) < 30)) = true)
    (hline : (apos.endLine == pos.line) = true) (hpl : (backTo pos (starEach [] X.env)).any (·.1) = false) :
    PE X (.Call (.Attribute e "pop" apos) [e2] [] pos) (tE G Wx (popE f g)) :=
  (pe_bm PySem.F.plainAttrs_list PySem.F.slot_list_pop PySem.F.type_list_pop mt_popAt ha (pa_cons hb pa_nil hs1) hba hfew hline hs1 hpl).imp fun σ H Q ⟨env, S, W, hs, he, o⟩ =>
    tE_mono (tE_e hs he o) fun v H1 ⟨S1, W1, d, l1, s1, e1, r1, o1⟩ => by
      cases hc : cellL S1 d with
      | none => simp only [hc] at o1; exact False.elim o1
      | some p =>
        obtain ⟨n, xs⟩ := p
        simp only [hc] at o1
        obtain ⟨a, vs, rfl, hn, rfl, hm, hh, rl⟩ := cellL_ok s1 r1 hc
        refine ⟨.inl ⟨rfl, _, SqL.of hh⟩, tE_mono (tE_e s1 e1 o1) fun u H2 ⟨S2, W2, d2, l2, s2, e2', r2, o2⟩ => ?_⟩
        cases hc2 : cellL S2 (.ref n) with
        | none => simp only [hc2] at o2; exact False.elim o2
        | some p =>
          obtain ⟨n2, ys⟩ := p
          obtain ⟨b, us, e9, hn2, e8, hm2, hh2, rl2⟩ := cellL_ok s2 (r1.mo l2) hc2
          cases e9; cases e8
          cases r2 with
          | int i =>
            simp only [hc2] at o2
            by_cases hi : 0 ≤ i ∧ i < 1000000
            · rw [if_pos hi] at o2
              cases hy : ys[i.toNat]? with
              | none => simp only [hy] at o2; exact False.elim o2
              | some y =>
                simp only [hy] at o2
                obtain ⟨w, hw, rw'⟩ := rl2.get hy
                have hlt := (List.getElem?_eq_some_iff.mp hw).1
                refine ⟨a, us, i, i.toNat, w, rfl, rfl, hh2, Int.le_trans (by decide) hi.1, Int.lt_trans hi.2 (by decide), ?_, hw, ?_⟩
                · have e0 : (if i < 0 then i + (us.length : Int) else i) = i := if_neg (by omega)
                  unfold seqIndex?
                  simp only [e0]
                  rw [if_pos (by rw [Bool.and_eq_true, decide_eq_true_eq, decide_eq_true_eq]; omega)]
                · exact o2 _ _ W2 (.refl _) (s2.put hn2 (by simp) hm2 (.lst (rl2.erase _))) rw'
            · rw [if_neg hi] at o2; exact False.elim o2
          | _ => simp only [hc2] at o2; exact False.elim o2
end
end
end Lt
set_option maxRecDepth 100000
set_option maxHeartbeats 4000000
/-! enumerate(tuple), from the library's level -/
namespace Lt
open PySem PySem.Spec PyProof.Rows L2
open PySem.Sem (wp)
open AutoSeq1 (wpAny_loadPart')
theorem meets_enumerate_newT (l : Addr) (items : Array Value) (n : Nat) (dct : Option Addr) (sl : Array (Option Value)) :
    Meets (Builtin.«enumerate.__new__» ⟨[.type "enumerate", .ref l], []⟩) (fun _ R s => s.heap.get? l = some { cls := .type "tuple", dict := dct, data := .seq items n, slots := sl } ∧
      R (.ok (.ret (.ref (s.heap.push { cls := .type "tuple_iterator", data := .fields #[.ref l, .int 0 0] }).objs.size)))
        { s with heap := (s.heap.push { cls := .type "tuple_iterator", data := .fields #[.ref l, .int 0 0] }).push { cls := .type "enumerate", data := .fields #[.none, .bool false, .ref s.heap.objs.size, rawInt 0, .none, .none] } }) :=
  .of_wp fun prog w A R s h => by
    obtain ⟨hp, g, d, tk, os⟩ := s; obtain ⟨hl, h⟩ := h
    have hsub := sub_enumerate
    have hL : Heap.IsTuple (Shared.heap ⟨hp, g, d, tk, os⟩) l items := ⟨_, hl, rfl, n, rfl⟩
    wp_walk using wpAny_loadPart' hl
    refine wpAny_stack_any fun st => wpAny_pure ?_
    split
    · rename_i c _ _ _ _ _
      cases (c == Value.type "enumerate")
      · wp_walk using wpAny_loadPart' hl, wpAny_pyIter_tuple hL
        exact ⟨_, rfl, h⟩
      · wp_walk using wpAny_loadPart' hl, wpAny_pyIter_tuple hL
        exact ⟨_, rfl, h⟩
    · wp_walk using wpAny_loadPart' hl, wpAny_pyIter_tuple hL
      exact ⟨_, rfl, h⟩
section
variable {prog : Program} {w : World} {A : Around} {E : Value → Shared → Prop} {s : Shared}
theorem call_enumerate_tuple {l : Addr} {items : Array Value} {Q : Value → Shared → Prop} (hL : s.heap.IsTuple l items)
    (h : ∀ h', IsEnum h' (s.heap.objs.size + 1) s.heap.objs.size 0 .none → h'.IsTupleIter s.heap.objs.size l 0 → h'.objs.size = s.heap.objs.size + 2 →
      (∀ b o, s.heap.get? b = some o → h'.get? b = some o) → Q (.ref (s.heap.objs.size + 1)) { s with heap := h' }) :
    wpAny (model prog w) A (call (.type "enumerate") [.ref l]) Q E s := by
  obtain ⟨⟨c, dct, dt, sl⟩, hl, hc, n, hd⟩ := hL
  replace hc : c = .type "tuple" := hc
  replace hd : dt = .seq items n := hd
  subst hc hd
  refine callType_new F.called_enumerate (by decide) (F.typeCall_enumerate_1 _) (F.newCall_enumerate_1 _) (fun obj => F.args_object_init_2 obj _) F.entry_enumerate_new
    (meets_enumerate_newT l items n dct sl) ⟨hl, ?_⟩
  have hz : (s.heap.push { cls := .type "tuple_iterator", data := .fields #[.ref l, .int 0 0] }).objs.size = s.heap.objs.size + 1 := Heap.size_push ..
  show _ ∧ _
  rw [hz]
  have he : IsEnum ((s.heap.push { cls := .type "tuple_iterator", data := .fields #[.ref l, .int 0 0] }).push
      { cls := .type "enumerate", data := .fields #[.none, .bool false, .ref s.heap.objs.size, rawInt 0, .none, .none] }) (s.heap.objs.size + 1) s.heap.objs.size 0 .none := by
    have := Heap.get?_push_size (s.heap.push { cls := .type "tuple_iterator", data := .fields #[.ref l, .int 0 0] })
      (o := { cls := .type "enumerate", data := .fields #[.none, .bool false, .ref s.heap.objs.size, rawInt 0, .none, .none] }) rfl
    rw [hz] at this; exact this
  refine ⟨⟨_, he, rfl⟩, h _ he ⟨_, Heap.get?_push_of_some _ (Heap.get?_push_size _ rfl), rfl, rfl⟩ (by rw [Heap.size_push, hz]) fun b o x => Heap.get?_push_of_some _ (Heap.get?_push_of_some _ x)⟩
theorem tup_at {h h' : Heap} {t : Addr} {items : Array Value} (x : h.IsTuple t items) (k : ∀ o, h.get? t = some o → h'.get? t = some o) : h'.IsTuple t items :=
  let ⟨o, ho, r⟩ := x; ⟨o, k o ho, r⟩
theorem draws_tuple {it t : Addr} {items : Array Value} (hne : t ≠ it) (hh : A.handled = none) : Draws prog w A it [it, t] items.size (fun i x => items[i]? = some x) (fun i h => h.IsTupleIter it t i ∧ h.IsTuple t items) where
  live := fun i h ⟨⟨o, ho, _⟩, _⟩ => ⟨o, ho⟩
  frame := fun i h h' ⟨a, b⟩ k => ⟨a.at (k it (by simp)), tup_at b (k t (by simp))⟩
  item := fun i s Q E hi ⟨a, b⟩ hQ => RZ.nextOf_tuple_item a b (x := items[i]) (Array.getElem?_eq_getElem hi) fun h' hit' sb => hQ _ h' s.toks (Array.getElem?_eq_getElem hi) ⟨hit', tup_at b fun o ho => (sb.2 t hne).trans ho⟩ sb
  done := fun s Q E ⟨a, b⟩ hE => RZ.nextOf_tuple_end hh a b (Array.getElem?_eq_none (Nat.le_refl _)) hE
theorem draws_over {it t : Addr} {items : Array Value} {i : Nat} (hi : items.size ≤ i) (hh : A.handled = none) : Draws prog w A it [it, t] 0 (fun _ _ => True) (fun _ h => h.IsTupleIter it t i ∧ h.IsTuple t items) where
  live := fun i h ⟨⟨o, ho, _⟩, _⟩ => ⟨o, ho⟩
  frame := fun i h h' ⟨a, b⟩ k => ⟨a.at (k it (by simp)), tup_at b (k t (by simp))⟩
  item := fun i s Q E hi _ _ => absurd hi (Nat.not_lt_zero _)
  done := fun s Q E ⟨a, b⟩ hE => RZ.nextOf_tuple_end hh a b (Array.getElem?_eq_none hi) hE
end
/-- the tuple at a as it stands at each turn, each item in a new pair -/
def ItT (K : PySem.W.Frag) (a : Addr) : It :=
  ⟨fun i H => ∃ (xs : List V) (x : V), SqT K H a xs ∧ xs[i]? = some x, fun i H v H' => ∃ T x, v = .ref T ∧ H T = none ∧ H' = upd H T (.tup [.int (i : Nat), x]) ∧ ∀ xs, SqT K H a xs → xs[i]? = some x, fun i H => ∃ xs : List V, SqT K H a xs ∧ xs.length ≤ i⟩
theorem turn_enumT {P : Program} {w : World} {K : PySem.W.Frag} {elts : List Expr} {kk : Nat} {tpos : Pos} (a e it : Addr) :
    Turn P w K (.Tuple elts kk tpos) (ItT K a) [e, it] e (fun i h => (∃ old, IsEnum h e it ((i : Nat) : Int) old) ∧ h.IsTupleIter it a i ∧ e ≠ it ∧ a ≠ it ∧ a ≠ e) where
  mem := by simp
  obj := fun i h st b hb => by
    obtain ⟨⟨old, he⟩, ⟨o, ho, hc, hd⟩, _⟩ := st
    have e' : b = e ∨ b = it := by simpa using hb
    rcases e' with z | z
    · rw [z]; exact ⟨_, he, fun v q => nomatch q⟩
    · rw [z]; exact ⟨o, ho, fun v q => by rw [hd] at q; cases q⟩
  keep := fun i h h' st k => let ⟨⟨old, he⟩, hi, hne⟩ := st; ⟨⟨old, k e (by simp) _ he⟩, hi.at fun o q => k it (by simp) o q, hne⟩
  item := by
    intro X hP hw hK hc i pins s σ H E I hf st hg
    subst hP hw hK
    obtain ⟨⟨old, he⟩, hit, hne, hai, hae⟩ := st
    obtain ⟨xs, x, hq, hx⟩ := hg
    obtain ⟨its, rv, p, hz⟩ := I.tuple hq
    obtain ⟨u, hu, ru⟩ := rv.get hx
    have hel : e < s.heap.objs.size := Heap.lt_size he
    have hil : it < s.heap.objs.size := by obtain ⟨_, q, _⟩ := hit; exact Heap.lt_size q
    have hlt : i < its.toArray.size := by simpa using (List.getElem?_eq_some_iff.mp hu).1
    have hef : e ∉ [it, a] := by simp; exact ⟨hne, Ne.symm hae⟩
    refine wpAny_pyNext_enum_itemD (draws_tuple (items := its.toArray) hai (I.ok.hd hc)) he ⟨hit, show s.heap.IsTuple a its.toArray from p⟩ hlt hne hef fun u' h' tk hu' ho hst' hT hsz hk => ?_
    have eu : u' = u := by
      have : its.toArray[i]? = some u := by simpa using hu
      rw [this] at hu'
      exact (Option.some.inj hu').symm
    subst eu
    refine ⟨_, rfl, wpAny_letOwnedTupleGo_enum (s := { s with heap := h', toks := tk + 1 }) ho fun h'' he' sb => ?_⟩
    have hT2 : h''.get? s.heap.objs.size = some { cls := .type "tuple", data := .seq #[.int i tk, u'] } := (sb.2 _ (Nat.ne_of_gt hel)).trans hT
    have new : ObjOk X.prog X.w (upd H s.heap.objs.size (.tup [.int (i : Nat), x])) h'' s.heap.objs.size (.tup [.int (i : Nat), x]) :=
      ⟨by show 2 ≤ sizeLine; decide, [.int i tk, u'], .cons ⟨_, rfl⟩ (.cons ru .nil), ⟨_, hT2, rfl, _, rfl⟩⟩
    have I1 : Inv X pins σ (upd H s.heap.objs.size (.tup [.int (i : Nat), x])) { s with heap := h'', toks := tk + 1 } :=
      I.turnedNew (ch := [e, it]) (fun b ob hb q => (sb.2 b (fun z => hb (by simp [z]))).trans (hk b ob (fun z => hb (by simp [z])) (fun z => hb (by simp [z])) q)) hf (Nat.le_refl _) new
    refine ⟨.ref s.heap.objs.size, _, I1, rfl, ⟨_, x, rfl, I.hok.fresh (Nat.le_refl _), rfl, fun ys hy => by rw [I.tuple_inj hy hq]; exact hx⟩, ⟨⟨u', ?_⟩, hst'.1.at fun o q => (sb.2 it (Ne.symm hne)).trans q, hne, hai, hae⟩, fun b hb => ?_⟩
    · have e1 : ((i + 1 : Nat) : Int) = (i : Int) + 1 := by omega
      rw [e1]; exact he'
    · have hb' : b < s.heap.objs.size := by
        have e' : b = e ∨ b = it := by simpa using hb
        rcases e' with z | z
        · rw [z]; exact hel
        · rw [z]; exact hil
      rw [upd_ne (Nat.ne_of_lt hb')]
      exact (hf b hb).1
  done := by
    intro X hP hw hK hc i pins s σ H E I hf st hg
    subst hP hw hK
    obtain ⟨⟨old, he⟩, hit, hne, hai, hae⟩ := st
    obtain ⟨xs, hq, hx⟩ := hg
    obtain ⟨its, rv, p, hz⟩ := I.tuple hq
    obtain ⟨f0, f1, f2, f3, f4, f5⟩ := hf it (by simp)
    have hl := rv.length
    exact wpAny_pyNext_enum_endD (draws_over (items := its.toArray) (i := i) (by simp; omega) (I.ok.hd hc)) he ⟨hit, show s.heap.IsTuple a its.toArray from p⟩ fun h' eb => ⟨rfl, I.turned (t' := s.toks) (fun b o hb q => eb b o hb q) f0 f1 f3 f4 f5⟩
  self := fun A i s Q E st h => let ⟨⟨_, he⟩, _⟩ := st; wpAny_pyIter_enum he h
def iEnumT (K : PySem.W.Frag) (ta : TA) : TI := fun σ H R => ta σ H fun vs H1 => ∃ a xs, vs = [.ref a] ∧ SqT K H1 a xs ∧ R (ItT K a) H1
theorem pi_enumT {X : Cx} {e : Expr} {ta : TA} {p pos tpos : Pos} {elts : List Expr} {kk : Nat} (hg : Gl X "enumerate") (hm : X.mg "enumerate" = none) (ha : PA X [e] ta) (hs : starEach [e] X.env = [(false, eval e X.env)] := by rfl) :
    PI X (.Tuple elts kk tpos) (.Call (.Name "enumerate" p) [e] [] pos) (iEnumT X.K ta) := by
  refine ⟨fun pins s σ H R I h => ?_⟩
  refine Call_ (ld_blt I hg hm boot_enumerate (PyProof.Rows.callWith_type1 (thn (ha.run pos pins s σ H _ I h) fun us s1 ⟨vs, H1, I1, r1, q1⟩ => ?_) hs rfl))
  obtain ⟨a, xs, ex, hq, q⟩ := q1
  subst ex
  cases r1 with
  | cons r rr =>
    cases rr
    cases r
    obtain ⟨its, rv, p', hz⟩ := I1.tuple hq
    have p'' : s1.heap.IsTuple a its.toArray := p'
    have hal : a < s1.heap.objs.size := by obtain ⟨_, q, _⟩ := p''; exact Heap.lt_size q
    refine call_enumerate_tuple p'' fun h' he hit hsz hk => wpAny_pyIter_enum he ?_
    have I2 : Inv X pins σ H1 { s1 with heap := h' } := I1.kept (t' := s1.toks) hk
    refine ⟨s1.heap.objs.size + 1, [s1.heap.objs.size + 1, s1.heap.objs.size], _, _, H1, rfl, I2, turn_enumT a (s1.heap.objs.size + 1) s1.heap.objs.size, ⟨⟨.none, he⟩, hit, Nat.succ_ne_self _, Nat.ne_of_lt hal, Nat.ne_of_lt (Nat.lt_succ_of_lt hal)⟩, fun b hb => ?_, q⟩
    have e' : b = s1.heap.objs.size + 1 ∨ b = s1.heap.objs.size := by simpa using hb
    have hle : s1.heap.objs.size ≤ b := by
      rcases e' with z | z
      · rw [z]; exact Nat.le_add_right _ _
      · rw [z]; exact Nat.le_refl _
    exact I1.fpOk hle (I1.hok.fresh hle)
def iEnumB (K : PySem.W.Frag) (ta : TA) : TI := fun σ H R => ta σ H fun vs H1 => (∃ a xs, vs = [.ref a] ∧ SqT K H1 a xs ∧ R (ItT K a) H1) ∨ (∃ a xs, vs = [.ref a] ∧ SqL K H1 a xs ∧ R (Ite K a) H1)
theorem pi_enumB {X : Cx} {e : Expr} {ta : TA} {p pos tpos : Pos} {elts : List Expr} {kk : Nat} (hg : Gl X "enumerate") (hm : X.mg "enumerate" = none) (ha : PA X [e] ta) (hs : starEach [e] X.env = [(false, eval e X.env)] := by rfl) :
    PI X (.Tuple elts kk tpos) (.Call (.Name "enumerate" p) [e] [] pos) (iEnumB X.K ta) := by
  refine ⟨fun pins s σ H R I h => ?_⟩
  refine Call_ (ld_blt I hg hm boot_enumerate (PyProof.Rows.callWith_type1 (thn (ha.run pos pins s σ H _ I h) fun us s1 ⟨vs, H1, I1, r1, q1⟩ => ?_) hs rfl))
  rcases q1 with ⟨a, xs, ex, hq, q⟩ | ⟨a, xs, ex, hq, q⟩
  · subst ex
    cases r1 with
    | cons r rr =>
      cases rr
      cases r
      obtain ⟨its, rv, p', hz⟩ := I1.tuple hq
      have p'' : s1.heap.IsTuple a its.toArray := p'
      have hal : a < s1.heap.objs.size := by obtain ⟨_, q, _⟩ := p''; exact Heap.lt_size q
      refine call_enumerate_tuple p'' fun h' he hit hsz hk => wpAny_pyIter_enum he ?_
      have I2 : Inv X pins σ H1 { s1 with heap := h' } := I1.kept (t' := s1.toks) hk
      refine ⟨s1.heap.objs.size + 1, [s1.heap.objs.size + 1, s1.heap.objs.size], _, _, H1, rfl, I2, turn_enumT a (s1.heap.objs.size + 1) s1.heap.objs.size, ⟨⟨.none, he⟩, hit, Nat.succ_ne_self _, Nat.ne_of_lt hal, Nat.ne_of_lt (Nat.lt_succ_of_lt hal)⟩, fun b hb => ?_, q⟩
      have e' : b = s1.heap.objs.size + 1 ∨ b = s1.heap.objs.size := by simpa using hb
      have hle : s1.heap.objs.size ≤ b := by
        rcases e' with z | z
        · rw [z]; exact Nat.le_add_right _ _
        · rw [z]; exact Nat.le_refl _
      exact I1.fpOk hle (I1.hok.fresh hle)
  · subst ex
    cases r1 with
    | cons r rr =>
      cases rr
      cases r
      obtain ⟨its, rv, p', hz⟩ := I1.list hq
      refine call_enumerate_list p'.isList fun h' he hit hsz hk => wpAny_pyIter_enum he ?_
      have I2 : Inv X pins σ H1 { s1 with heap := h' } := I1.kept (t' := s1.toks) hk
      refine ⟨s1.heap.objs.size + 1, [s1.heap.objs.size + 1, s1.heap.objs.size], _, _, H1, rfl, I2, turn_enum a (s1.heap.objs.size + 1) s1.heap.objs.size, ⟨⟨.none, he⟩, hit, Nat.succ_ne_self _⟩, fun b hb => ?_, q⟩
      have e' : b = s1.heap.objs.size + 1 ∨ b = s1.heap.objs.size := by simpa using hb
      have hle : s1.heap.objs.size ≤ b := by
        rcases e' with z | z
        · rw [z]; exact Nat.le_add_right _ _
        · rw [z]; exact Nat.le_refl _
      exact I1.fpOk hle (I1.hok.fresh hle)
section
variable {G : Gc} {Wx : WX} {X : Cx} {e : Expr} {f : EF} {pos : Pos}
theorem ok_enumT {W : Wd} {a : Addr} {xs : List V} {ds : List D} (r1 : RepL G.K W ds xs) (h1 : ∀ S W' H, W.sub W' → StR G S W' H → SqT G.K H a xs) : ItOk G W (ItT G.K a) (valsI (ds.mapIdx fun i x => .tup [.int i, x])) := by
  intro i S W' H l s
  show match some (ds.mapIdx fun i x => D.tup [.int i, x])[i]? with | some (some d) => _ | some none => _ | none => _
  rw [List.getElem?_mapIdx]
  cases e1 : ds[i]? with
  | none => exact ⟨xs, h1 S W' H l s, by rw [← r1.len]; exact List.getElem?_eq_none_iff.mp e1⟩
  | some d =>
    obtain ⟨v, g1, g2⟩ := r1.get e1
    refine ⟨⟨xs, v, h1 S W' H l s, g1⟩, fun x H2 ⟨T, x1, hx, hT, hH, hv⟩ => ?_⟩
    subst hx hH
    have q1 := hv xs (h1 S W' H l s)
    rw [g1] at q1; cases q1
    obtain ⟨le, s2⟩ := s.imm hT (.tup [.int (i : Nat), v])
    exact ⟨_, le, s2, .tup (SqT.of upd_same) (.cons (.int _) (.cons ((g2.ms l).mo le) .nil))⟩
/-- enumerate of a list or a tuple -/
def enumB (f : EF) : IF := fun env S => (f env S).bind fun a S1 => match a with
  | .lst xs => .ok (valsI (xs.mapIdx fun i x => .tup [.int i, x])) S1
  | .tup xs => .ok (valsI (xs.mapIdx fun i x => .tup [.int i, x])) S1
  | _ => .bad
theorem pi_enumBD {p tpos : Pos} {elts : List Expr} {kk : Nat} (hk : X.K = G.K) (hg : Gl X "enumerate") (hm : X.mg "enumerate" = none) (ha : PE X e (tE G Wx f)) (hs1 : starEach [e] X.env = (false, eval e X.env) :: starEach [] X.env) :
    PI X (.Tuple elts kk tpos) (.Call (.Name "enumerate" p) [e] [] pos) (tI G Wx (enumB f)) :=
  (pi_enumB hg hm (pa_cons ha pa_nil hs1) hs1).imp fun σ H R ⟨env, S, W, hs, he, h⟩ =>
    tE_mono (tE_then (P := fun W I S' => ∀ J H' W', W.le W' → StR G S' W' H' → ItOk G W' J I → R J H') (fun l z J H' W' l' => z J H' W' (l.trans l')) hs he h) fun v H1 ⟨S1, W1, d, l1, s1, e1, r1, o1⟩ => by
      cases r1 with
      | @lst a vs _ q r => exact .inr ⟨a, vs, rfl, SqL.of (s1.lst q), by rw [hk]; exact o1 _ H1 W1 (.refl _) s1 (ok_enum r fun S' W' H' l s => SqL.of (s.lst (l.z _ _ q)))⟩
      | @tup a vs _ q r => exact .inl ⟨a, vs, rfl, by rw [hk]; exact SqT.mo s1.rd q, by rw [hk]; exact o1 _ H1 W1 (.refl _) s1 (ok_enumT r fun S' W' H' l s => SqT.mo (fun {p o} h => s.rd (l.rd h)) q)⟩
      | _ => exact False.elim o1
end
end Lt
set_option maxRecDepth 100000
set_option maxHeartbeats 4000000
/-! sorted(set(list of ints)), from the library's level -/
namespace Lt
open PySem PySem.Spec PyProof.Rows L2
open PySem.Sem (wp)
open AutoSeq1 (wpAny_loadPart')
section
variable {P : Program} {w : World} {A : Around} {E : Value → Shared → Prop} {s : Shared}
abbrev noSet (w : World) : Obj := { cls := .type "set", dict := none, data := .set #[] 0 (.fresh 0 0 (!w.params.followText "set-order")) }
abbrev withSet (w : World) (h : Heap) : Heap := h.push (noSet w)
theorem set_of_list {l : Addr} {items : Array Value} (ns : List Int) {Q : Value → Shared → Prop} (hh : A.handled = none) (hl : s.heap.IsList l items) (hit : IntsAre items.toList ns) (hb : ns.length + 1 < scanBound)
    (h : ∀ (h' : Heap) (tk c : Nat), SetR w h' s.heap.objs.size (fun j => decide (j ∈ ns)) c → c ≤ ns.length → (∀ b o, s.heap.get? b = some o → h'.get? b = some o) → Q (.ref s.heap.objs.size) { s with heap := h', toks := tk }) :
    wpAny (model P w) A (call (.type "set") [.ref l]) Q E s := by
  have hisz : items.size = ns.length := (Array.length_toList ▸ IntsAre.length hit :)
  obtain ⟨c, tl, hmro⟩ := F.called_set.mro
  have m1 := F.called_set.made
  have m2 := F.called_set.sub
  refine wpAny_call (codeAny_of_tree ?_)
  show wpAny _ _ (callAny (.type "set") _) _ _ _
  refine wpAny_pure ⟨Code.quiet_builtin _ (by decide +kernel), codeAny_builtin F.entry_type_call ?_⟩
  rw [Around.under_plain (weight_type_call_type "set" [.ref l] []) rfl]
  have m3 := F.called_set.notType
  have m4 := F.called_set.canCreate
  have m5 := F.typeCall_set_1 (.ref l)
  repeat (any_goals (first | assumption | wp_step))
  refine codeAny_mono (L2.code_set_led1 (.ref l) (E := E) (Q₁ := fun obj t => obj = .ref s.heap.objs.size ∧ t = { s with heap := withSet w s.heap }) ⟨rfl, rfl⟩) fun r t hr => ?_
  cases r with
  | error e => exact hr
  | ok fl =>
    cases fl with
    | ret obj =>
      obtain ⟨rfl, rfl⟩ := hr
      have hS : (withSet w s.heap).get? s.heap.objs.size = some (noSet w) := Heap.get?_push_size _ rfl
      have hT : Shared.TypeIs { s with heap := withSet w s.heap } (.ref s.heap.objs.size) "set" := ⟨_, hS, rfl⟩
      have m6 := F.called_set.init.lookup
      have m7 := F.called_set.init.bind (.ref s.heap.objs.size)
      repeat (any_goals (first | assumption | wp_step))
      refine codeAny_mono (codeAny_call_builtin (R := wants (fun r t => r = .none ∧ ∃ h' tk c, t = { s with heap := h', toks := tk } ∧ SetR w h' s.heap.objs.size (fun j => decide (j ∈ ns)) c ∧ c ≤ ns.length ∧ ∀ b o, s.heap.get? b = some o → h'.get? b = some o) E) F.called_set.init.plain F.entry_set_init (check_set_init_1 hT ?_)) fun r2 t2 hr2 => ?_
      · obtain ⟨⟨ocls, odict, odata, oslots⟩, hol, hcl, nl, hdl⟩ := hl
        simp only at hcl hdl
        subst hcl hdl
        have hol' : (withSet w s.heap).get? l = some { cls := .type "list", dict := odict, data := .seq items nl, slots := oslots } := Heap.get?_push_of_some _ hol
        have m8 := F.sub_list_set
        have m9 := F.sub_list_frozenset
        have m10 : (Value.type "list" == Value.type "dict") = false := by decide
        have hl1 : (withSet w s.heap).IsList l items := ⟨_, hol', rfl, nl, rfl⟩
        unfold Builtin.«set.__init__» noKeywords Builtin.Frozenset.updateFrom
        generalize hPI : pyIter = PI
        wp_walk
        subst hPI
        refine wpAny_pyIter_list hl1 ?_
        refine wpAny_bind (wpAny_runValue ?_)
        have hlS : l < s.heap.objs.size := Heap.lt_size hol
        have hh3 : A.in1.in1.in1.handled = none := by simp [hh]
        have hz : (withSet w s.heap).objs.size = s.heap.objs.size + 1 := Heap.size_push ..
        have hneI : l ≠ (withSet w s.heap).objs.size := by rw [hz]; exact Nat.ne_of_lt (Nat.lt_succ_of_lt hlS)
        have hSf : s.heap.objs.size ∉ [(withSet w s.heap).objs.size, l] := by
          rw [hz]; simp only [List.mem_cons, List.not_mem_nil, or_false, not_or]; exact ⟨Nat.ne_of_lt (Nat.lt_succ_self _), Nat.ne_of_gt hlS⟩
        have hval : ∀ (i : Nat) (v : Value), items[i]? = some v → ∃ k t, ns[i]? = some k ∧ v = .int k t := fun i v hv => by
          have hi : i < ns.length := by rw [← hisz]; exact (Array.getElem?_eq_some_iff.mp hv).1
          obtain ⟨t, e⟩ := PyProof.Rows.IntsAre.int_at hit i v (by rw [Array.getElem?_toList]; exact hv)
          refine ⟨ns[i], t, List.getElem?_eq_getElem hi, ?_⟩
          rw [e, List.getD_eq_getElem?_getD, List.getElem?_eq_getElem hi] <;> rfl
        refine L2.set_update_ints ((Walks.list hh3 _ l hneI items).toS) s.heap.objs.size hSf ns hisz hb hval (items.size - 0) 0 _ (by omega) (Nat.zero_le _)
          ⟨⟨_, Heap.get?_push_size _ rfl, rfl, rfl⟩, (hl1.push _)⟩ ⟨0, Nat.le_refl 0, L2.setR_new_at (Heap.get?_push_of_some _ hS)⟩ ?_
        intro s' c' hm hc' hS'
        obtain ⟨h', g2, d', tk', os'⟩ := s'
        have eg : g2 = s.gens := hm.gens
        have ed : d' = s.drawn := hm.drawn
        have eo : os' = s.os := hm.os
        subst eg ed eo
        show wpAny _ _ _ _ _ _
        refine wpAny_pure ?_
        show wpAny _ _ (ret Value.none) _ _ _
        rw [hisz] at hc'
        refine wpAny_pure ⟨rfl, h', tk', c', rfl, hS', hc', fun b o e => ?_⟩
        have hb0 : b < s.heap.objs.size := Heap.lt_size e
        refine hm.heap b o ?_ (Heap.get?_push_of_some _ (Heap.get?_push_of_some _ e))
        rw [show (s.heap.push (noSet w)).objs.size = s.heap.objs.size + 1 from hz]
        simp only [List.mem_cons, List.not_mem_nil, or_false, not_or]
        exact ⟨Nat.ne_of_lt hb0, Nat.ne_of_lt (Nat.lt_succ_of_lt hb0)⟩
      · cases r2 with
        | error e => exact hr2
        | ok fl2 =>
          cases fl2 with
          | ret r =>
            obtain ⟨rfl, h', tk, c', rfl, hS', hc', hk'⟩ := hr2
            repeat (any_goals (first | assumption | wp_step))
            exact h _ _ _ hS' hc' hk'
          | _ => exact hr2.elim
    | _ => exact hr.elim
end
/-- sorted(set(a)), a list of ints -/
def tSrtSet (K : PySem.W.Frag) (ta : TE) : TE := fun σ H Q => ta σ H fun x H1 => ∃ (l : Addr) (ns : List Int), x = V.ref l ∧ SqL K H1 l (ns.map V.int) ∧ ns.length < 63 ∧
  ∀ (ns' : List Int) (p : Addr), ns'.Pairwise (· < ·) → (∀ k : Int, k ∈ ns' ↔ k ∈ ns) → H1 p = none → Q (.ref p) (upd H1 p (.lst (ns'.map V.int)))
theorem pe_srtSet {X : Cx} {a : Expr} {ta : TE} {p p2 q pos : Pos} (hg : Gl X "sorted") (hm : X.mg "sorted" = none) (hg2 : Gl X "set") (hm2 : X.mg "set" = none) (ha : PE X a ta) (hc : X.calm = true)
    (na : starEach [a] X.env = (false, eval a X.env) :: starEach [] X.env) (nb : starEach [.Call (.Name "set" p2) [a] [] q] X.env = (false, eval (.Call (.Name "set" p2) [a] [] q) X.env) :: starEach [] X.env) : PE X (.Call (.Name "sorted" p) [.Call (.Name "set" p2) [a] [] q] [] pos) (tSrtSet X.K ta) := by
  refine ⟨fun pins s σ H Q I h => ?_⟩
  refine Call_ (ld_blt I hg hm PyProof.Rows.boot_sorted ?_)
  refine PyProof.Rows.callWith_builtin1 (PyProof.Rows.args_cons ?_ nb) nb rfl
  refine Call_ (ld_blt I hg2 hm2 PyProof.Rows.boot_set ?_)
  refine PyProof.Rows.callWith_type1 (PyProof.Rows.args_cons (thn (ha.run pins s σ H _ I h) fun v s1 ⟨x, H1, I1, r1, q1⟩ => PyProof.Rows.args_nil ?_) na) na rfl
  obtain ⟨l, ns, rfl, hq, hl, q1⟩ := q1
  cases r1
  obtain ⟨its, r, pl, hz⟩ := I1.list hq
  have hd := I1.ok.hd hc
  refine set_of_list ns hd pl.isList (show IntsAre its.toArray.toList ns from ints_of_vals r) (by unfold scanBound; omega) fun h' tk c R hcn hk => ?_
  refine PyProof.Rows.args_nil ?_
  have I2 : Inv X pins σ H1 { s1 with heap := h', toks := tk } := I1.kept hk
  refine sorted_set (s := { s1 with heap := h', toks := tk }) R (I2.ok.hd hc) (by omega) fun s' p out c ns' k g o hp hg hi hs hmm hln => ?_
  have hlen : (ns'.map V.int).length ≤ sizeLine := by rw [List.length_map, hln, sizeLine_eq]; omega
  have hn : H1 p = none := I2.hok.fresh hp
  have J : Inv X pins σ (upd H1 p (.lst (ns'.map V.int))) { ({ s1 with heap := h', toks := tk } : Shared) with heap := s'.heap, gens := s'.gens, drawn := s'.drawn, toks := s'.toks } :=
    I2.call (ch := []) (Un.laid k hp hn) (I2.hok.laid k hp ⟨hlen, out.toList, _, vals_of_ints hi, hg⟩) (by rw [g]; exact I2.bare) (fun _ z => nomatch z)
  have e : s' = { s1 with heap := s'.heap, gens := s'.gens, drawn := s'.drawn, toks := s'.toks } := by
    cases s'
    cases s1
    cases o
    rfl
  rw [e]
  exact ⟨.ref p, _, J, rfl, q1 ns' p hs (fun j => by rw [hmm j, decide_eq_true_eq]) hn⟩
end Lt
set_option maxRecDepth 100000
set_option maxHeartbeats 4000000
/-! sorted(set(xs)) upon data -/
namespace Lt
open PySem PySem.Spec PyProof.Rows L2
def insS (k : Int) : List Int → List Int
  | [] => [k]
  | x :: r => if k < x then k :: x :: r else if k = x then x :: r else x :: insS k r
def srtS : List Int → List Int
  | [] => []
  | k :: r => insS k (srtS r)
theorem mem_insS {k j : Int} : ∀ {xs : List Int}, j ∈ insS k xs ↔ j = k ∨ j ∈ xs
  | [] => by simp [insS]
  | x :: r => by
    unfold insS
    split
    · simp
    · split
      · rename_i h; subst h; simp
      · rw [List.mem_cons, List.mem_cons, mem_insS (xs := r)]
        constructor
        · rintro (h | h | h)
          · exact .inr (.inl h)
          · exact .inl h
          · exact .inr (.inr h)
        · rintro (h | h | h)
          · exact .inr (.inl h)
          · exact .inl h
          · exact .inr (.inr h)
theorem pw_insS {k : Int} : ∀ {xs : List Int}, xs.Pairwise (· < ·) → (insS k xs).Pairwise (· < ·)
  | [], _ => by simp [insS]
  | x :: r, h => by
    obtain ⟨h1, h2⟩ := List.pairwise_cons.mp h
    unfold insS
    split
    · rename_i q
      refine List.pairwise_cons.mpr ⟨fun y hy => ?_, h⟩
      rcases List.mem_cons.mp hy with rfl | hy
      · exact q
      · have := h1 y hy; omega
    · split
      · exact h
      · refine List.pairwise_cons.mpr ⟨fun y hy => ?_, pw_insS h2⟩
        rcases mem_insS.mp hy with rfl | hy
        · omega
        · exact h1 y hy
theorem mem_srtS {j : Int} : ∀ {xs : List Int}, j ∈ srtS xs ↔ j ∈ xs
  | [] => by simp [srtS]
  | x :: r => by unfold srtS; rw [mem_insS, mem_srtS (xs := r), List.mem_cons]
theorem pw_srtS : ∀ (xs : List Int), (srtS xs).Pairwise (· < ·)
  | [] => List.Pairwise.nil
  | x :: r => pw_insS (pw_srtS r)
theorem up_uniq : ∀ {xs ys : List Int}, xs.Pairwise (· < ·) → ys.Pairwise (· < ·) → (∀ k, k ∈ xs ↔ k ∈ ys) → xs = ys
  | [], [], _, _, _ => rfl
  | [], y :: s, _, _, h => absurd ((h y).mpr List.mem_cons_self) (by simp)
  | x :: r, [], _, _, h => absurd ((h x).mp List.mem_cons_self) (by simp)
  | x :: r, y :: s, h1, h2, h => by
    obtain ⟨a1, a2⟩ := List.pairwise_cons.mp h1
    obtain ⟨b1, b2⟩ := List.pairwise_cons.mp h2
    have e : x = y := by
      rcases List.mem_cons.mp ((h x).mp List.mem_cons_self) with q | q
      · exact q
      · rcases List.mem_cons.mp ((h y).mpr List.mem_cons_self) with p | p
        · exact p.symm
        · have := a1 y p; have := b1 x q; omega
    subst e
    rw [up_uniq a2 b2 fun k => ?_]
    constructor
    · intro hk
      rcases List.mem_cons.mp ((h k).mp (List.mem_cons_of_mem _ hk)) with q | q
      · have := a1 k hk; omega
      · exact q
    · intro hk
      rcases List.mem_cons.mp ((h k).mpr (List.mem_cons_of_mem _ hk)) with q | q
      · have := b1 k hk; omega
      · exact q
theorem srtS_up {xs : List Int} (h : xs.Pairwise (· < ·)) : srtS xs = xs := up_uniq (pw_srtS xs) h fun k => mem_srtS
def setI : D → Option (List Int)
  | .lst xs => (intsD xs).bind fun ns => if ns.length < 63 then some ns else none
  | _ => none
def srtE (f : EF) : EF := fun env S => (f env S).bind fun d S1 => opt ((setI (vw S1 d)).map fun ns => .lst ((srtS ns).map .int)) S1
section
variable {G : Gc} {Wx : WX} {X : Cx} {e : Expr} {f : EF} {p p2 q pos : Pos}
theorem repL_ints {K : Kf} {W : Wd} : ∀ ns : List Int, RepL K W (ns.map D.int) (ns.map V.int)
  | [] => .nil
  | k :: r => .cons (.int k) (repL_ints r)
theorem pe_srtD (hk : X.K = G.K) (hg : Gl X "sorted") (hm : X.mg "sorted" = none) (hg2 : Gl X "set") (hm2 : X.mg "set" = none) (ha : PE X e (tE G Wx f)) (hc : X.calm = true)
    (na : starEach [e] X.env = (false, eval e X.env) :: starEach [] X.env) (nb : starEach [.Call (.Name "set" p2) [e] [] q] X.env = (false, eval (.Call (.Name "set" p2) [e] [] q) X.env) :: starEach [] X.env) :
    PE X (.Call (.Name "sorted" p) [.Call (.Name "set" p2) [e] [] q] [] pos) (tE G Wx (srtE f)) :=
  (pe_srtSet hg hm hg2 hm2 ha hc na nb).imp fun σ H Q ⟨env, S, W, hs, he, o⟩ =>
    tE_mono (tE_e hs he o) fun v H1 ⟨S1, W1, d, l1, s1, e1, r1, o1⟩ => by
      obtain ⟨r, hr, qq⟩ := opt_out o1
      have nd := r1.vw s1
      generalize vw S1 d = dd at nd hr
      cases nd with
      | @lst a vs ds h rl =>
        have hr' : (((intsD ds).bind fun ns => if ns.length < 63 then some ns else none).map fun ns => D.lst ((srtS ns).map .int)) = some r := hr
        cases en : intsD ds with
        | none => rw [en] at hr'; cases hr'
        | some ns =>
          rw [en] at hr'
          have hr2 : ((if ns.length < 63 then some ns else none).map fun ns => D.lst ((srtS ns).map .int)) = some r := hr'
          by_cases hl : ns.length < 63
          · rw [if_pos hl] at hr2
            cases hr2
            have ev := ints_V rl en
            subst ev
            refine ⟨a, ns, rfl, SqL.of h, hl, fun ns' p hp hmm hn => ?_⟩
            have e2 : ns' = srtS ns := up_uniq hp (pw_srtS ns) fun k => (hmm k).trans mem_srtS.symm
            subst e2
            obtain ⟨le, s2⟩ := s1.imm hn (.lst ((srtS ns).map V.int))
            exact qq _ _ _ le s2 (.lst upd_same (repL_ints _))
          · rw [if_neg hl] at hr2; cases hr2
      | _ => cases hr
end
end Lt
set_option maxRecDepth 100000
set_option maxHeartbeats 4000000
namespace Lt
open PySem PySem.Spec PyProof.Rows L2

/-! ### what a place of the program knows -/
structure Ct where
  N : List Str
  sc : Scope
  fx : Str → Bool
  fns : List (Str × Nat × List Str)
  bis : List Str
  ks : List (Str × D)
  kd : List (Str × List (Str × D))
  mu : List (Nat × Nat)
  wh : Nat
def Ct.isMu (C : Ct) (p : Pos) : Bool := C.mu.contains (p.line, p.col)
def Ct.gl (C : Ct) (x : Str) : Bool := C.sc.names.lookup x == some .globalImplicit && !(x == ("__debug__" : Str))
def Ct.own (C : Ct) (x : Str) : Bool := (C.sc.names.lookup x == some .local || C.sc.names.lookup x == some .cell || C.sc.names.lookup x == some .free) && !(x == ("__debug__" : Str)) && !(x == ("__classdict__" : Str))
/-- a name that is set here -/
def Ct.loc (C : Ct) (x : Str) : Bool := C.sc.names.lookup x == some .local || (C.sc.names.lookup x == some .cell && C.fx x)
def Ct.blk (C : Ct) (scope : Scope) : Ct := { C with sc := relS scope C.sc, fx := fun x => scope.names.lookup x == some .cell }
structure Ok (C : Ct) (Φ : Nat → Fn) (G : Gc) (Wx : WX) (X : Cx) : Prop where
  N : X.N = C.N
  nd : C.N.Nodup
  sc : X.env.scope = C.sc
  fx : ∀ x, C.fx x = true → X.fn x = true
  calm : X.calm = true
  k : X.K = G.K
  gd : X.A.guards = some []
  hux : X.A.units + 100 < cLine
  pass : PassesOwn (model X.prog X.w) X.A X.env X.xe
  tk : Takes X Wx
  fns : ∀ x i ps, C.fns.lookup x = some (i, ps) → ∃ f fd kk, X.mg x = some (.ref f) ∧ PySem.W.keepIn X.K (.ref f) = true ∧ FnG X.prog X.w X.K X.mg X.base kk f fd ps (spD G (Φ i) ps.length) ∧ Room kk X.A ∧ PlainFd fd ps
  bis : ∀ x, C.bis.contains x = true → X.mg x = none
  ks : ∀ x d, C.ks.lookup x = some d → ∃ u v, X.mg x = some u ∧ RelV v u ∧ ∀ W, Rep G.K W d v
  kd : ∀ x tb, C.kd.lookup x = some tb → ∃ a, X.mg x = some (.ref a) ∧ KTab G X.w a tb
theorem Ok.hu {C : Ct} {Φ : Nat → Fn} {G : Gc} {Wx : WX} {X : Cx} (o : Ok C Φ G Wx X) : X.A.units + 64 < cLine := by have := o.hux; omega
theorem Ok.hu65 {C : Ct} {Φ : Nat → Fn} {G : Gc} {Wx : WX} {X : Cx} (o : Ok C Φ G Wx X) : X.A.units + 65 < cLine := by have := o.hux; omega
theorem Ok.gl {C : Ct} {Φ : Nat → Fn} {G : Gc} {Wx : WX} {X : Cx} (o : Ok C Φ G Wx X) {x : Str} (h : C.gl x = true) : Gl X x ∧ (x == ("__debug__" : Str)) = false := by
  unfold Ct.gl at h
  rw [Bool.and_eq_true, beq_iff_eq] at h
  refine ⟨?_, by simpa using h.2⟩
  show X.env.scope.names.lookup x = _
  rw [o.sc]; exact h.1
theorem Ok.own {C : Ct} {Φ : Nat → Fn} {G : Gc} {Wx : WX} {X : Cx} (o : Ok C Φ G Wx X) {x : Str} (h : C.own x = true) : Vis X.env.scope x ∧ (x == ("__debug__" : Str)) = false ∧ (x == ("__classdict__" : Str)) = false := by
  unfold Ct.own at h
  rw [Bool.and_eq_true, Bool.and_eq_true, Bool.or_eq_true, Bool.or_eq_true, beq_iff_eq, beq_iff_eq, beq_iff_eq] at h
  refine ⟨?_, by simpa using h.1.2, by simpa using h.2⟩
  rw [o.sc]
  rcases h.1.1 with (h | h) | h
  · exact .inl h
  · exact .inr (.inl h)
  · exact .inr (.inr h)
theorem Ok.loc {C : Ct} {Φ : Nat → Fn} {G : Gc} {Wx : WX} {X : Cx} (o : Ok C Φ G Wx X) {x : Str} (h : C.loc x = true) : L2.Loc X.env.scope x ∧ (X.fn x = true ∨ X.env.scope.names.lookup x = some .local) := by
  unfold Ct.loc at h
  rw [Bool.or_eq_true, Bool.and_eq_true, beq_iff_eq, beq_iff_eq] at h
  rw [o.sc]
  rcases h with h | ⟨h, h2⟩
  · exact ⟨.inl h, .inr h⟩
  · exact ⟨.inr h, .inl (o.fx x h2)⟩
theorem Ok.w0 {C : Ct} {Φ : Nat → Fn} {G : Gc} {Wx : WX} {X : Cx} (o : Ok C Φ G Wx X) : Ok C Φ G W0 X :=
  ⟨o.N, o.nd, o.sc, o.fx, o.calm, o.k, o.gd, o.hux, o.pass, takes0, o.fns, o.bis, o.ks, o.kd⟩
theorem Ok.blk {C : Ct} {Φ : Nat → Fn} {G : Gc} {Wx : WX} {X : Cx} (o : Ok C Φ G Wx X) (scope : Scope) (s : Shared) (H : Hp) (cA : Addr) (cl : List (Str × Addr)) (fp : List Addr) :
    Ok (C.blk scope) Φ G W0 (X.blk s H scope (compEnvC scope cl cA X.env) fp) :=
  ⟨o.N, o.nd, by show relabel scope X.env = relS scope C.sc; rw [← o.sc]; rfl, fun x h => h, o.calm, o.k, o.gd, o.hux, PassesOwn.never, takes0, o.fns, o.bis, o.ks, o.kd⟩

/-! ### from the program's text to functions upon data -/
structure Cmp where
  E : Ct → Expr → Option EF
  T : Ct → Expr → Option TF
  I : Ct → Expr → Expr → Option IF
  G : Ct → List Nat → Expr → Option GF
  Ss : Ct → List Stmt → Option SF
def cstD : Const → Option D
  | .none => some .non
  | .bool b => some (.bl b)
  | .int i => some (.int i)
  | .str x => some (.str x)
  | _ => none
def eName (C : Ct) (x : Str) : Option EF :=
  if C.own x = true then (slot C.N x).map var
  else if C.gl x = true then (C.ks.lookup x).map cst
  else none
section
variable (c : Cmp) (Φ : Nat → Fn) (C : Ct)
def cA : List Expr → Option AF
  | [] => some nilA
  | e :: es => if notStar e = true then (c.E C e).bind fun f => (cA es).bind fun h => some (consA f h) else none
def cK : List Keyword → Option AF
  | [] => some nilA
  | k :: ks => (c.E C k.value).bind fun f => (cK ks).bind fun h => some (consA f h)
def cAnd : List Expr → Option EF
  | [] => none
  | [e] => c.E C e
  | e :: e2 :: es => (c.E C e).bind fun f => (cAnd (e2 :: es)).bind fun g => some (andE f g)
def cOr : List Expr → Option EF
  | [] => none
  | [e] => c.E C e
  | e :: e2 :: es => (c.E C e).bind fun f => (cOr (e2 :: es)).bind fun g => some (orE f g)
def tAnds : List Expr → Option TF
  | [] => none
  | [e] => c.T C e
  | e :: e2 :: es => (c.T C e).bind fun f => (tAnds (e2 :: es)).bind fun g => some (andT f g)
def tOrs : List Expr → Option TF
  | [] => none
  | [e] => c.T C e
  | e :: e2 :: es => (c.T C e).bind fun f => (tOrs (e2 :: es)).bind fun g => some (orT f g)
def cPrs : List (Option Expr) → List Expr → Option (List (EF × EF))
  | [], [] => some []
  | some k :: ks, v :: vs => (c.E C k).bind fun f => (c.E C v).bind fun g => (cPrs ks vs).bind fun r => some ((f, g) :: r)
  | _, _ => none
def cO : Option Expr → Option OF
  | none => some noP
  | some e => (c.E C e).bind fun f => some (soP f)
def callP (φ : Fn) (h : AF) : EF := fun env S => (h env S).bind fun ds S1 => φ ds S1
def eOwn (i : Nat) (ps : List Str) (args : List Expr) (kws : List Keyword) : Option EF :=
  match args, kws with
  | a :: as, [] => if (a :: as).length = ps.length then (cA c C (a :: as)).bind fun h => some (callP (Φ i) h) else none
  | a :: as, k :: ks => (permOf ps (a :: as).length ((k :: ks).filterMap (·.arg))).bind fun π => if ((k :: ks).all fun k => k.arg.isSome) = true then (cA c C (a :: as)).bind fun h => (cK c C (k :: ks)).bind fun h2 => some (callE (Φ i) π (appA h h2)) else none
  | [], k :: ks => (permOf ps 0 ((k :: ks).filterMap (·.arg))).bind fun π => if ((k :: ks).all fun k => k.arg.isSome) = true then (cK c C (k :: ks)).bind fun h2 => some (callE (Φ i) π h2) else none
  | [], [] => none
def oneNm : List Expr → Option Str
  | [.Name t _] => some t
  | _ => none
def eBi (x : Str) (args : List Expr) : Option EF :=
  match args with
  | [] => none
  | a :: as =>
    if C.bis.contains x = true then
      match biOf x with
      | some b => (biGo b (a :: as).length).bind fun go => (cA c C (a :: as)).bind fun h => some (pN go h)
      | none =>
        if x = "isinstance" then
          (oneNm as).bind fun t => if (notStar a && C.gl t && C.bis.contains t) = true then (tyNm t).bind fun T => (c.E C a).bind fun f => some (pU (isiD T) f) else none
        else none
    else none
def eMeth (o : Expr) (m : Str) : List Expr → Option EF
  | [a] =>
    if notStar a = true then
      if m = "append" then (c.E C o).bind fun f => (c.E C a).bind fun g => some (appE f g)
      else if m = "get" then (c.E C o).bind fun f => (c.E C a).bind fun g => some (get1E f g)
      else if m = "count" then (c.E C o).bind fun f => (c.E C a).bind fun g => some (mthB cntD f g)
      else if m = "index" then (c.E C o).bind fun f => (c.E C a).bind fun g => some (mthB idxD f g)
      else if m = "pop" then (c.E C o).bind fun f => (c.E C a).bind fun g => some (popE f g)
      else none
    else none
  | [a, b] => if (notStar a && notStar b) = true then if m = "get" then (c.E C o).bind fun f => (c.E C a).bind fun g => (c.E C b).bind fun h => some (get2E f g h) else none else none
  | _ => none
def setArg (x : Str) : List Expr → Option Expr
  | [.Call (.Name y _) [a] [] _] => if x = "sorted" ∧ y = "set" then some a else none
  | _ => none
def eBiS (x : Str) (args : List Expr) : Option EF :=
  match setArg x args with
  | some a => if (C.bis.contains "sorted" && C.gl "set" && C.bis.contains "set" && notStar a) = true then (c.E C a).bind fun f => some (srtE f) else none
  | none => eBi c C x args
def eCall (fn : Expr) (args : List Expr) (kws : List Keyword) (pos : Pos) : Option EF :=
  match fn with
  | .Name x _ =>
    if C.gl x = true then
      match C.fns.lookup x with
      | some (i, ps) => eOwn c Φ C i ps args kws
      | none => if kws.isEmpty = true then eBiS c C x args else none
    else none
  | .Attribute o m apos =>
    if (plainO o && (apos.endLine == pos.line) && kws.isEmpty) = true then eMeth c C o m args else none
  | _ => none
def ownOf (scope : Scope) : List (Str × Nat) := scope.names.filterMap fun y => if (y.2 == .local || y.2 == .cell) = true then (slot C.N y.1).map fun i => (y.1, i) else none
def eLc (elt tg iter : Expr) (ifs : List Expr) (scope : Scope) : Option AF :=
  if (notSet iter && blkC C.N C.sc scope (ownOf C scope)) = true then
    (c.I C tg iter).bind fun it => (c.G (C.blk scope) ((ownOf C scope).map (·.2)) tg).bind fun g => (c.E (C.blk scope) elt).bind fun f =>
      match ifs with
      | [] => some (lcA it ((ownOf C scope).map (·.2)) g yesT f)
      | [t] => (c.T (C.blk scope) t).bind fun tt => some (lcA it ((ownOf C scope).map (·.2)) g tt f)
      | _ => none
  else none
def eIx (i : Expr) : Expr → Option EF
  | .Name x p => if C.gl x = true then
      match C.kd.lookup x with
      | some tb => (c.E C i).bind fun g => some (kixE tb g)
      | none => (c.E C (.Name x p)).bind fun f => (c.E C i).bind fun g => some (pB ixD f g)
    else (c.E C (.Name x p)).bind fun f => (c.E C i).bind fun g => some (pB ixD f g)
  | e => (c.E C e).bind fun f => (c.E C i).bind fun g => some (pB ixD f g)
def eSub (e i : Expr) : Option EF :=
  match i with
  | .Slice lo hi none _ => (c.E C e).bind fun f => (cO c C lo).bind fun l => (cO c C hi).bind fun h => some (sliceE f l h)
  | .Slice none none (some (.UnaryOp .USub (.Constant (.int 1) _ _) _)) _ => (c.E C e).bind fun f => some (pU revD f)
  | i => if plainI i = true then eIx c C i e else none
def isAdd : Operator → Bool
  | .Add => true
  | _ => false
def stE : Expr → Option EF
  | .Name x _ => eName C x
  | .Constant k _ _ => (cstD k).map cst
  | .BinOp a op b pos => if (C.isMu pos && isAdd op) = true then (c.E C a).bind fun f => (c.E C b).bind fun g => some (pBM f g) else (binGo op).bind fun go => (c.E C a).bind fun f => (c.E C b).bind fun g => some (pB go f g)
  | .UnaryOp .USub a _ => (c.E C a).bind fun f => some (pU negD f)
  | .UnaryOp .Not a _ => (c.E C a).bind fun f => some (notE f)
  | .BoolOp .And es _ => cAnd c C es
  | .BoolOp .Or es _ => cOr c C es
  | .Compare a [op] [b] _ => if notSet b = true then (cmpGo op).bind fun go => (c.E C a).bind fun f => (c.E C b).bind fun g => some (pB go f g) else none
  | .Compare a [op, op'] [b, d] _ => if (notSet b && notSet d) = true then (cmpGo op).bind fun p => (cmpGo op').bind fun q => (c.E C a).bind fun f => (c.E C b).bind fun g => (c.E C d).bind fun h => some (chE p q f g h) else none
  | .IfExp t a b _ => (c.T C t).bind fun t => (c.E C a).bind fun f => (c.E C b).bind fun g => some (ifE t f g)
  | .Tuple es _ _ => (cA c C es).bind fun h => some (tupE h)
  | .List es pos => (cA c C es).bind fun h => some (if C.isMu pos = true then lstM h else lstE h)
  | .Dict [] [] pos => some (if C.isMu pos = true then dicM else cst (.dic [] []))
  | .Dict (k :: keys) values _ => if ((k :: keys).all (·.isSome) && decide ((k :: keys).length = values.length) && decide ((k :: keys).length ≤ 15)) = true then (cPrs c C (k :: keys) values).bind fun r => some (dicE r) else none
  | .Subscript e i _ => eSub c C e i
  | .Call fn args kws pos => eCall c Φ C fn args kws pos
  | .ListComp elt [⟨tg, iter, ifs, 0⟩] scope pos => (eLc c C elt tg iter ifs scope).bind fun h => some (if C.isMu pos = true then lcM h else lcE h)
  | _ => none
def stT : Expr → Option TF
  | .Compare a [op] [b] _ => if notSet b = true then (cmpGo op).bind fun go => (c.E C a).bind fun f => (c.E C b).bind fun g => some (tst (pB go f g)) else none
  | .Compare a [op, op'] [b, d] _ => if (notSet b && notSet d) = true then (cmpGo op).bind fun p => (cmpGo op').bind fun q => (c.E C a).bind fun f => (c.E C b).bind fun g => (c.E C d).bind fun h => some (tst (chE p q f g h)) else none
  | .UnaryOp .Not a _ => (c.T C a).bind fun f => some (notT f)
  | .BoolOp .And es _ => tAnds c C es
  | .BoolOp .Or es _ => tOrs c C es
  | e => if plainT e = true then (c.E C e).bind fun f => some (tst f) else none
def isTup : Expr → Bool
  | .Tuple _ _ _ => true
  | _ => false
def stIC (x : Str) (tup : Bool) : List Expr → Option IF
  | [a] => if x = "range" then (c.E C a).bind fun f => some (rng1 f) else if (x = "enumerate" ∧ tup = true) then (c.E C a).bind fun f => some (enumB f) else none
  | [a, b] => if x = "range" then (c.E C a).bind fun f => (c.E C b).bind fun g => some (rng2 f g) else if (x = "zip" ∧ tup = true) then (c.E C a).bind fun f => (c.E C b).bind fun g => some (zipI f g) else none
  | _ => none
def itNm (x : Str) : Bool := x == "range" || x == "zip" || x == "enumerate"
def stI (tg : Expr) : Expr → Option IF
  | .Call (.Name x p) args [] pos =>
    if (itNm x && C.gl x && C.bis.contains x && args.all notStar) = true then stIC c C x (isTup tg) args
    else (c.E C (.Call (.Name x p) args [] pos)).bind fun f => some (walk f)
  | e => (c.E C e).bind fun f => some (walk f)
def cGs (vs : List Nat) : List Expr → Option GsF
  | [] => some gNl
  | e :: es => if notStar e = true then (c.G C vs e).bind fun g => (cGs vs es).bind fun h => some (gCs g h) else none
def stG (vs : List Nat) : Expr → Option GF
  | .Name x _ => if C.loc x = true then (slot C.N x).bind fun i => if vs.contains i = true then some (gNm i) else none else none
  | .Tuple es _ _ => (cGs c C vs es).bind fun h => some (gTp es.length h)
  | .Subscript o i _ => if plainI i = true then (c.E C o).bind fun f => (c.E C i).bind fun g => some (gSb f g) else none
  | _ => none
end
end Lt
set_option maxRecDepth 100000
set_option maxHeartbeats 4000000
namespace Lt
open PySem PySem.Spec PyProof.Rows L2

structure Cmp.Snd (c : Cmp) (Φ : Nat → Fn) : Prop where
  E : ∀ {C : Ct} {e : Expr} {f : EF}, c.E C e = some f → ∀ {G : Gc} {Wx : WX} {X : Cx}, Ok C Φ G Wx X → PE X e (tE G Wx f)
  T : ∀ {C : Ct} {e : Expr} {f : TF}, c.T C e = some f → ∀ {G : Gc} {Wx : WX} {X : Cx}, Ok C Φ G Wx X → PT X e (tT G Wx f)
  I : ∀ {C : Ct} {tg e : Expr} {f : IF}, c.I C tg e = some f → ∀ {G : Gc} {Wx : WX} {X : Cx}, Ok C Φ G Wx X → PI X tg e (tI G Wx f)
  G : ∀ {C : Ct} {vs : List Nat} {tg : Expr} {f : GF}, c.G C vs tg = some f → ∀ {G : Gc} {Wx : WX} {X : Cx}, Ok C Φ G Wx X → PG X tg (tG G vs f)
  Ss : ∀ {C : Ct} {b : List Stmt} {f : SF}, c.Ss C b = some f → ∀ {G : Gc} {Wx : WX} {X : Cx}, Ok C Φ G Wx X → PSs X b (tS G Wx f)
theorem bnd {α β : Type} {o : Option α} {k : α → Option β} {r : β} (h : o.bind k = some r) : ∃ a, o = some a ∧ k a = some r := Option.bind_eq_some_iff.mp h
theorem ifs {α : Type} {p : Prop} [Decidable p] {k : Option α} {r : α} (h : (if p then k else none) = some r) : p ∧ k = some r := by
  by_cases c : p
  · rw [if_pos c] at h; exact ⟨c, h⟩
  · rw [if_neg c] at h; cases h
section
variable {c : Cmp} {Φ : Nat → Fn} {C : Ct} {G : Gc} {Wx : WX} {X : Cx}
theorem eName_ok (o : Ok C Φ G Wx X) {x : Str} {pos : Pos} {f : EF} (h : eName C x = some f) : PE X (.Name x pos) (tE G Wx f) := by
  unfold eName at h
  by_cases h1 : C.own x = true
  · rw [if_pos h1] at h
    cases q : slot C.N x with
    | none => rw [q] at h; cases h
    | some i =>
      rw [q] at h; cases h
      obtain ⟨v, d1, d2⟩ := o.own h1
      exact pe_varD (by rw [o.N]; exact slot_get q) v d1 d2
  · rw [if_neg h1] at h
    obtain ⟨h2, h⟩ := ifs h
    cases q : C.ks.lookup x with
    | none => rw [q] at h; cases h
    | some d =>
      rw [q] at h; cases h
      obtain ⟨g, d1⟩ := o.gl h2
      obtain ⟨u, v, m, r, rp⟩ := o.ks x d q
      exact pe_cst (pe_glob g m r d1) rp
theorem eConst_ok {k : Const} {j : Nat} {pos : Pos} {d : D} (h : cstD k = some d) : PE X (.Constant k j pos) (tE G Wx (cst d)) := by
  cases k <;> cases h
  · exact pe_cst pe_non fun _ => .non
  · exact pe_cst pe_bl fun _ => .bl _
  · exact pe_cst pe_int fun _ => .int _
  · exact pe_cst pe_str fun _ => .str _
theorem cA_star {es : List Expr} {f : AF} (h : cA c C es = some f) : es.all notStar = true := by
  induction es generalizing f with
  | nil => rfl
  | cons e es ih =>
    unfold cA at h
    obtain ⟨h1, h⟩ := ifs h
    obtain ⟨f1, _, h⟩ := bnd h
    obtain ⟨f2, h2, _⟩ := bnd h
    rw [List.all_cons, h1, ih h2]; rfl
theorem cA_ok (s : c.Snd Φ) (o : Ok C Φ G Wx X) : ∀ {es : List Expr} {f : AF}, cA c C es = some f → PA X es (tA G Wx f)
  | [], f, h => by cases h; exact pa_nilD
  | e :: es, f, h => by
    unfold cA at h
    obtain ⟨h1, h⟩ := ifs h
    obtain ⟨f1, hf, h⟩ := bnd h
    obtain ⟨f2, h2, h⟩ := bnd h
    cases h
    exact pa_consD (s.E hf o) (cA_ok s o h2) (star_cons h1)
theorem cA_len : ∀ {es : List Expr} {f : AF}, cA c C es = some f → ∀ env S ds S1, f env S = .ok ds S1 → ds.length = es.length
  | [], f, h, env, S, ds, S1, e => by cases h; cases e; rfl
  | x :: es, f, h, env, S, ds, S1, e => by
    unfold cA at h
    obtain ⟨h1, h⟩ := ifs h
    obtain ⟨f1, hf, h⟩ := bnd h
    obtain ⟨f2, h2, h⟩ := bnd h
    cases h
    unfold consA at e
    cases q : f1 env S with
    | exc _ _ _ => rw [q] at e; cases e
    | bad => rw [q] at e; cases e
    | ok a S2 =>
      rw [q] at e
      simp only [Res.bind] at e
      cases q2 : f2 env S2 with
      | exc _ _ _ => rw [q2] at e; cases e
      | bad => rw [q2] at e; cases e
      | ok b S3 =>
        rw [q2] at e; cases e
        rw [List.length_cons, List.length_cons, cA_len h2 _ _ _ _ q2]
theorem cK_ok (s : c.Snd Φ) (o : Ok C Φ G Wx X) : ∀ {es : List Keyword} {f : AF}, cK c C es = some f → PK X es (tA G Wx f)
  | [], f, h => by cases h; exact pk_nilD
  | ⟨nm, e, kp⟩ :: es, f, h => by
    unfold cK at h
    obtain ⟨f1, hf, h⟩ := bnd h
    obtain ⟨f2, h2, h⟩ := bnd h
    cases h
    exact pk_consD (s.E hf o) (cK_ok s o h2)
theorem cK_len : ∀ {es : List Keyword} {f : AF}, cK c C es = some f → ∀ env S ds S1, f env S = .ok ds S1 → ds.length = es.length
  | [], f, h, env, S, ds, S1, e => by cases h; cases e; rfl
  | x :: es, f, h, env, S, ds, S1, e => by
    unfold cK at h
    obtain ⟨f1, hf, h⟩ := bnd h
    obtain ⟨f2, h2, h⟩ := bnd h
    cases h
    unfold consA at e
    cases q : f1 env S with
    | exc _ _ _ => rw [q] at e; cases e
    | bad => rw [q] at e; cases e
    | ok a S2 =>
      rw [q] at e
      simp only [Res.bind] at e
      cases q2 : f2 env S2 with
      | exc _ _ _ => rw [q2] at e; cases e
      | bad => rw [q2] at e; cases e
      | ok b S3 =>
        rw [q2] at e; cases e
        rw [List.length_cons, List.length_cons, cK_len h2 _ _ _ _ q2]
theorem cAnd_ok (s : c.Snd Φ) (o : Ok C Φ G Wx X) {pos : Pos} : ∀ {es : List Expr} {f : EF}, cAnd c C es = some f → PE X (.BoolOp .And es pos) (tE G Wx f)
  | [], f, h => by cases h
  | [e], f, h => pe_one (s.E h o)
  | e :: e2 :: es, f, h => by
    unfold cAnd at h
    obtain ⟨f1, hf, h⟩ := bnd h
    obtain ⟨f2, h2, h⟩ := bnd h
    cases h
    exact pe_andD o.k (s.E hf o) (cAnd_ok s o h2)
theorem cOr_ok (s : c.Snd Φ) (o : Ok C Φ G Wx X) {pos : Pos} : ∀ {es : List Expr} {f : EF}, cOr c C es = some f → PE X (.BoolOp .Or es pos) (tE G Wx f)
  | [], f, h => by cases h
  | [e], f, h => pe_one (s.E h o)
  | e :: e2 :: es, f, h => by
    unfold cOr at h
    obtain ⟨f1, hf, h⟩ := bnd h
    obtain ⟨f2, h2, h⟩ := bnd h
    cases h
    exact pe_orD o.k (s.E hf o) (cOr_ok s o h2)
theorem tAnds_ok (s : c.Snd Φ) (o : Ok C Φ G Wx X) {pos : Pos} : ∀ {es : List Expr} {f : TF}, tAnds c C es = some f → PW X (.BoolOp .And es pos) (tT G Wx f)
  | [], f, h => by cases h
  | [e], f, h => pw_and1 (s.T h o)
  | e :: e2 :: es, f, h => by
    unfold tAnds at h
    obtain ⟨f1, hf, h⟩ := bnd h
    obtain ⟨f2, h2, h⟩ := bnd h
    cases h
    exact pw_andD (s.T hf o) (tAnds_ok s o h2)
theorem tOrs_ok (s : c.Snd Φ) (o : Ok C Φ G Wx X) {pos : Pos} : ∀ {es : List Expr} {f : TF}, tOrs c C es = some f → PW X (.BoolOp .Or es pos) (tT G Wx f)
  | [], f, h => by cases h
  | [e], f, h => pw_or1 (s.T h o)
  | e :: e2 :: es, f, h => by
    unfold tOrs at h
    obtain ⟨f1, hf, h⟩ := bnd h
    obtain ⟨f2, h2, h⟩ := bnd h
    cases h
    exact pw_orD (s.T hf o) (tOrs_ok s o h2)
theorem cPrs_ok (s : c.Snd Φ) (o : Ok C Φ G Wx X) {pos : Pos} : ∀ {ks : List (Option Expr)} {vs : List Expr} {fs : List (EF × EF)}, cPrs c C ks vs = some fs → PPs X pos ks vs (fs.map fun p => (tE G Wx p.1, tE G Wx p.2))
  | [], [], fs, h => by cases h; exact pps_nilD
  | some k :: ks, v :: vs, fs, h => by
    unfold cPrs at h
    obtain ⟨f1, hf, h⟩ := bnd h
    obtain ⟨f2, h2, h⟩ := bnd h
    obtain ⟨f3, h3, h⟩ := bnd h
    cases h
    exact pps_consD (s.E hf o) (s.E h2 o) (cPrs_ok s o h3)
  | none :: _, _, fs, h => by cases h
  | [], _ :: _, fs, h => by cases h
  | some _ :: _, [], fs, h => by cases h
theorem cO_ok (s : c.Snd Φ) (o : Ok C Φ G Wx X) {e : Option Expr} {f : OF} (h : cO c C e = some f) : PO X e (tO f Wx G) := by
  cases e with
  | none => cases h; exact po_noneD
  | some e =>
    unfold cO at h
    obtain ⟨f1, hf, h⟩ := bnd h
    cases h
    exact po_someD (s.E hf o)
/-! calls -/
theorem perm_id {α : Type} (xs : List α) : permL (List.range xs.length) xs = xs := by
  unfold permL
  induction xs with
  | nil => rfl
  | cons a xs ih =>
    rw [List.length_cons, List.range_succ_eq_map, List.filterMap_cons]
    simp only [List.getElem?_cons_zero, List.filterMap_map]
    congr 1
theorem slot_app : ∀ (pre ps : List Str), (pre ++ ps).Nodup → (ps.map fun p => slot (pre ++ ps) p) = (List.range ps.length).map fun i => some (pre.length + i)
  | pre, [], _ => rfl
  | pre, p :: ps, h => by
    have hs : ∀ (pre : List Str) (r : List Str), p ∉ pre → slot (pre ++ p :: r) p = some pre.length := by
      intro pre r hp
      induction pre with
      | nil => simp [slot]
      | cons a pre ih =>
        have hne : (p == a) = false := by rw [beq_eq_false_iff_ne]; rintro rfl; exact hp List.mem_cons_self
        rw [List.cons_append]
        unfold slot
        rw [if_neg (by rw [hne]; simp), ih fun z => hp (List.mem_cons_of_mem _ z)]
        simp
    have hp : p ∉ pre := by
      intro z
      rw [List.nodup_append] at h
      exact h.2.2 p z p (by simp) rfl
    rw [List.map_cons, hs pre ps hp, List.length_cons, List.range_succ_eq_map, List.map_cons]
    have ih := slot_app (pre ++ [p]) ps (by simpa using h)
    rw [List.append_assoc, List.singleton_append] at ih
    rw [ih, List.map_map]
    simp only [List.cons.injEq, Option.some.injEq]
    refine ⟨by omega, ?_⟩
    apply List.map_congr_left
    intro i _
    simp only [Function.comp, List.length_append, List.length_singleton, Option.some.injEq]
    omega
theorem perm_pos {ps : List Str} (h : ps.Nodup) : permOf ps ps.length [] = some (List.range ps.length) := by
  have e := slot_app [] ps (by simpa using h)
  simp only [List.nil_append, List.length_nil, Nat.zero_add] at e
  unfold permOf
  rw [List.take_length, List.append_nil]
  have hall : (ps.all fun p => (slot ps p).isSome) = true := by
    rw [List.all_eq_true]
    intro p hp
    have : slot ps p ∈ ps.map fun p => slot ps p := List.mem_map.mpr ⟨p, hp, rfl⟩
    rw [e] at this
    obtain ⟨i, _, hi⟩ := List.mem_map.mp this
    rw [← hi]; rfl
  rw [if_pos ⟨by simp, h, rfl, hall⟩]
  congr 1
  have : ps.filterMap (slot ps) = (ps.map fun p => slot ps p).filterMap id := by rw [List.filterMap_map]; rfl
  rw [this, e, List.filterMap_map]
  simp
theorem permOf_len {ps ks : List Str} {n : Nat} {π : List Nat} (h : permOf ps n ks = some π) : ∀ xs : List D, xs.length = n + ks.length → (permL π xs).length = ps.length := by
  intro xs hx
  unfold permOf at h
  split at h
  · rename_i hc
    cases h
    obtain ⟨h1, h2, h3, h4⟩ := hc
    have hl : (ps.take n ++ ks).length = xs.length := by rw [List.length_append, List.length_take, hx]; omega
    have gen : ∀ qs : List Str, (qs.all fun p => (slot (ps.take n ++ ks) p).isSome) = true → (permL (qs.filterMap (slot (ps.take n ++ ks))) xs).length = qs.length := by
      intro qs
      induction qs with
      | nil => intro _; rfl
      | cons q qs ih =>
        intro hq
        rw [List.all_cons, Bool.and_eq_true] at hq
        obtain ⟨i, hi⟩ := Option.isSome_iff_exists.mp hq.1
        have hlt : i < xs.length := by rw [← hl]; exact slot_lt hi
        have := ih hq.2
        unfold permL at this ⊢
        rw [List.filterMap_cons, hi]
        simp only []
        rw [List.filterMap_cons, List.getElem?_eq_getElem hlt]
        simp only [List.length_cons, this]
    exact gen ps h4
  · cases h
theorem kw_trees {env : Env} {pos : Pos} : ∀ {kws : List Keyword}, (kws.all fun k => k.arg.isSome) = true → (backToKw pos (keywordEach kws env)).all (·.1.isSome) = true ∧ (backToKw pos (keywordEach kws env)).any (·.1.isNone) = false ∧ (backToKw pos (keywordEach kws env)).filterMap (·.1) = kws.filterMap (·.arg)
  | [], _ => ⟨rfl, rfl, rfl⟩
  | ⟨nm, e, kp⟩ :: ks, h => by
    rw [List.all_cons, Bool.and_eq_true] at h
    obtain ⟨i1, i2, i3⟩ := kw_trees (env := env) (pos := pos) h.2
    obtain ⟨x, hx⟩ := Option.isSome_iff_exists.mp h.1
    simp only at hx
    subst hx
    refine ⟨?_, ?_, ?_⟩
    · show (true && (backToKw pos (keywordEach ks env)).all (·.1.isSome)) = true
      rw [i1]; rfl
    · show (false || (backToKw pos (keywordEach ks env)).any (·.1.isNone)) = false
      rw [i2]; rfl
    · show x :: (backToKw pos (keywordEach ks env)).filterMap (·.1) = x :: ks.filterMap (·.arg)
      rw [i3]
theorem kw_len : ∀ {kws : List Keyword}, (kws.all fun k => k.arg.isSome) = true → (kws.filterMap (·.arg)).length = kws.length
  | [], _ => rfl
  | ⟨nm, e, kp⟩ :: ks, h => by
    rw [List.all_cons, Bool.and_eq_true] at h
    obtain ⟨x, hx⟩ := Option.isSome_iff_exists.mp h.1
    simp only at hx
    subst hx
    rw [List.filterMap_cons]
    simp [kw_len h.2]
end
end Lt
set_option maxRecDepth 100000
set_option maxHeartbeats 4000000
namespace Lt
open PySem PySem.Spec PyProof.Rows L2
section
variable {c : Cmp} {Φ : Nat → Fn} {C : Ct} {G : Gc} {Wx : WX} {X : Cx}
theorem callP_eq {φ : Fn} {h : AF} {n : Nat} (hl : ∀ env S ds S1, h env S = .ok ds S1 → ds.length = n) : callE φ (List.range n) h = callP φ h := by
  funext env S
  unfold callE callP
  cases q : h env S with
  | ok ds S1 =>
    simp only [Res.bind]
    have := hl _ _ _ _ q
    subst this
    rw [perm_id]
  | exc _ _ _ => rfl
  | bad => rfl
theorem eOwn_ok (s : c.Snd Φ) (o : Ok C Φ G Wx X) {x : Str} {p pos : Pos} {i : Nat} {ps : List Str} {args : List Expr} {kws : List Keyword} {f : EF} (hg : C.gl x = true) (hf : C.fns.lookup x = some (i, ps)) (h : eOwn c Φ C i ps args kws = some f) : PE X (.Call (.Name x p) args kws pos) (tE G Wx f) := by
  obtain ⟨g, d1⟩ := o.gl hg
  obtain ⟨fa, fd, kk, m, kp, F, hr, pf⟩ := o.fns x i ps hf
  unfold eOwn at h
  split at h
  · rename_i a as
    obtain ⟨h1, h⟩ := ifs h
    obtain ⟨hh, h2, h⟩ := bnd h
    cases h
    have st := cA_star h2
    rw [List.all_cons, Bool.and_eq_true] at st
    have hp := perm_pos pf.nd
    have ln : ∀ env S ds S1, hh env S = .ok ds S1 → ds.length = ps.length := fun env S ds S1 e => by rw [cA_len h2 _ _ _ _ e, h1]
    rw [← callP_eq ln]
    exact pe_callG F o.gd hr o.tk o.k (bind_gen pf hp) (fun xs hx => permOf_len hp xs (by simpa using hx)) ln g m kp (cA_ok s o h2) d1 (star_cons st.1) (star_back st.2)
  · rename_i a as k ks
    obtain ⟨π, hp, h⟩ := bnd h
    obtain ⟨hk, h⟩ := ifs h
    obtain ⟨h1, q1, h⟩ := bnd h
    obtain ⟨h2, q2, h⟩ := bnd h
    cases h
    have st := cA_star q1
    obtain ⟨t1, t2, t3⟩ := kw_trees (env := X.env) (pos := pos) hk
    have st2 := st
    rw [List.all_cons, Bool.and_eq_true] at st2
    exact pe_callGK F o.gd hr o.tk o.k (bind_gen pf hp) (permOf_len hp) (fun env S ds S1 e => cA_len q1 _ _ _ _ e) (fun env S ds S1 e => by rw [cK_len q2 _ _ _ _ e, kw_len hk]) g m kp (cA_ok s o q1) (cK_ok s o q2) t1 t3 d1 (star_cons st2.1) (by rw [star_back st, t2]; rfl)
  · rename_i k ks
    obtain ⟨π, hp, h⟩ := bnd h
    obtain ⟨hk, h⟩ := ifs h
    obtain ⟨h2, q2, h⟩ := bnd h
    cases h
    obtain ⟨t1, t2, t3⟩ := kw_trees (env := X.env) (pos := pos) hk
    exact pe_callGK0 F o.gd hr o.tk o.k (bind_gen pf hp) (fun xs hx => permOf_len hp xs (by simpa using hx)) (fun env S ds S1 e => by rw [cK_len q2 _ _ _ _ e, kw_len hk]) g m kp (cK_ok s o q2) t1 t3 d1 (by rw [t2]; rfl)
  · cases h
theorem eBi_ok (s : c.Snd Φ) (o : Ok C Φ G Wx X) {x : Str} {p pos : Pos} {args : List Expr} {f : EF} (hg : C.gl x = true) (h : eBi c C x args = some f) : PE X (.Call (.Name x p) args [] pos) (tE G Wx f) := by
  obtain ⟨g, d1⟩ := o.gl hg
  unfold eBi at h
  split at h
  · cases h
  · rename_i a as
    obtain ⟨hb, h⟩ := ifs h
    have m := o.bis x hb
    split at h
    · rename_i b hbi
      obtain ⟨go, h1, h⟩ := bnd h
      obtain ⟨hh, h2, h⟩ := bnd h
      cases h
      have ex := biOf_ok hbi
      subst ex
      have st := cA_star h2
      rw [List.all_cons, Bool.and_eq_true] at st
      cases ht : b.ty with
      | false => exact pe_callBD (biGo_fn o.calm o.k o.gd o.hu h1 ht) g m (bi_boot b ht) (cA_ok s o h2) (bi_name b) d1 (star_cons st.1) (star_back st.2)
      | true => exact pe_callTD (biGo_ty o.k h1 ht) g m (bi_bootT b ht) (cA_ok s o h2) (bi_name b) d1 (star_cons st.1) (star_back st.2)
    · obtain ⟨hx, h'⟩ := ifs h
      clear h
      subst hx
      obtain ⟨t, ht, h''⟩ := bnd h'
      clear h'
      have eas : ∃ tp, as = [.Name t tp] := by
        unfold oneNm at ht
        split at ht
        · cases ht; exact ⟨_, rfl⟩
        · cases ht
      obtain ⟨tp, eas⟩ := eas
      subst eas
      · obtain ⟨h1, h⟩ := ifs h''
        rw [Bool.and_eq_true, Bool.and_eq_true] at h1
        obtain ⟨⟨c1, c2⟩, c3⟩ := h1
        obtain ⟨T, hT, h⟩ := bnd h
        obtain ⟨f1, hf, h⟩ := bnd h
        cases h
        have ex := tyNm_ok hT
        subst ex
        obtain ⟨g2, d2⟩ := o.gl c2
        have m2 := o.bis _ c3
        have hn : Str.ofString T.nm ≠ "__name__" := by cases T <;> decide +kernel
        have pt : PE X (.Name (Str.ofString T.nm) tp) (tC (.ty T.nm)) := pe_bltn g2 m2 (ty_boot T) rfl hn d2
        refine (pe_callB (cr_isiD o.k T) g m (by decide +kernel) (pa_cons (s.E hf o) (pa_cons pt pa_nil rfl) (star_cons c1)) (by decide +kernel) d1 (star_cons c1) rfl).imp fun σ H Q ⟨env, S, W, hs, he, w⟩ => ?_
        refine tE_mono (tE_e hs he w) fun v H1 ⟨S1, W1, d, l1, s1, e1, r1, o1⟩ => ?_
        obtain ⟨r, hr, q⟩ := opt_out o1
        exact ⟨v, rfl, S1, W1, _, r, s1, r1.vw s1, hr, q⟩
theorem few_of {pos : Pos} {es : List Expr} {env : Env} (h : es.all notStar = true) (hl : es.length < 30) : (((backTo pos (starEach es env)).all (fun x => !x.1) && (backToKw pos (keywordEach [] env)).all (fun x => x.1.isSome)) && decide ((es.length + List.length ([] : List Keyword) + if List.isEmpty ([] : List Keyword) = true then 0 else 1) < 30)) = true := by
  rw [star_trees h]
  have : (es.map fun e => (false, eval e env)).all (fun x => !x.1) = true := by
    rw [List.all_map]; simp
  rw [this]
  show (true && decide (es.length + 0 + 0 < 30)) = true
  simp only [Nat.add_zero, Bool.true_and, decide_eq_true_eq]
  exact hl
theorem eMeth_ok (s : c.Snd Φ) (o : Ok C Φ G Wx X) {ob : Expr} {m : Str} {apos pos : Pos} {args : List Expr} {f : EF} (c1 : plainO ob = true) (c2 : (apos.endLine == pos.line) = true) (h : eMeth c C ob m args = some f) : PE X (.Call (.Attribute ob m apos) args [] pos) (tE G Wx f) := by
  unfold eMeth at h
  split at h
  · rename_i a
    obtain ⟨ha, h⟩ := ifs h
    have hall : [a].all notStar = true := by simp [ha]
    by_cases h1 : m = "append"
    · rw [if_pos h1] at h
      obtain ⟨f1, q1, h⟩ := bnd h
      obtain ⟨f2, q2, h⟩ := bnd h
      cases h
      subst h1
      exact pe_appD (s.E q1 o) (s.E q2 o) (base_of c1) (star_cons ha) (few_of hall (by simp)) c2 rfl
    · rw [if_neg h1] at h
      by_cases h2 : m = "get"
      · rw [if_pos h2] at h
        obtain ⟨f1, q1, h⟩ := bnd h
        obtain ⟨f2, q2, h⟩ := bnd h
        cases h
        subst h2
        exact pe_get1D (by have := o.hu; omega) (s.E q1 o) (s.E q2 o) ⟨base_of c1, few_of hall (by simp), c2, star_trees hall⟩
      · rw [if_neg h2] at h
        by_cases h3 : m = "count"
        · rw [if_pos h3] at h
          obtain ⟨f1, q1, h⟩ := bnd h
          obtain ⟨f2, q2, h⟩ := bnd h
          cases h
          subst h3
          exact pe_mthB o.k PySem.F.slot_list_count PySem.F.type_list_count (mt_cntD o.k o.hu65) (s.E q1 o) (s.E q2 o) (base_of c1) (star_cons ha) (few_of hall (by simp)) c2 rfl
        · rw [if_neg h3] at h
          by_cases h4 : m = "index"
          · rw [if_pos h4] at h
            obtain ⟨f1, q1, h⟩ := bnd h
            obtain ⟨f2, q2, h⟩ := bnd h
            cases h
            subst h4
            exact pe_mthB o.k PySem.F.slot_list_index PySem.F.type_list_index (mt_idxD o.k o.hu65) (s.E q1 o) (s.E q2 o) (base_of c1) (star_cons ha) (few_of hall (by simp)) c2 rfl
          · rw [if_neg h4] at h
            obtain ⟨h5, h⟩ := ifs h
            obtain ⟨f1, q1, h⟩ := bnd h
            obtain ⟨f2, q2, h⟩ := bnd h
            cases h
            subst h5
            exact pe_popD (s.E q1 o) (s.E q2 o) (base_of c1) (star_cons ha) (few_of hall (by simp)) c2 rfl
  · rename_i a b
    obtain ⟨ha, h⟩ := ifs h
    rw [Bool.and_eq_true] at ha
    have hall : [a, b].all notStar = true := by simp [ha.1, ha.2]
    obtain ⟨h2, h⟩ := ifs h
    obtain ⟨f1, q1, h⟩ := bnd h
    obtain ⟨f2, q2, h⟩ := bnd h
    obtain ⟨f3, q3, h⟩ := bnd h
    cases h
    subst h2
    exact pe_get2D (by have := o.hu; omega) (s.E q1 o) (s.E q2 o) (s.E q3 o) ⟨base_of c1, few_of hall (by simp), c2, star_trees hall⟩
  · cases h
theorem setArg_ok {x : Str} {args : List Expr} {a : Expr} (h : setArg x args = some a) : x = "sorted" ∧ ∃ p q, args = [.Call (.Name "set" p) [a] [] q] := by
  unfold setArg at h
  split at h
  · rename_i y py a' q'
    split at h
    · rename_i hxy
      cases h
      exact ⟨hxy.1, py, q', by rw [hxy.2]⟩
    · cases h
  · cases h
theorem eBiS_ok (s : c.Snd Φ) (o : Ok C Φ G Wx X) {x : Str} {p pos : Pos} {args : List Expr} {f : EF} (hg : C.gl x = true) (h : eBiS c C x args = some f) : PE X (.Call (.Name x p) args [] pos) (tE G Wx f) := by
  unfold eBiS at h
  cases e : setArg x args with
  | none => rw [e] at h; exact eBi_ok s o hg h
  | some a =>
    rw [e] at h
    obtain ⟨rfl, p2, q, rfl⟩ := setArg_ok e
    obtain ⟨hc2, h⟩ := ifs h
    simp only [Bool.and_eq_true] at hc2
    obtain ⟨⟨⟨b1, b2⟩, b3⟩, b4⟩ := hc2
    obtain ⟨f1, q1, h⟩ := bnd h
    cases h
    exact pe_srtD o.k (o.gl hg).1 (o.bis _ b1) (o.gl b2).1 (o.bis _ b3) (s.E q1 o) o.calm (star_cons b4) (star_cons rfl)
theorem eCall_ok (s : c.Snd Φ) (o : Ok C Φ G Wx X) {fn : Expr} {pos : Pos} {args : List Expr} {kws : List Keyword} {f : EF} (h : eCall c Φ C fn args kws pos = some f) : PE X (.Call fn args kws pos) (tE G Wx f) := by
  unfold eCall at h
  split at h
  · rename_i x p
    obtain ⟨hg, h⟩ := ifs h
    split at h
    · rename_i i ps hf
      exact eOwn_ok s o hg hf h
    · obtain ⟨hk, h⟩ := ifs h
      rw [List.isEmpty_iff] at hk
      subst hk
      exact eBiS_ok s o hg h
  · rename_i ob m apos
    obtain ⟨hc, h'⟩ := ifs h
    rw [Bool.and_eq_true, Bool.and_eq_true] at hc
    obtain ⟨⟨c1, c2⟩, c3⟩ := hc
    rw [List.isEmpty_iff] at c3
    subst c3
    exact eMeth_ok s o c1 c2 h'
  · cases h
theorem eLc_ok (s : c.Snd Φ) (o : Ok C Φ G Wx X) {elt tg iter : Expr} {ifs' : List Expr} {scope : Scope} {h0 : AF} (h : eLc c C elt tg iter ifs' scope = some h0) :
    ∃ it g t f, h0 = lcA it ((ownOf C scope).map (·.2)) g t f ∧ PI X tg iter (tI G Wx it) ∧ BlkOk X.N X.env.scope scope (ownOf C scope) ∧
    (∀ (s : Shared) (H : Hp) (cA : Addr) (cl : List (Str × Addr)) (fp : List Addr), PG (X.blk s H scope (compEnvC scope cl cA X.env) fp) tg (tG G ((ownOf C scope).map (·.2)) g)) ∧
    (∀ (s : Shared) (H : Hp) (cA : Addr) (cl : List (Str × Addr)) (fp : List Addr), PTs (X.blk s H scope (compEnvC scope cl cA X.env) fp) ifs' (tT G W0 t)) ∧
    (∀ (s : Shared) (H : Hp) (cA : Addr) (cl : List (Str × Addr)) (fp : List Addr), PE (X.blk s H scope (compEnvC scope cl cA X.env) fp) elt (tE G W0 f)) ∧ (∀ x, foldedSetIterable iter X.env x = pure x) := by
  unfold eLc at h
  obtain ⟨hc, h⟩ := ifs h
  rw [Bool.and_eq_true] at hc
  obtain ⟨it, q1, h⟩ := bnd h
  obtain ⟨g, q2, h⟩ := bnd h
  obtain ⟨f, q3, h⟩ := bnd h
  have bk : BlkOk X.N X.env.scope scope (ownOf C scope) := by rw [o.N, o.sc]; exact blkOk_by hc.2
  split at h
  · cases h
    exact ⟨it, g, yesT, f, rfl, s.I q1 o, bk, fun s' H cA cl fp => s.G q2 (o.blk scope s' H cA cl fp), fun s' H cA cl fp => pts_nilD, fun s' H cA cl fp => s.E q3 (o.blk scope s' H cA cl fp), folded_of hc.1⟩
  · obtain ⟨t, q4, h⟩ := bnd h
    cases h
    exact ⟨it, g, t, f, rfl, s.I q1 o, bk, fun s' H cA cl fp => s.G q2 (o.blk scope s' H cA cl fp), fun s' H cA cl fp => pts_oneD (s.T q4 (o.blk scope s' H cA cl fp)), fun s' H cA cl fp => s.E q3 (o.blk scope s' H cA cl fp), folded_of hc.1⟩
  · cases h
theorem eSub_ok (s : c.Snd Φ) (o : Ok C Φ G Wx X) {e i : Expr} {pos : Pos} {f : EF} (h : eSub c C e i = some f) : PE X (.Subscript e i pos) (tE G Wx f) := by
  have hu : X.A.units + 1 < cLine := by have := o.hu; omega
  have gen : ∀ {e i : Expr} {f : EF}, plainI i = true → ((c.E C e).bind fun f => (c.E C i).bind fun g => some (pB ixD f g)) = some f → PE X (.Subscript e i pos) (tE G Wx f) := fun hi h => by
    obtain ⟨f1, q1, h⟩ := bnd h
    obtain ⟨f2, q2, h⟩ := bnd h
    cases h
    exact pe_ixD o.k hu (s.E q1 o) (s.E q2 o) (plainIx_of hi)
  unfold eSub at h
  split at h
  · obtain ⟨f1, q1, h⟩ := bnd h
    obtain ⟨f2, q2, h⟩ := bnd h
    obtain ⟨f3, q3, h⟩ := bnd h
    cases h
    exact pe_sliceD o.k (s.E q1 o) (cO_ok s o q2) (cO_ok s o q3)
  · obtain ⟨f1, q1, h⟩ := bnd h
    cases h
    exact pe_revD o.k (s.E q1 o)
  · obtain ⟨hi, h⟩ := ifs h
    unfold eIx at h
    split at h
    · rename_i x p _
      by_cases hg : C.gl x = true
      · rw [if_pos hg] at h
        split at h
        · rename_i tb htb
          obtain ⟨f1, q1, h⟩ := bnd h
          cases h
          obtain ⟨g, d1⟩ := o.gl hg
          obtain ⟨a, m, kt⟩ := o.kd x tb htb
          exact pe_kixD o.k (plainIx_of hi) (pe_glob g m rfl d1) (s.E q1 o) kt
        · exact gen hi h
      · rw [if_neg hg] at h
        exact gen hi h
    · exact gen hi h
theorem stE_ok (s : c.Snd Φ) (o : Ok C Φ G Wx X) {e : Expr} {f : EF} (h : stE c Φ C e = some f) : PE X e (tE G Wx f) := by
  unfold stE at h
  split at h
  · exact eName_ok o h
  · rename_i k j pos
    cases q : cstD k with
    | none => rw [q] at h; cases h
    | some d => rw [q] at h; cases h; exact eConst_ok q
  · rename_i a op b pos
    by_cases hm : (C.isMu pos && isAdd op) = true
    · rw [if_pos hm] at h
      obtain ⟨f1, q1, h⟩ := bnd h
      obtain ⟨f2, q2, h⟩ := bnd h
      cases h
      rw [Bool.and_eq_true] at hm
      have ho : op = .Add := by
        have := hm.2
        unfold isAdd at this
        split at this
        · rfl
        · cases this
      subst ho
      exact pe_binM (s.E q1 o) (s.E q2 o)
    · rw [if_neg hm] at h
      obtain ⟨go, q0, h⟩ := bnd h
      obtain ⟨f1, q1, h⟩ := bnd h
      obtain ⟨f2, q2, h⟩ := bnd h
      cases h
      exact pe_bin (binGo_ok o.k q0) (s.E q1 o) (s.E q2 o)
  · obtain ⟨f1, q1, h⟩ := bnd h
    cases h
    exact pe_una un_negD (s.E q1 o)
  · obtain ⟨f1, q1, h⟩ := bnd h
    cases h
    exact pe_notD o.k (s.E q1 o)
  · exact cAnd_ok s o h
  · exact cOr_ok s o h
  · obtain ⟨hn, h⟩ := ifs h
    obtain ⟨go, q0, h⟩ := bnd h
    obtain ⟨f1, q1, h⟩ := bnd h
    obtain ⟨f2, q2, h⟩ := bnd h
    cases h
    exact pe_cmpD (cmpGo_ok o.k o.hu q0) (s.E q1 o) (s.E q2 o) (nomark_of hn)
  · obtain ⟨hn, h⟩ := ifs h
    rw [Bool.and_eq_true] at hn
    obtain ⟨go, q0, h⟩ := bnd h
    obtain ⟨go2, q02, h⟩ := bnd h
    obtain ⟨f1, q1, h⟩ := bnd h
    obtain ⟨f2, q2, h⟩ := bnd h
    obtain ⟨f3, q3, h⟩ := bnd h
    cases h
    exact pe_chD (cmpGo_ok o.k o.hu q0) (cmpGo_ok o.k o.hu q02) (s.E q1 o) (s.E q2 o) (s.E q3 o) (marks_of hn.1 hn.2)
  · obtain ⟨f0, q0, h⟩ := bnd h
    obtain ⟨f1, q1, h⟩ := bnd h
    obtain ⟨f2, q2, h⟩ := bnd h
    cases h
    exact pe_ifD (s.T q0 o) (s.E q1 o) (s.E q2 o)
  · obtain ⟨f1, q1, h⟩ := bnd h
    cases h
    exact pe_tupD (cA_ok s o q1)
  · rename_i es pos
    obtain ⟨f1, q1, h⟩ := bnd h
    by_cases hm : C.isMu pos = true
    · rw [if_pos hm] at h; cases h; exact pe_lstM (cA_ok s o q1)
    · rw [if_neg hm] at h; cases h; exact pe_lstD (cA_ok s o q1)
  · rename_i pos
    by_cases hm : C.isMu pos = true
    · rw [if_pos hm] at h; cases h; exact pe_dicM
    · rw [if_neg hm] at h; cases h; exact pe_dic0
  · obtain ⟨hc, h⟩ := ifs h
    rw [Bool.and_eq_true, Bool.and_eq_true, decide_eq_true_eq, decide_eq_true_eq] at hc
    obtain ⟨f1, q1, h⟩ := bnd h
    cases h
    exact pe_dicD (cPrs_ok s o q1) hc.1.1 hc.1.2 (by simp) hc.2
  · exact eSub_ok s o h
  · exact eCall_ok s o h
  · rename_i elt tg iter ifs' scope pos
    obtain ⟨h0, q1, h⟩ := bnd h
    obtain ⟨it, g, t, f', e0, hi, bk, hg, ht, he, hs⟩ := eLc_ok s o q1
    subst e0
    by_cases hm : C.isMu pos = true
    · rw [if_pos hm] at h; cases h; exact pe_lcMD o.calm (by rw [o.N]; exact o.nd) hi bk hg ht he hs
    · rw [if_neg hm] at h; cases h; exact pe_lcD o.calm (by rw [o.N]; exact o.nd) hi bk hg ht he hs
  · cases h
theorem stT_ok (s : c.Snd Φ) (o : Ok C Φ G Wx X) {e : Expr} {f : TF} (h : stT c C e = some f) : PT X e (tT G Wx f) := by
  unfold stT at h
  split at h
  · obtain ⟨hn, h⟩ := ifs h
    obtain ⟨go, q0, h⟩ := bnd h
    obtain ⟨f1, q1, h⟩ := bnd h
    obtain ⟨f2, q2, h⟩ := bnd h
    cases h
    exact pt_cmpD o.k (cmpGo_ok o.k o.hu q0) (s.E q1 o) (s.E q2 o) (nomark_of hn) (cmpGo_bl q0)
  · obtain ⟨hn, h⟩ := ifs h
    rw [Bool.and_eq_true] at hn
    obtain ⟨go, q0, h⟩ := bnd h
    obtain ⟨go2, q02, h⟩ := bnd h
    obtain ⟨f1, q1, h⟩ := bnd h
    obtain ⟨f2, q2, h⟩ := bnd h
    obtain ⟨f3, q3, h⟩ := bnd h
    cases h
    exact pt_chD (cmpGo_bl q02) (cmpGo_ok o.k o.hu q0) (cmpGo_ok o.k o.hu q02) (s.E q1 o) (s.E q2 o) (s.E q3 o) (marks_of hn.1 hn.2)
  · obtain ⟨f1, q1, h⟩ := bnd h
    cases h
    exact pt_notD (s.T q1 o)
  · exact (tAnds_ok s o h).pt
  · exact (tOrs_ok s o h).pt
  · obtain ⟨hp, h⟩ := ifs h
    obtain ⟨f1, q1, h⟩ := bnd h
    cases h
    exact pt_tst o.k (s.E q1 o) (truth_of hp)
theorem stI_ok (s : c.Snd Φ) (o : Ok C Φ G Wx X) {tg e : Expr} {f : IF} (h : stI c C tg e = some f) : PI X tg e (tI G Wx f) := by
  have wk : ∀ {e : Expr} {f : IF}, ((c.E C e).bind fun f => some (walk f)) = some f → PI X tg e (tI G Wx f) := fun h => by
    obtain ⟨f1, q1, h⟩ := bnd h
    cases h
    exact pi_walk o.k (s.E q1 o)
  unfold stI at h
  split at h
  · rename_i x p args pos
    by_cases hc : (itNm x && C.gl x && C.bis.contains x && args.all notStar) = true
    · rw [if_pos hc] at h
      rw [Bool.and_eq_true, Bool.and_eq_true, Bool.and_eq_true] at hc
      obtain ⟨⟨⟨c0, c1⟩, c2⟩, c3⟩ := hc
      obtain ⟨g, d1⟩ := o.gl c1
      have m := o.bis x c2
      unfold stIC at h
      split at h
      · rename_i a
        have ha : notStar a = true := by simpa using c3
        by_cases h1 : x = "range"
        · rw [if_pos h1] at h
          obtain ⟨f1, q1, h⟩ := bnd h
          cases h
          subst h1
          exact pi_rng1 g m (s.E q1 o) (star_cons ha)
        · rw [if_neg h1] at h
          obtain ⟨h2, h⟩ := ifs h
          obtain ⟨f1, q1, h⟩ := bnd h
          cases h
          obtain ⟨h2, h3⟩ := h2
          subst h2
          cases tg with
          | Tuple es k tp => exact pi_enumBD o.k g m (s.E q1 o) (star_cons ha)
          | _ => cases h3
      · rename_i a b
        have ha : notStar a = true ∧ notStar b = true := by simpa using c3
        by_cases h1 : x = "range"
        · rw [if_pos h1] at h
          obtain ⟨f1, q1, h⟩ := bnd h
          obtain ⟨f2, q2, h⟩ := bnd h
          cases h
          subst h1
          exact pi_rng2 g m (s.E q1 o) (s.E q2 o) (star_cons ha.1) (star_cons ha.2)
        · rw [if_neg h1] at h
          obtain ⟨h2, h⟩ := ifs h
          obtain ⟨f1, q1, h⟩ := bnd h
          obtain ⟨f2, q2, h⟩ := bnd h
          cases h
          obtain ⟨h2, h3⟩ := h2
          subst h2
          cases tg with
          | Tuple es k tp => exact pi_zipD o.k g m (s.E q1 o) (s.E q2 o) (star_cons ha.1) (star_cons ha.2) (star_back (by simp [ha.2]))
          | _ => cases h3
      · cases h
    · rw [if_neg hc] at h; exact wk h
  · exact wk h
theorem cGs_star {vs : List Nat} {es : List Expr} {f : GsF} (h : cGs c C vs es = some f) : es.all notStar = true := by
  induction es generalizing f with
  | nil => rfl
  | cons e es ih =>
    unfold cGs at h
    obtain ⟨h1, h⟩ := ifs h
    obtain ⟨f1, _, h⟩ := bnd h
    obtain ⟨f2, h2, _⟩ := bnd h
    rw [List.all_cons, h1, ih h2]; rfl
theorem cGs_ok (s : c.Snd Φ) (o : Ok C Φ G Wx X) {vs : List Nat} : ∀ {es : List Expr} {f : GsF}, cGs c C vs es = some f → PGs X es (tGs G vs f)
  | [], f, h => by cases h; exact pgs_nl
  | e :: es, f, h => by
    unfold cGs at h
    obtain ⟨h1, h⟩ := ifs h
    obtain ⟨f1, q1, h⟩ := bnd h
    obtain ⟨f2, q2, h⟩ := bnd h
    cases h
    exact pgs_cs (s.G q1 o) (cGs_ok s o q2) (asg_cons h1)
theorem stG_ok (s : c.Snd Φ) (o : Ok C Φ G Wx X) {vs : List Nat} {e : Expr} {f : GF} (h : stG c C vs e = some f) : PG X e (tG G vs f) := by
  unfold stG at h
  split at h
  · obtain ⟨hl, h⟩ := ifs h
    obtain ⟨i, q1, h⟩ := bnd h
    obtain ⟨hm, h⟩ := ifs h
    cases h
    obtain ⟨l1, l2⟩ := o.loc hl
    exact pg_nm (by simpa using hm) (by rw [o.N]; exact o.nd) (by rw [o.N]; exact slot_get q1) l1 l2
  · obtain ⟨f1, q1, h⟩ := bnd h
    cases h
    have st := cGs_star q1
    exact pg_tp o.k o.calm (cGs_ok s o q1) (asg_len st) (asg_find st)
  · obtain ⟨hi, h⟩ := ifs h
    obtain ⟨f1, q1, h⟩ := bnd h
    obtain ⟨f2, q2, h⟩ := bnd h
    cases h
    exact pg_sb takes0 (s.E q1 o.w0) (s.E q2 o.w0) (asg_sub hi)
  · cases h
end
end Lt
set_option maxRecDepth 100000
set_option maxHeartbeats 4000000
namespace Lt
open PySem PySem.Spec PyProof.Rows L2
/-! ### statements -/
def augAdd : D → D → Option D
  | .int i, .int j => some (.int (i + j))
  | .str a, .str b => if a.length + b.length ≤ sizeLine then some (.str (a ++ b)) else none
  | _, _ => none
def augSub : D → D → Option D
  | .int i, .int j => some (.int (i - j))
  | _, _ => none
def augGo : Operator → Option (D → D → Option D)
  | .Add => some augAdd
  | .Sub => some augSub
  | _ => none
section
variable {X : Cx} {G : Gc}
theorem augGo_ok {op : Operator} {go : D → D → Option D} (h : augGo op = some go) : OpR X (inplaceOp op) (rDB G go) := by
  cases op <;> cases h
  · intro pins s σ H x y v u Q I rx ry ⟨S, W, d, e, r, hs, nd, ne, hr, q⟩
    cases nd with
    | int i =>
      cases ne with
      | int j => cases hr; exact iop_add pins s σ H _ _ v u _ I rx ry ⟨i, j, rfl, rfl, q _ H W (.refl _) hs (.int _)⟩
      | _ => cases hr
    | str a =>
      cases ne with
      | str b =>
        have hr' : (if a.length + b.length ≤ sizeLine then some (D.str (a ++ b)) else none) = some r := hr
        obtain ⟨hz, hr'⟩ := ifs hr'
        cases hr'
        exact iop_add_str pins s σ H _ _ v u _ I rx ry ⟨a, b, rfl, rfl, hz, q _ H W (.refl _) hs (.str _)⟩
      | _ => cases hr
    | _ => cases hr
  · intro pins s σ H x y v u Q I rx ry ⟨S, W, d, e, r, hs, nd, ne, hr, q⟩
    cases nd with
    | int i =>
      cases ne with
      | int j => cases hr; exact iop_sub pins s σ H _ _ v u _ I rx ry ⟨i, j, rfl, rfl, q _ H W (.refl _) hs (.int _)⟩
      | _ => cases hr
    | _ => cases hr
end
section
variable (c : Cmp) (Φ : Nat → Fn) (C : Ct)
/-- is a list comprehension made in its local's own frame -/
def swB (y : Str) (py : Pos) (scope : Scope) (pos : Pos) : Bool :=
  C.sc.names.lookup y == some .local && py.line == pos.line && !(scope.names.any fun x => x.1 == y && (x.2 == .local || x.2 == .cell))
def sPar (names : List Str) (tg e : Expr) : Option SF :=
  match tg, e with
  | .Tuple [.Name x _, .Name y _] _ _, .Tuple [a, b] _ _ =>
    if (names = [x, y] ∧ x ≠ y ∧ C.sc.names.lookup x = some .local ∧ C.sc.names.lookup y = some .local ∧ notStar a = true ∧ notStar b = true) then
      (slot C.N x).bind fun i => (slot C.N y).bind fun j => (c.E C a).bind fun f => (c.E C b).bind fun g => some (par2 i j f g)
    else none
  | .Tuple [.Name x _, .Name y _, .Name z _] _ _, .Tuple [a, b, d] _ _ =>
    if (names = [x, y, z] ∧ x ≠ y ∧ x ≠ z ∧ y ≠ z ∧ C.sc.names.lookup x = some .local ∧ C.sc.names.lookup y = some .local ∧ C.sc.names.lookup z = some .local ∧ notStar a = true ∧ notStar b = true ∧ notStar d = true) then
      (slot C.N x).bind fun i => (slot C.N y).bind fun j => (slot C.N z).bind fun l => (c.E C a).bind fun f => (c.E C b).bind fun g => (c.E C d).bind fun h => some (par3 i j l f g h)
    else none
  | _, _ => none
def isNm : Expr → Bool
  | .Name _ _ => true
  | _ => false
def sAsg (tg e : Expr) : Option SF :=
  if (notStar tg && !(isNm tg)) = true then
    (swGo (fun x => C.sc.names.lookup x) (blkK C.sc) [tg] e).bind fun
    | some names => sPar c C names tg e
    | none => (c.E C e).bind fun f => (c.G C (List.range C.N.length) tg).bind fun g => some (asgS f g)
  else none
def sSet (x : Str) (px : Pos) : Expr → Option SF
  | .ListComp elt [⟨tg, iter, ifs, 0⟩] scope pos =>
    if (C.loc x && (match C.sc.kind with | .function => true | _ => false)) = true then
      (slot C.N x).bind fun i => (eLc c C elt tg iter ifs scope).bind fun h => some (setS i (if C.isMu pos = true then lcM h else lcE h))
    else none
  | e => if (C.loc x && !(isLc e)) = true then (slot C.N x).bind fun i => (c.E C e).bind fun f => some (setS i f) else none
def stS : Stmt → Option SF
  | .Assign [.Name x px] e _ => sSet c C x px e
  | .Assign [tg] e _ => sAsg c C tg e
  | .AugAssign (.Name x _) op e _ => if C.loc x = true then (slot C.N x).bind fun i => (augGo op).bind fun go => (c.E C e).bind fun f => some (augS i go f) else none
  | .Expr e _ => if isLc e = false then (c.E C e).bind fun f => some (dropS f) else none
  | .Return (some e) _ => (c.E C e).bind fun f => some (retS f)
  | .Return none _ => some retN
  | .If t a b _ => (c.T C t).bind fun t => (c.Ss C a).bind fun a => (c.Ss C b).bind fun b => some (ifS t a b)
  | .For tg it body [] _ => if notSet it = true then (c.I C tg it).bind fun it => (c.G C (List.range C.N.length) tg).bind fun g => (c.Ss C body).bind fun b => some (forS it g b) else none
  | .While t body [] _ => (c.T C t).bind fun t => (c.Ss C body).bind fun b => some (whileS C.wh t b)
  | .Pass _ => some nextS
  | .Break _ => some brkS
  | .Continue _ => some cntS
  | .Raise _ _ _ => some badS
  | _ => none
def stSs : List Stmt → Option SF
  | [] => some nextS
  | [s] => stS c C s
  | s :: s2 :: r => (stS c C s).bind fun a => (stSs (s2 :: r)).bind fun b => some (seqS a b)
end
section
variable {c : Cmp} {Φ : Nat → Fn} {C : Ct} {G : Gc} {Wx : WX} {X : Cx}
theorem sw_lc {elt : Expr} {gs : List Comprehension} {scope : Scope} {pos py : Pos} {y : Str} {l : Nat} {env : Env} (hk : env.scope.kind = .function) (h : ¬(C.sc = env.scope ∧ swB C y py scope pos = true)) (hc : C.sc = env.scope) : swapsWith (.ListComp elt gs scope pos) (some (.Name y py)) l env = pure false := by
  have hb : swB C y py scope pos = false := by
    cases q : swB C y py scope pos with
    | false => rfl
    | true => exact absurd ⟨hc, q⟩ h
  unfold swapsWith
  simp only []
  congr 1
  unfold swB at hb
  rw [hc] at hb
  have bk : (env.blockKind == ScopeKind.function) = true := by
    unfold Env.blockKind
    rw [hk]
    rfl
  rw [bk]
  show (true && (env.scope.names.lookup y == some .local) && (py.line == pos.line) && !(scope.names.any fun x => match x with | (n, k) => n == y && (k == .local || k == .cell))) = false
  rw [Bool.true_and]
  exact hb
theorem sPar_ok (s : c.Snd Φ) (o : Ok C Φ G Wx X) {names : List Str} {tg e : Expr} {pos : Pos} {f : SF} (hw : swGo (fun x => C.sc.names.lookup x) (blkK C.sc) [tg] e = some (some names)) (h : sPar c C names tg e = some f) : PS X (.Assign [tg] e pos) (tS G Wx f) := by
  have hw2 : swappedStores [tg] e X.env = pure (some names) := sw_go (by rw [o.sc]; exact hw)
  unfold sPar at h
  split at h
  · rename_i x px y py kt pt a b k2 pt2
    obtain ⟨⟨hnm, n1, l1, l2, s1, s2⟩, h⟩ := ifs h
    rw [hnm] at hw2
    obtain ⟨i, q1, h⟩ := bnd h
    obtain ⟨j, q2, h⟩ := bnd h
    obtain ⟨f1, q3, h⟩ := bnd h
    obtain ⟨f2, q4, h⟩ := bnd h
    cases h
    have hij : i ≠ j := by rintro rfl; have := (slot_get q1).symm.trans (slot_get q2); cases this; exact n1 rfl
    exact ps_par2 o.calm (by rw [o.N]; exact o.nd) (by rw [o.N]; exact slot_get q1) (by rw [o.N]; exact slot_get q2) hij (by rw [o.sc]; exact l1) (by rw [o.sc]; exact l2) (s.E q3 o) (s.E q4 o) (star_cons s1) (star_cons s2) hw2 rfl
  · rename_i x px y py z pz kt pt a b d k2 pt2
    obtain ⟨⟨hnm, n1, n2, n3, l1, l2, l3, s1, s2, s3⟩, h⟩ := ifs h
    rw [hnm] at hw2
    obtain ⟨i, q1, h⟩ := bnd h
    obtain ⟨j, q2, h⟩ := bnd h
    obtain ⟨l, q5, h⟩ := bnd h
    obtain ⟨f1, q3, h⟩ := bnd h
    obtain ⟨f2, q4, h⟩ := bnd h
    obtain ⟨f3, q6, h⟩ := bnd h
    cases h
    have hij : i ≠ j := by rintro rfl; have := (slot_get q1).symm.trans (slot_get q2); cases this; exact n1 rfl
    have hil : i ≠ l := by rintro rfl; have := (slot_get q1).symm.trans (slot_get q5); cases this; exact n2 rfl
    have hjl : j ≠ l := by rintro rfl; have := (slot_get q2).symm.trans (slot_get q5); cases this; exact n3 rfl
    exact ps_par3D o.calm (by rw [o.N]; exact o.nd) (by rw [o.N]; exact slot_get q1) (by rw [o.N]; exact slot_get q2) (by rw [o.N]; exact slot_get q5) hij hil hjl (by rw [o.sc]; exact l1) (by rw [o.sc]; exact l2) (by rw [o.sc]; exact l3) (s.E q3 o) (s.E q4 o) (s.E q6 o) (star_cons s1) (star_cons s2) (star_cons s3) hw2 rfl
  · cases h
theorem sAsg_ok (s : c.Snd Φ) (o : Ok C Φ G Wx X) {tg e : Expr} {pos : Pos} {f : SF} (h : sAsg c C tg e = some f) : PS X (.Assign [tg] e pos) (tS G Wx f) := by
  unfold sAsg at h
  obtain ⟨hc, h⟩ := ifs h
  rw [Bool.and_eq_true] at hc
  obtain ⟨r, q0, h⟩ := bnd h
  have nn : ∀ x p, tg ≠ .Name x p := by rintro x p rfl; exact absurd hc.2 (by simp [isNm])
  cases r with
  | some names => exact sPar_ok s o q0 h
  | none =>
    obtain ⟨f1, q1, h⟩ := bnd h
    obtain ⟨f2, q2, h⟩ := bnd h
    cases h
    exact ps_asgD (s.E q1 o) (s.G q2 o) (sw_tgt nn) (sw_go (by rw [o.sc]; exact q0)) (asg_one hc.1)
theorem sSet_ok (s : c.Snd Φ) (o : Ok C Φ G Wx X) {x : Str} {px pos : Pos} {e : Expr} {f : SF} (h : sSet c C x px e = some f) : PS X (.Assign [.Name x px] e pos) (tS G Wx f) := by
  unfold sSet at h
  split at h
  · rename_i elt tg iter ifs' scope lpos
    obtain ⟨hl, h⟩ := ifs h
    rw [Bool.and_eq_true] at hl
    obtain ⟨l1, l2⟩ := o.loc hl.1
    have hk : X.env.scope.kind = .function := by
      rw [o.sc]
      have := hl.2
      split at this
      · assumption
      · cases this
    obtain ⟨i, q0, h⟩ := bnd h
    obtain ⟨h0, q1, h⟩ := bnd h
    obtain ⟨it, g, t, f', e0, hi, bk, hg, ht, he, hs⟩ := eLc_ok s o q1
    subst e0
    have nd : X.N.Nodup := by rw [o.N]; exact o.nd
    have hx : X.N[i]? = some x := by rw [o.N]; exact slot_get q0
    by_cases hb : C.sc = X.env.scope ∧ swB C x px scope lpos = true
    · have hb2 := hb.2
      unfold swB at hb2
      rw [Bool.and_eq_true, Bool.and_eq_true, beq_iff_eq, hb.1] at hb2
      have sw : swapsWith (.ListComp elt [⟨tg, iter, ifs', 0⟩] scope lpos) (some (.Name x px)) pos.line X.env = pure true := sw_true hk hb2.1.1 hb2.1.2 (by simpa using hb2.2)
      by_cases hm : C.isMu lpos = true
      · rw [if_pos hm] at h; cases h
        exact ps_lcD (.inr rfl) o.calm nd hx hb2.1.1 sw hi bk hg ht he hs
      · rw [if_neg hm] at h; cases h
        exact ps_lcD (.inl rfl) o.calm nd hx hb2.1.1 sw hi bk hg ht he hs
    · have sw : swapsWith (.ListComp elt [⟨tg, iter, ifs', 0⟩] scope lpos) (some (.Name x px)) pos.line X.env = pure false := sw_lc hk hb o.sc.symm
      by_cases hm : C.isMu lpos = true
      · rw [if_pos hm] at h; cases h
        exact ps_setD nd hx l1 l2 (pe_lcMD o.calm nd hi bk hg ht he hs) sw
      · rw [if_neg hm] at h; cases h
        exact ps_setD nd hx l1 l2 (pe_lcD o.calm nd hi bk hg ht he hs) sw
  · obtain ⟨hl, h⟩ := ifs h
    rw [Bool.and_eq_true] at hl
    obtain ⟨l1, l2⟩ := o.loc hl.1
    obtain ⟨i, q0, h⟩ := bnd h
    obtain ⟨f1, q1, h⟩ := bnd h
    cases h
    exact ps_setD (by rw [o.N]; exact o.nd) (by rw [o.N]; exact slot_get q0) l1 l2 (s.E q1 o) (sw_none (by simpa using hl.2))
theorem stS_ok (s : c.Snd Φ) (o : Ok C Φ G Wx X) {st : Stmt} {f : SF} (h : stS c C st = some f) : PS X st (tS G Wx f) := by
  unfold stS at h
  split at h
  · exact sSet_ok s o h
  · exact sAsg_ok s o h
  · obtain ⟨hl, h⟩ := ifs h
    obtain ⟨l1, l2⟩ := o.loc hl
    obtain ⟨i, q0, h⟩ := bnd h
    obtain ⟨go, q1, h⟩ := bnd h
    obtain ⟨f1, q2, h⟩ := bnd h
    cases h
    exact ps_augD (by rw [o.N]; exact o.nd) (by rw [o.N]; exact slot_get q0) l1 l2 (s.E q2 o) (augGo_ok q1)
  · obtain ⟨hl, h⟩ := ifs h
    obtain ⟨f1, q1, h⟩ := bnd h
    cases h
    exact ps_dropD (s.E q1 o) (sw_none hl)
  · obtain ⟨f1, q1, h⟩ := bnd h
    cases h
    exact ps_retD (s.E q1 o)
  · cases h; exact ps_retND
  · obtain ⟨f1, q1, h⟩ := bnd h
    obtain ⟨f2, q2, h⟩ := bnd h
    obtain ⟨f3, q3, h⟩ := bnd h
    cases h
    exact ps_ifD (s.T q1 o) (s.Ss q2 o) (s.Ss q3 o)
  · obtain ⟨hl, h⟩ := ifs h
    obtain ⟨f1, q1, h⟩ := bnd h
    obtain ⟨f2, q2, h⟩ := bnd h
    obtain ⟨f3, q3, h⟩ := bnd h
    cases h
    exact ps_forD o.pass o.calm (s.I q1 o) (s.G q2 o) (s.Ss q3 o) (folded_of hl)
  · obtain ⟨f1, q1, h⟩ := bnd h
    obtain ⟨f2, q2, h⟩ := bnd h
    cases h
    exact ps_whileD o.pass (s.T q1 o) (s.Ss q2 o)
  · cases h; exact ps_passD
  · cases h; exact ps_brkD
  · cases h; exact ps_cntD
  · cases h; exact ps_badD
  · cases h
theorem stSs_ok (s : c.Snd Φ) (o : Ok C Φ G Wx X) : ∀ {b : List Stmt} {f : SF}, stSs c C b = some f → PSs X b (tS G Wx f)
  | [], f, h => by cases h; exact pss_nilD
  | [st], f, h => pss_one (stS_ok s o h)
  | st :: s2 :: r, f, h => by
    unfold stSs at h
    obtain ⟨f1, q1, h⟩ := bnd h
    obtain ⟨f2, q2, h⟩ := bnd h
    cases h
    exact pss_consD (stS_ok s o q1) (stSs_ok s o q2)
end
/-! ### the whole -/
def noCmp : Cmp := ⟨fun _ _ => none, fun _ _ => none, fun _ _ _ => none, fun _ _ _ => none, fun _ _ => none⟩
def comp (Φ : Nat → Fn) : Nat → Cmp
  | 0 => noCmp
  | n + 1 => ⟨stE (comp Φ n) Φ, stT (comp Φ n), stI (comp Φ n), stG (comp Φ n), stSs (comp Φ n)⟩
theorem comp_snd (Φ : Nat → Fn) : ∀ n, (comp Φ n).Snd Φ
  | 0 => ⟨fun h => (nomatch h), fun h => (nomatch h), fun h => (nomatch h), fun h => (nomatch h), fun h => (nomatch h)⟩
  | n + 1 => by
    have ih := comp_snd Φ n
    exact ⟨fun h _ _ _ o => stE_ok ih o h, fun h _ _ _ o => stT_ok ih o h, fun h _ _ _ o => stI_ok ih o h, fun h _ _ _ o => stG_ok ih o h, fun h _ _ _ o => stSs_ok ih o h⟩
end Lt
set_option maxRecDepth 100000
set_option maxHeartbeats 4000000
namespace Lt
open PySem PySem.Spec PyProof.Rows L2

/-! ### a law's defs, each with what it does -/
structure FnS where
  name : Str
  ps : List Str
  N : List Str
  body : (Nat → Fn) → SF
structure Lw where
  fs : List FnS
  bis : List Str
  ks : List (Str × D)
  kd : List (Str × List (Str × D))
  mu : List (Nat × Nat)
  wh : Nat
  fuel : Nat
def den (fs : List FnS) : Nat → Nat → Fn
  | 0, _ => fun _ _ => .bad
  | k + 1, i => match fs[i]? with
    | some f => runB (f.body (den fs k)) f.N.length
    | none => fun _ _ => .bad
def Lw.tab (L : Lw) : List (Str × Nat × List Str) := L.fs.mapIdx fun i f => (f.name, i, f.ps)
def Lw.ct (L : Lw) (f : FnS) (sc : Scope) : Ct := ⟨f.N, sc, fun _ => true, L.tab, L.bis, L.ks, L.kd, L.mu, L.wh⟩
/-- what of a def must be plain -/
def plainDef (f : FnS) (st : Stmt) : Bool :=
  (match (defScope st).kind with | .function => true | _ => false) && !(defScope st).isCoroutine && !(defScope st).isGenerator && decide f.N.Nodup && decide (f.N.take f.ps.length = f.ps) &&
  (f.ps.all fun x => (defScope st).names.lookup x == some .local || (defScope st).names.lookup x == some .cell) && ((defScope st).names.all fun y => !(y.2 == .free)) &&
  (defArgs st).posonlyargs.isEmpty && decide ((defArgs st).args.map (·.arg) = f.ps) && (defArgs st).vararg.isNone && (defArgs st).kwonlyargs.isEmpty && (defArgs st).kwarg.isNone
theorem plainDef_sc {f : FnS} {st : Stmt} (h : plainDef f st = true) : FnScope f.N f.ps (defScope st) := by
  unfold plainDef at h
  simp only [Bool.and_eq_true, decide_eq_true_eq, Bool.not_eq_true', List.all_eq_true, Bool.or_eq_true, beq_iff_eq] at h
  obtain ⟨⟨⟨⟨⟨⟨⟨⟨⟨⟨⟨h1, h2⟩, h3⟩, h4⟩, h5⟩, h6⟩, h7⟩, _⟩, _⟩, _⟩, _⟩, _⟩ := h
  refine ⟨?_, h2, h3, h4, h5, h6, fun y hy z => ?_⟩
  · split at h1
    · assumption
    · cases h1
  · have := h7 y hy
    rw [z] at this
    cases this
theorem plainDef_fd {K : Kf} {f : FnS} {st : Stmt} {a : Addr} {fd : FuncData} {x q : Str} (h : plainDef f st = true) (F : FunD K x q (defArgs st) (defBody st) (defScope st) [] [] a fd) : PlainFd fd f.ps := by
  have sc := plainDef_sc h
  unfold plainDef at h
  simp only [Bool.and_eq_true, decide_eq_true_eq, Bool.not_eq_true', List.all_eq_true, Bool.or_eq_true, beq_iff_eq, List.isEmpty_iff, Option.isNone_iff_eq_none] at h
  obtain ⟨⟨⟨⟨⟨_, h8⟩, h9⟩, h10⟩, h11⟩, h12⟩ := h
  obtain ⟨oc, od, dV, kV, doc, pm, an, cdv, ct, osl, rfl, _, _, dfl, _⟩ := F.ex
  refine ⟨?_, ?_, h8, h9, h10, h11, h12⟩
  · have := sc.pre
    have nd := sc.nd
    rw [← this]
    exact nd.sublist (List.take_sublist _ _)
  · rcases dfl with ⟨_, z⟩ | ⟨z, _⟩
    · exact z
    · exact absurd rfl z
/-- what the head tells, and what the compiler made -/
structure Facts (L : Lw) (sts : Nat → Stmt) (w : World) (K : Kf) (mg : Str → Option Value) : Prop where
  fn : ∀ i f, L.fs[i]? = some f → ∃ a fd, mg f.name = some (.ref a) ∧ FunD K f.name f.name (defArgs (sts i)) (defBody (sts i)) (defScope (sts i)) [] [] a fd
  bis : ∀ x, L.bis.contains x = true → mg x = none
  ks : ∀ x d, L.ks.lookup x = some d → ∃ u v, mg x = some u ∧ RelV v u ∧ ∀ W, Rep K W d v
  kd : ∀ x tb, L.kd.lookup x = some tb → ∃ a, mg x = some (.ref a) ∧ ∀ z d, tb.lookup z = some d → ∃ v, KDct K w a z v ∧ ∀ W, Rep K W d v
structure Made (L : Lw) (sts : Nat → Stmt) : Prop where
  plain : ∀ i f, L.fs[i]? = some f → plainDef f (sts i) = true
  code : ∀ Φ i f, L.fs[i]? = some f → (comp Φ L.fuel).Ss (L.ct f (defScope (sts i))) (defBody (sts i)) = some (f.body Φ)
theorem mapIdx_lookup {fs : List FnS} {x : Str} {i : Nat} {ps : List Str} (h : (fs.mapIdx fun i f => (f.name, i, f.ps)).lookup x = some (i, ps)) : ∃ f, fs[i]? = some f ∧ f.name = x ∧ f.ps = ps := by
  have mem : ∀ (l : List (Str × Nat × List Str)), l.lookup x = some (i, ps) → (x, i, ps) ∈ l := by
    intro l
    induction l with
    | nil => intro h; cases h
    | cons a l ih =>
      intro h
      obtain ⟨y, b⟩ := a
      rw [List.lookup_cons] at h
      by_cases e : (x == y) = true
      · rw [e] at h
        simp only [Option.some.injEq] at h
        rw [beq_iff_eq] at e
        subst e h
        exact List.mem_cons_self
      · rw [show (x == y) = false by simpa using e] at h
        exact List.mem_cons_of_mem _ (ih h)
  have hm := mem _ h
  rw [List.mem_mapIdx] at hm
  obtain ⟨j, hj, e⟩ := hm
  cases e
  exact ⟨_, List.getElem?_eq_getElem hj, rfl, rfl⟩
theorem fn_all {L : Lw} {sts : Nat → Stmt} {P : Program} {w : World} {G : Gc} {mg : Str → Option Value} {base : Heap} (F : Facts L sts w G.K mg) (M : Made L sts) : ∀ k i f, L.fs[i]? = some f → ∀ {a : Addr} {fd : FuncData},
    FunD G.K f.name f.name (defArgs (sts i)) (defBody (sts i)) (defScope (sts i)) [] [] a fd → FnG P w G.K mg base k a fd f.ps (spD G (den L.fs k i) f.ps.length) := by
  intro k
  induction k with
  | zero =>
    intro i f hf a fd fun_
    exact ⟨fun vs H Q E ⟨ds, S, W, _, r, l, _⟩ => by rw [← r.len, l], fun A outer t H args us vs Q E _ _ _ _ _ ⟨ds, S, W, _, _, _, o⟩ => False.elim o⟩
  | succ k ih =>
    intro i f hf a fd fun_
    have pf := plainDef_fd (M.plain i f hf) fun_
    have sc := plainDef_sc (M.plain i f hf)
    obtain ⟨oc, od, dV, kV, doc, pm, an, cdv, ct, osl, e, lk, hcd, _, _⟩ := fun_.ex
    have hd : den L.fs (k + 1) i = runB (f.body (den L.fs k)) f.N.length := by
      show (match L.fs[i]? with | some f => runB (f.body (den L.fs k)) f.N.length | none => fun _ _ => .bad) = _
      rw [hf]
    rw [hd]
    subst e
    refine fnG_of lk hcd sc rfl fun A outer t H E gd hr => ?_
    refine (comp_snd (den L.fs k) L.fuel).Ss (M.code _ i f hf) ⟨rfl, sc.nd, rfl, fun _ _ => rfl, rfl, rfl, gd, ?_, PassesOwn.leaving, takes_of rfl rfl rfl rfl, ?_, F.bis, F.ks, F.kd⟩
    · have := hr.un
      show (A.deeper _).units + 100 < cLine
      omega
    · intro x j ps hj
      obtain ⟨f2, h1, h2, h3⟩ := mapIdx_lookup hj
      obtain ⟨a2, fd2, m2, F2⟩ := F.fn j f2 h1
      have G2 := ih j f2 h1 F2
      have p2 := plainDef_fd (M.plain j f2 h1) F2
      subst h2 h3
      exact ⟨a2, fd2, k, m2, F2.kp, G2, hr, p2⟩

/-! ### the law is called -/
theorem stR_first (G : Gc) (H : Hp) : StR G [] ⟨H, [], fun _ => none⟩ H :=
  ⟨fun p o h => .inl h, rfl, List.nodup_nil, fun p h => absurd h (by simp), fun p h => h, fun p o h => (nomatch h), fun n c h => by simp at h⟩
theorem rep_ints {K : Kf} {W : Wd} : ∀ ns : List Int, RepL K W (ns.map D.int) (ns.map V.int)
  | [] => .nil
  | i :: ns => .cons (.int i) (rep_ints ns)
/-- what the law's def must tell -/
def Tells (φ : Fn) (n : Nat) : Prop := ∀ ns : List Int, ns.length ≤ n → ∃ S, φ [.scr (ns.map .int)] [] = .ok (.bl true) S
theorem sp_law {G : Gc} {φ : Fn} {n : Nat} (h : Tells φ n) {H : Hp} {a : Addr} {ns : List Int} (hl : ns.length ≤ n) (hs : SqL G.K H a (ns.map V.int)) : spD G φ 1 [.ref a] H (fun v _ => v = .bl true) (fun _ _ _ => False) := by
  refine ⟨[.scr (ns.map .int)], [], ⟨H, [], fun _ => none⟩, stR_first G H, .cons (.scr hs (rep_ints ns)) .nil, rfl, ?_⟩
  obtain ⟨S, e⟩ := h ns hl
  rw [e]
  intro v H' W' _ _ r
  cases r
  rfl
section
variable {P : Program} {w : World} {K : Kf} {mg mb : Str → Option Value} {k : Nat} {fa a : Addr} {fd : FuncData} {x : Str} {sp : Sp} {t : Shared} {vs : List Value} {ns : List Int}
theorem call_with (KX : K.In t.heap) (hns : t.heap.Ns mainGlobals mg) (hb : t.heap.Ns builtinsNs mb) (hbb : ∀ y : Str, y ≠ "__name__" → mb y = bootBuiltins y) (hlim : t.heap.NoLimit) (hg : t.gens = #[])
    (hr : Room k callerA) (F : ∀ base : Heap, K.In base → base.Ns mainGlobals mg → FnG P w K mg base k fa fd [x] sp) (hbind : BindsTo t fd ⟨[.ref a], []⟩ [(x, .ref a)])
    (H : Hp) (hO : Only H) (hok : HOk P w H t.heap) (hK : ∀ b o, K.lookup b = some o → H b = none) (hD : ∀ b o es ep, t.heap.get? b = some o → o.data = .dict es ep → H b = none) (hsp : sp [.ref a] H (fun v _ => v = .bl true) (fun _ _ _ => False)) :
    codeAny (model P w) callerA (.call (.ref fa) ⟨[.ref a], []⟩) (fun r s' => r = .ok (.ret (.bool true)) ∧ OldK t.heap s'.heap ∧ s'.os = t.os ∧ AllBare s'.gens) t := by
  have ns2 : ∀ {b : Addr} {m : Str → Option Value}, t.heap.Ns b m → (hidT t.heap H).Ns b m := by
    rintro b m ⟨o, es, ep, e, d, r⟩
    exact ⟨o, es, ep, hidT_get e (hD b o es ep e d), d, r⟩
  have kin : K.In (hidT t.heap H) := fun b o e => hidT_get (KX b o e) (hK b o e)
  have env0 : Env0 P w K mg (hidT t.heap H) callerA [] t H := by
    refine ⟨rfl, ⟨kin, ns2 hns, ⟨mb, ns2 hb, hbb⟩, ?_⟩, fun b o e => of_hidT e, Nat.le_of_eq (hidT_size t.heap H), trivial, fun b q => absurd q (by show ¬ b ∈ ([] : List Addr); simp), hok, AllBare.of_eq hg⟩
    obtain ⟨mc, h1, h2⟩ := hlim
    exact ⟨mc, ns2 h1, h2⟩
  refine codeAny_mono ((F _ kin (ns2 hns)).run callerA [] t H ⟨[.ref a], []⟩ [.ref a] [.ref a] _ _ rfl hr env0 hbind (.cons rfl .nil) hsp) fun r s' h => ?_
  cases r with
  | error e =>
    obtain ⟨_, _, _, _, _, _, _, _, _, _, _, _, z⟩ := h
    exact False.elim z
  | ok fl =>
    cases fl with
    | ret u =>
      obtain ⟨v, H', os, bare, un, hok', r', q⟩ := h
      subst q
      cases r'
      refine ⟨rfl, OldK.of_keep fun b o e => ?_, os, bare⟩
      rcases hO b with q | ⟨ob, xs, q⟩
      · exact un.keep b o e q (by show ¬ b ∈ ([] : List Addr); simp) (by simp)
      · have q2 := un.frzs b ob _ q
        have e1 := hok b _ q
        have e2 := hok' b _ q2
        unfold ObjOk at e1 e2
        rw [e1.1] at e; cases e
        exact e2.1
    | next => exact False.elim h
    | brk => exact False.elim h
    | cont => exact False.elim h
/-- with the script given -/
theorem call_script (KX : K.In t.heap) (hns : t.heap.Ns mainGlobals mg) (hb : t.heap.Ns builtinsNs mb) (hbb : ∀ y : Str, y ≠ "__name__" → mb y = bootBuiltins y) (hlim : t.heap.NoLimit) (hg : t.gens = #[])
    (ha : t.heap.get? a = some { cls := .type "list", data := .seq vs.toArray }) (hi : IntsAre vs ns) (hl : ns.length ≤ sizeLine)
    (hr : Room k callerA) (F : ∀ base : Heap, K.In base → base.Ns mainGlobals mg → FnG P w K mg base k fa fd [x] sp) (hbind : BindsTo t fd ⟨[.ref a], []⟩ [(x, .ref a)])
    (hsp : ∀ H, SqL K H a (ns.map V.int) → sp [.ref a] H (fun v _ => v = .bl true) (fun _ _ _ => False)) :
    codeAny (model P w) callerA (.call (.ref fa) ⟨[.ref a], []⟩) (fun r s' => r = .ok (.ret (.bool true)) ∧ OldK t.heap s'.heap ∧ s'.os = t.os ∧ AllBare s'.gens) t := by
  have rv := vals_ints hi
  cases hk : K.lookup a with
  | some o =>
    have e := KX a o hk
    rw [ha] at e; cases e
    have sq : SqL K (fun _ => none) a (ns.map V.int) := .inr ⟨_, vs.toArray, 0, hk, rfl, rfl, rfl, by rw [List.size_toArray, hi.length]; exact hl, rv⟩
    exact call_with KX hns hb hbb hlim hg hr F hbind (fun _ => none) (fun _ => .inl rfl) (fun _ _ z => nomatch z) (fun _ _ _ => rfl) (fun _ _ _ _ _ _ => rfl) (hsp _ sq)
  | none =>
    have at_a : ∀ u : HO, (fun b => if b = a then some u else none : Hp) a = some u := fun u => if_pos rfl
    have off : ∀ {b : Addr} {u : HO}, b ≠ a → (fun b => if b = a then some u else none : Hp) b = none := fun h => if_neg h
    refine call_with KX hns hb hbb hlim hg hr F hbind (fun b => if b = a then some (.frz { cls := .type "list", data := .seq vs.toArray } (.lst (ns.map V.int))) else none) (fun b => ?_) (fun b u z => ?_) (fun b o e => ?_) (fun b o es ep e d => ?_) (hsp _ (.inl (.inr ⟨_, at_a _⟩)))
    · by_cases q : b = a
      · exact .inr ⟨_, _, if_pos q⟩
      · exact .inl (off q)
    · by_cases q : b = a
      · subst q
        rw [at_a] at z; cases z
        unfold ObjOk
        exact ⟨ha, by rw [List.length_map]; exact hl, vs, 0, rv, ha⟩
      · rw [off q] at z; cases z
    · refine off ?_
      rintro rfl
      rw [hk] at e; cases e
    · refine off ?_
      rintro rfl
      rw [ha] at e; cases e; cases d
end
/-- a law's walk, from what its def tells -/
theorem walkG {l : PySem.W.OpenLaw} {n k : Nat} {q : Program} {loose : List Str} {XP : (Str → Option Value) → Heap → Prop} {YP : World → Heap → Prop} {d : DefRec} {x : Str}
    (hm : l.most = some n) (hn : n ≤ sizeLine) (hd : d.params.defaults = []) (hr : Room k callerA)
    (h : ∀ (w : World) (mg : Str → Option Value) (fa : Addr) (h : Heap), YP w h → h.Ns mainGlobals mg → mg d.name = some (.ref fa) →
      ∃ (K : Kf) (fd : FuncData) (sp : Sp), K.In h ∧ (∀ (s : Shared) (u : Value), K.In s.heap → BindsTo s fd ⟨[u], []⟩ [(x, u)]) ∧ (∀ (H : Hp) (a : Addr) (ns : List Int), ns.length ≤ n → SqL K H a (ns.map V.int) → sp [.ref a] H (fun v _ => v = .bl true) (fun _ _ _ => False)) ∧
        ∀ base : Heap, K.In base → base.Ns mainGlobals mg → FnG l.prog w K mg base k fa fd [x] sp) :
    PySem.W.WalkO q loose XP YP l.row.toRowW d [] (fun f vs => call f vs) :=
  Att.attach_call hm hd fun w s₀ s₁ mg mb fa o pm cd doc a vs ns gr y ho hod hc hmg ha hi hl hg => by
    obtain ⟨K, fd, sp, KX, hb, hsp, F⟩ := h w mg fa s₁.heap y gr.T.g hmg
    exact call_script KX gr.T.g gr.T.b gr.T.builtins gr.T.nolimit hg ha hi (Nat.le_trans hl hn) hr F (hb s₁ (.ref a) KX) fun H hs => hsp H a ns hl hs
end Lt
set_option maxRecDepth 100000
set_option maxHeartbeats 4000000
namespace Lt
open PySem PySem.Spec PyProof.Rows L2

/-! ### constants of the written part, looked at -/
def ckL (f : Value → D → Bool) : List Value → List D → Bool
  | [], [] => true
  | u :: us, d :: ds => f u d && ckL f us ds
  | _, _ => false
def isTyp (c : Value) (n : String) : Bool := match c with
  | .type m => m == n
  | _ => false
def ck : Nat → Kf → Value → D → Bool
  | 0, _, _, _ => false
  | n + 1, K, u, d => match u, d with
    | .none, .non => true
    | .bool b, .bl c => b == c
    | .int i _, .int j => decide (i = j)
    | .str x _, .str y => x == y
    | .ref a, .tup ds => match K.lookup a with
      | some ⟨c, _, .seq its _, _⟩ => isTyp c "tuple" && decide (its.size ≤ sizeLine) && ckL (ck n K) its.toList ds
      | _ => false
    | .ref a, .scr ds => match K.lookup a with
      | some ⟨c, none, .seq its _, _⟩ => isTyp c "list" && decide (its.size ≤ sizeLine) && ckL (ck n K) its.toList ds
      | _ => false
    | _, _ => false
theorem isTyp_ok {c : Value} {n : String} (h : isTyp c n = true) : c = .type n := by
  unfold isTyp at h
  split at h
  · rw [beq_iff_eq] at h; subst h; rfl
  · cases h
theorem ckL_ok {K : Kf} {f : Value → D → Bool} (hf : ∀ u d, f u d = true → ∃ v, L2.RelV v u ∧ ∀ W, Rep K W d v) : ∀ {us : List Value} {ds : List D}, ckL f us ds = true → ∃ vs, Vals vs us ∧ ∀ W, RepL K W ds vs
  | [], [], _ => ⟨[], .nil, fun _ => .nil⟩
  | u :: us, d :: ds, h => by
    unfold ckL at h
    rw [Bool.and_eq_true] at h
    obtain ⟨v, h1, h2⟩ := hf u d h.1
    obtain ⟨vs, h3, h4⟩ := ckL_ok hf h.2
    exact ⟨v :: vs, .cons h1 h3, fun W => .cons (h2 W) (h4 W)⟩
  | [], _ :: _, h => by cases h
  | _ :: _, [], h => by cases h
theorem ck_ok {K : Kf} : ∀ (n : Nat) (u : Value) (d : D), ck n K u d = true → ∃ v, L2.RelV v u ∧ ∀ W, Rep K W d v
  | 0, _, _, h => by cases h
  | n + 1, u, d, h => by
    have ih := ck_ok (K := K) n
    unfold ck at h
    split at h
    · exact ⟨.non, rfl, fun _ => .non⟩
    · rw [beq_iff_eq] at h; subst h; exact ⟨.bl _, rfl, fun _ => .bl _⟩
    · rw [decide_eq_true_eq] at h; subst h; exact ⟨.int _, ⟨_, rfl⟩, fun _ => .int _⟩
    · rw [beq_iff_eq] at h; subst h; exact ⟨.str _, ⟨_, rfl⟩, fun _ => .str _⟩
    · split at h
      · rename_i hl
        rw [Bool.and_eq_true, Bool.and_eq_true, decide_eq_true_eq] at h
        obtain ⟨vs, h1, h2⟩ := ckL_ok ih h.2
        exact ⟨.ref _, rfl, fun W => .tup (.inr ⟨_, _, _, hl, isTyp_ok h.1.1, rfl, h.1.2, h1⟩) (h2 W)⟩
      · cases h
    · split at h
      · rename_i hl
        rw [Bool.and_eq_true, Bool.and_eq_true, decide_eq_true_eq] at h
        obtain ⟨vs, h1, h2⟩ := ckL_ok ih h.2
        exact ⟨.ref _, rfl, fun W => .scr (.inr ⟨_, _, _, hl, isTyp_ok h.1.1, rfl, rfl, h.1.2, h1⟩) (h2 W)⟩
      · cases h
    · cases h
def atK (K : Kf) (a : Addr) (x : Str) (d : D) : Bool := match PySem.W.nsIn K a x with
  | some (some u) => ck 8 K u d
  | _ => false
theorem atK_ok {K : Kf} {a : Addr} {x : Str} {d : D} (h : atK K a x d = true) : ∃ u v, PySem.W.nsIn K a x = some (some u) ∧ L2.RelV v u ∧ ∀ W, Rep K W d v := by
  unfold atK at h
  split at h
  · rename_i u hu
    obtain ⟨v, h1, h2⟩ := ck_ok 8 u d h
    exact ⟨u, v, hu, h1, h2⟩
  · cases h

/-! ### what the head's look at the heap tells of a law's parts -/
def Lw.fa (L : Lw) : List He.Fa := L.fs.map (fun f => .glo f.name) ++ (L.bis.map .free ++ L.kd.map (fun p => .glo p.1))
def Lw.dd (L : Lw) (sts : Nat → Stmt) : List He.DefD := L.fs.mapIdx fun i f => ⟨(f.name, none), f.name, f.name, defArgs (sts i), defBody (sts i), defScope (sts i), [], []⟩
def Lw.ts (L : Lw) : List He.Tab := L.kd.map fun p => (fun K => He.ga K p.1, p.2.map (·.1))
def Lw.ex (L : Lw) (K : Kf) : Bool := (L.ks.all fun p => atK K mainGlobals p.1 p.2) && L.kd.all fun p => p.2.all fun z => atK K (He.ga K p.1) z.1 z.2
theorem lookup_mem' {α : Type} {x : Str} {d : α} : ∀ {l : List (Str × α)}, l.lookup x = some d → (x, d) ∈ l
  | [], h => by cases h
  | (y, b) :: l, h => by
    rw [List.lookup_cons] at h
    by_cases e : (x == y) = true
    · rw [e] at h
      simp only [Option.some.injEq] at h
      rw [beq_iff_eq] at e
      subst e h
      exact List.mem_cons_self
    · rw [show (x == y) = false by simpa using e] at h
      exact List.mem_cons_of_mem _ (lookup_mem' h)
theorem facts_of {L : Lw} {sts : Nat → Stmt} {w : World} {K : Kf} {h : Heap} {mg : Str → Option Value} (KX : K.In h) (N : h.Ns mainGlobals mg) (c : He.SaysX L.fa (L.dd sts) L.ts [] L.ex w h K) : Facts L sts w K mg := by
  have more := c.more
  unfold Lw.ex at more
  rw [Bool.and_eq_true, List.all_eq_true, List.all_eq_true] at more
  refine ⟨fun i f hf => ?_, fun x hx => ?_, fun x d hx => ?_, fun x tb hx => ?_⟩
  · have hm : (⟨(f.name, none), f.name, f.name, defArgs (sts i), defBody (sts i), defScope (sts i), [], []⟩ : He.DefD) ∈ L.dd sts := by
      unfold Lw.dd
      rw [List.mem_mapIdx]
      obtain ⟨h1, h2⟩ := List.getElem?_eq_some_iff.mp hf
      exact ⟨i, h1, by rw [h2]⟩
    obtain ⟨fd, F⟩ := He.SaysD.defs c.t.d hm
    have g : He.Fa.ok K (.glo f.name) = true := He.SaysD.facts c.t.d (List.mem_append_left _ (List.mem_map.mpr ⟨f, List.mem_of_getElem? hf, rfl⟩))
    exact ⟨_, fd, He.glo_ok KX N g, F⟩
  · have g : He.Fa.ok K (.free x) = true := He.SaysD.facts c.t.d (List.mem_append_right _ (List.mem_append_left _ (List.mem_map.mpr ⟨x, by simpa using hx, rfl⟩)))
    exact He.free_ok KX N g
  · obtain ⟨u, v, h1, h2, h3⟩ := atK_ok (more.1 (x, d) (lookup_mem' hx))
    exact ⟨u, v, PySem.W.mg_of KX N h1, h2, h3⟩
  · have hm := lookup_mem' hx
    have g : He.Fa.ok K (.glo x) = true := He.SaysD.facts c.t.d (List.mem_append_right _ (List.mem_append_right _ (List.mem_map.mpr ⟨(x, tb), hm, rfl⟩)))
    refine ⟨_, He.glo_ok KX N g, fun z d hz => ?_⟩
    have := more.2 (x, tb) hm
    rw [List.all_eq_true] at this
    obtain ⟨u, v, h1, h2, h3⟩ := atK_ok (this (z, d) (lookup_mem' hz))
    obtain ⟨i, hi⟩ := List.getElem?_of_mem hm
    have ht : L.ts[i]? = some (fun K => He.ga K x, tb.map (·.1)) := by
      unfold Lw.ts
      rw [List.getElem?_map, hi]; rfl
    obtain ⟨es, n, kd⟩ := He.SaysT.tab c.t i ht
    exact ⟨v, ⟨es, n, u, kd.at_, kd.lit, h1, h2⟩, h3⟩

/-! ### a law holds -/
abbrev Lw.hk (L : Lw) (sts : Nat → Stmt) : PySem.W.Hook := He.hookX 4 L.fa (L.dd sts) L.ts [] L.ex
def Lw.ob (L : Lw) (sts : Nat → Stmt) (s : PySem.W.SharedT) : He.AlX := He.obsX 4 L.fa (L.dd sts) L.ts [] L.ex (HandSHeadRun.getT s)
theorem Lw.ob_eq (L : Lw) (sts : Nat → Stmt) (s : PySem.W.SharedT) : L.ob sts s = (L.hk sts).obs s.abs := He.obsX_eq (HandSHeadRun.getT_eq s)
theorem law_walk {l : PySem.W.OpenLaw} {L : Lw} {sts : Nat → Stmt} {n k i : Nat} {f : FnS} {q : Program} {loose : List Str} {XP : (Str → Option Value) → Heap → Prop} {d : DefRec} {x : Str} (M : Made L sts)
    (hm : l.most = some n) (hn : n ≤ sizeLine) (hd : d.params.defaults = []) (hr : Room k callerA) (hf : L.fs[i]? = some f) (hps : f.ps = [x]) (hname : d.name = f.name) (ht : Tells (den L.fs k i) n) :
    PySem.W.WalkO q loose XP (L.hk sts).says l.row.toRowW d [] (fun f vs => call f vs) :=
  walkG hm hn hd hr fun w mg fa h y N hmg => by
    obtain ⟨K, KX, c⟩ := y
    have F := facts_of KX N c
    obtain ⟨a, fd, m, F0⟩ := F.fn i f hf
    have pf := plainDef_fd (M.plain i f hf) F0
    rw [hname, m] at hmg
    cases hmg
    have hp : permOf f.ps 1 [] = some [0] := by
      have := perm_pos pf.nd
      rw [hps] at this ⊢
      exact this
    refine ⟨K, fd, spD ⟨K, fun _ => 0, fun _ => none⟩ (den L.fs k i) 1, KX, fun s u hK => ?_, fun H a ns hl hs => sp_law (G := ⟨K, fun _ => 0, fun _ => none⟩) ht hl hs, fun base hK hN => ?_⟩
    · have := bind_gen (K := K) pf hp s [u] [] hK rfl rfl
      rw [hps] at this
      exact this
    · have G2 := fn_all (P := l.prog) (G := ⟨K, fun _ => 0, fun _ => none⟩) (base := base) F M k i f hf F0
      rw [hps] at G2
      exact G2
end Lt
set_option maxRecDepth 100000
set_option maxHeartbeats 4000000
namespace Lt
open PySem PySem.Spec PyProof.Rows L2

/-! ### what an outcome must satisfy -/
def Res.sat {α : Type} (r : Res α) (P : α → Store → Prop) : Prop := match r with
  | .ok a S => P a S
  | _ => False
/-- next, return, break, continue -/
def SRes.sat (r : SRes) (N : SV → Store → Prop) (R : D → Store → Prop) (B : SV → Store → Prop := fun _ _ => False) (Q : SV → Store → Prop := fun _ _ => False) : Prop := match r with
  | .nx e S => N e S
  | .rt d S => R d S
  | .bk e S => B e S
  | .ct e S => Q e S
  | _ => False
section
variable {α β : Type} {P P' : α → Store → Prop} {r : Res α} {N N' : SV → Store → Prop} {R R' : D → Store → Prop} {B B' Q Q' : SV → Store → Prop} {env : SV} {S : Store} {a : α}
theorem Res.sat.mono (h : r.sat P) (k : ∀ a S, P a S → P' a S) : r.sat P' := by
  cases r with
  | ok a S => exact k a S h
  | _ => exact h
theorem SRes.sat.mono {r : SRes} (h : r.sat N R B Q) (k1 : ∀ a S, N a S → N' a S) (k2 : ∀ a S, R a S → R' a S) (k3 : ∀ a S, B a S → B' a S) (k4 : ∀ a S, Q a S → Q' a S) : r.sat N' R' B' Q' := by
  cases r with
  | nx e S => exact k1 e S h
  | rt e S => exact k2 e S h
  | bk e S => exact k3 e S h
  | ct e S => exact k4 e S h
  | _ => exact h
theorem Res.sat.ex (h : r.sat P) : ∃ a S, r = .ok a S ∧ P a S := by
  cases r with
  | ok a S => exact ⟨a, S, rfl, h⟩
  | _ => exact False.elim h
theorem Res.sat_of {S' : Store} (e : r = .ok a S') (h : P a S') : r.sat P := by rw [e]; exact h
@[simp] theorem sat_ok : Res.sat (.ok a S) P = P a S := rfl
@[simp] theorem sat_bad : Res.sat (.bad : Res α) P = False := rfl
@[simp] theorem sat_exc {c : Nat} {d : D} : Res.sat (.exc c d S : Res α) P = False := rfl
theorem sat_bind {k : α → Store → Res β} {P : β → Store → Prop} : Res.sat (r.bind k) P = r.sat fun a S => (k a S).sat P := by cases r <;> rfl
theorem sat_bindS {k : α → Store → SRes} : SRes.sat (r.bindS env k) N R B Q = r.sat fun a S => (k a S).sat N R B Q := by cases r <;> rfl
@[simp] theorem ssat_nx : SRes.sat (.nx env S) N R B Q = N env S := rfl
@[simp] theorem ssat_rt {d : D} : SRes.sat (.rt d S) N R B Q = R d S := rfl
@[simp] theorem ssat_bk : SRes.sat (.bk env S) N R B Q = B env S := rfl
@[simp] theorem ssat_ct : SRes.sat (.ct env S) N R B Q = Q env S := rfl
@[simp] theorem ssat_bad : SRes.sat .bad N R B Q = False := rfl
theorem sat_if {c : Prop} [Decidable c] {x y : Res α} : Res.sat (if c then x else y) P = if c then x.sat P else y.sat P := by split <;> rfl
theorem ssat_if {c : Prop} [Decidable c] {x y : SRes} : SRes.sat (if c then x else y) N R B Q = if c then x.sat N R B Q else y.sat N R B Q := by split <;> rfl
end
section
variable {P : D → Store → Prop} {PB : Bool → Store → Prop} {PA : List D → Store → Prop} {N : SV → Store → Prop} {R : D → Store → Prop} {B Q : SV → Store → Prop} {env : SV} {S : Store} {f g h : EF} {t u : TF} {x y : AF} {a b : SF} {d : D}
theorem w_var {i : Nat} : (var i env S).sat P = match env[i]? with | some (some d) => P d S | _ => False := by
  unfold var
  rcases env[i]? with _ | _ | _ <;> rfl
theorem w_cst : (cst d env S).sat P = P d S := rfl
theorem w_opt {r : Option D} : (opt r S).sat P = match r with | some d => P d S | none => False := by cases r <;> rfl
theorem w_pU {go : D → Option D} : (pU go f env S).sat P = (f env S).sat fun a S1 => match go (vw S1 a) with | some r => P r S1 | none => False := by
  unfold pU; rw [sat_bind]; congr; funext a S1; rw [w_opt]
theorem w_pB {go : D → D → Option D} : (pB go f g env S).sat P = (f env S).sat fun a S1 => (g env S1).sat fun b S2 => match go (vw S2 a) (vw S2 b) with | some r => P r S2 | none => False := by
  unfold pB; rw [sat_bind]; congr; funext a S1; rw [sat_bind]; congr; funext b S2; rw [w_opt]
theorem w_nilA : (nilA env S).sat PA = PA [] S := rfl
theorem w_consA : (consA f x env S).sat PA = (f env S).sat fun a S1 => (x env S1).sat fun b S2 => PA (a :: b) S2 := by
  unfold consA; rw [sat_bind]; congr; funext a S1; rw [sat_bind]; rfl
theorem w_pN {go : List D → Option D} : (pN go x env S).sat P = (x env S).sat fun ds S1 => match go (ds.map (vw S1)) with | some r => P r S1 | none => False := by
  unfold pN; rw [sat_bind]; congr; funext a S1; rw [w_opt]
theorem w_tupE : (tupE x env S).sat P = (x env S).sat fun ds S1 => ds.length ≤ sizeLine ∧ P (.tup ds) S1 := by
  unfold tupE; rw [sat_bind]; congr; funext a S1; rw [sat_if]; simp
theorem w_lstE : (lstE x env S).sat P = (x env S).sat fun ds S1 => ds.length ≤ sizeLine ∧ P (.lst ds) S1 := by
  unfold lstE; rw [sat_bind]; congr; funext a S1; rw [sat_if]; simp
theorem w_lstM : (lstM x env S).sat P = (x env S).sat fun ds S1 => ds.length ≤ sizeLine ∧ P (.ref S1.length) (S1 ++ [.lst ds]) := by
  unfold lstM; rw [sat_bind]; congr; funext a S1; rw [sat_if]; simp
theorem w_tst : (tst f env S).sat PB = (f env S).sat fun a S1 => match truD (vw S1 a) with | some b => PB b S1 | none => False := by
  unfold tst; rw [sat_bind]; congr; funext a S1; cases truD (vw S1 a) <;> rfl
theorem w_notT : (notT t env S).sat PB = (t env S).sat fun b S1 => PB (!b) S1 := by unfold notT; rw [sat_bind]; rfl
theorem w_andT : (andT t u env S).sat PB = (t env S).sat fun b S1 => if b = true then (u env S1).sat PB else PB false S1 := by
  unfold andT; rw [sat_bind]; congr; funext b S1; rw [sat_if]; rfl
theorem w_orT : (orT t u env S).sat PB = (t env S).sat fun b S1 => if b = true then PB true S1 else (u env S1).sat PB := by
  unfold orT; rw [sat_bind]; congr; funext b S1; rw [sat_if]; rfl
theorem w_ifE : (ifE t f g env S).sat P = (t env S).sat fun b S1 => if b = true then (f env S1).sat P else (g env S1).sat P := by
  unfold ifE; rw [sat_bind]; congr; funext b S1; rw [sat_if]
theorem w_andE : (andE f g env S).sat P = (f env S).sat fun a S1 => match truD (vw S1 a) with | some true => (g env S1).sat P | some false => P a S1 | none => False := by
  unfold andE; rw [sat_bind]; congr; funext a S1; rcases truD (vw S1 a) with _ | _ | _ <;> rfl
theorem w_orE : (orE f g env S).sat P = (f env S).sat fun a S1 => match truD (vw S1 a) with | some true => P a S1 | some false => (g env S1).sat P | none => False := by
  unfold orE; rw [sat_bind]; congr; funext a S1; rcases truD (vw S1 a) with _ | _ | _ <;> rfl
theorem w_notE : (notE f env S).sat P = (f env S).sat fun a S1 => match truD (vw S1 a) with | some b => P (.bl !b) S1 | none => False := by
  unfold notE; rw [sat_bind]; congr; funext a S1; rcases truD (vw S1 a) with _ | _ <;> rfl
theorem w_callP {φ : Fn} : (callP φ x env S).sat P = (x env S).sat fun ds S1 => (φ ds S1).sat P := by unfold callP; rw [sat_bind]
theorem w_callE {φ : Fn} {π : List Nat} : (callE φ π x env S).sat P = (x env S).sat fun ds S1 => (φ (permL π ds) S1).sat P := by unfold callE; rw [sat_bind]
theorem w_appA : (appA x y env S).sat PA = (x env S).sat fun a S1 => (y env S1).sat fun b S2 => PA (a ++ b) S2 := by
  unfold appA; rw [sat_bind]; congr; funext a S1; rw [sat_bind]; rfl
theorem w_chE {p q : D → D → Option D} : (chE p q f g h env S).sat P = (f env S).sat fun a S1 => (g env S1).sat fun b S2 => match p (vw S2 a) (vw S2 b) with
    | some (.bl true) => (h env S2).sat fun c S3 => match q (vw S3 b) (vw S3 c) with | some r => P r S3 | none => False
    | some (.bl false) => P (.bl false) S2
    | _ => False := by
  unfold chE; rw [sat_bind]; congr; funext a S1; rw [sat_bind]; congr; funext b S2
  cases p (vw S2 a) (vw S2 b) with
  | none => rfl
  | some r =>
    cases r with
    | bl k =>
      cases k with
      | false => rfl
      | true => show Res.sat ((h env S2).bind fun c S3 => opt (q (vw S3 b) (vw S3 c)) S3) P = _; rw [sat_bind]; congr; funext c S3; rw [w_opt]
    | _ => rfl
theorem w_appE : (appE f g env S).sat P = (f env S).sat fun o S1 => match cellL S1 o with
    | none => False
    | some _ => (g env S1).sat fun d S2 => match cellL S2 o with
      | some (n, xs) => xs.length < sizeLine ∧ P .non (S2.set n (.lst (xs ++ [d])))
      | none => False := by
  unfold appE; rw [sat_bind]; congr; funext o S1
  cases cellL S1 o with
  | none => rfl
  | some p =>
    show Res.sat ((g env S1).bind fun d S2 => match cellL S2 o with
      | some (n, xs) => if xs.length < sizeLine then .ok .non (S2.set n (.lst (xs ++ [d]))) else .bad
      | none => .bad) P = _
    rw [sat_bind]; congr; funext d S2
    cases cellL S2 o with
    | none => rfl
    | some p =>
      obtain ⟨n, xs⟩ := p
      show Res.sat (if xs.length < sizeLine then .ok .non (S2.set n (.lst (xs ++ [d]))) else .bad) P = _
      rw [sat_if]; simp
theorem w_prs_nil {PP : List (D × D) → Store → Prop} : (prsE [] env S).sat PP = PP [] S := rfl
theorem w_prs_cons {PP : List (D × D) → Store → Prop} {r : List (EF × EF)} : (prsE ((f, g) :: r) env S).sat PP = (f env S).sat fun a S1 => (g env S1).sat fun b S2 => (prsE r env S2).sat fun l S3 => PP ((a, b) :: l) S3 := by
  show (((f env S).bind fun a S1 => (g env S1).bind fun b S2 => (prsE r env S2).bind fun l S3 => .ok ((a, b) :: l) S3)).sat PP = _
  rw [sat_bind]; congr; funext a S1; rw [sat_bind]; congr; funext b S2; rw [sat_bind]; rfl
theorem w_dicE {fs : List (EF × EF)} : (dicE fs env S).sat P = (prsE fs env S).sat fun ps S1 => match mkDic ps with | some d => P d S1 | none => False := by
  unfold dicE
  cases prsE fs env S with
  | ok ps S1 => show (opt (mkDic ps) S1).sat P = _; rw [w_opt]; rfl
  | _ => rfl
theorem w_get2E : (get2E f g h env S).sat P = (f env S).sat fun d S1 => isDic (vw S1 d) = true ∧ (g env S1).sat fun k S2 => (h env S2).sat fun z S3 => match dgetD (vw S3 d) (vw S3 k) with
    | some (some y) => P y S3
    | some none => P z S3
    | none => False := by
  unfold get2E; rw [sat_bind]; congr; funext d S1; rw [sat_if]
  by_cases hc : isDic (vw S1 d) = true
  · simp only [hc, if_true, true_and]
    rw [sat_bind]; congr; funext k S2; rw [sat_bind]; congr; funext z S3
    rcases dgetD (vw S3 d) (vw S3 k) with _ | _ | _ <;> rfl
  · rw [if_neg hc]; simp [hc]
theorem w_get1E : (get1E f g env S).sat P = (f env S).sat fun d S1 => isDic (vw S1 d) = true ∧ (g env S1).sat fun k S2 => match dgetD (vw S2 d) (vw S2 k) with
    | some (some y) => P y S2
    | some none => P .non S2
    | none => False := by
  unfold get1E; rw [sat_bind]; congr; funext d S1; rw [sat_if]
  by_cases hc : isDic (vw S1 d) = true
  · simp only [hc, if_true, true_and]
    rw [sat_bind]; congr; funext k S2
    rcases dgetD (vw S2 d) (vw S2 k) with _ | _ | _ <;> rfl
  · rw [if_neg hc]; simp [hc]
theorem w_kixE {tb : List (Str × D)} : (kixE tb f env S).sat P = (f env S).sat fun k S1 => match k with
    | .str z => match tb.lookup z with | some d => P d S1 | none => False
    | _ => False := by
  unfold kixE; rw [sat_bind]; congr; funext k S1
  cases k with
  | str z => exact w_opt
  | _ => rfl
theorem w_noP {PO : Option Int → Store → Prop} : (noP env S).sat PO = PO none S := rfl
theorem w_soP {PO : Option Int → Store → Prop} : (soP f env S).sat PO = (f env S).sat fun d S1 => match d with | .int i => PO (some i) S1 | _ => False := by
  unfold soP; rw [sat_bind]; congr; funext d S1; cases d <;> rfl
theorem w_sliceE {lo hi : OF} : (sliceE f lo hi env S).sat P = (f env S).sat fun d S1 => (lo env S1).sat fun l S2 => (hi env S2).sat fun h S3 => match sliceD l h (vw S3 d) with | some r => P r S3 | none => False := by
  unfold sliceE; rw [sat_bind]; congr; funext d S1; rw [sat_bind]; congr; funext l S2; rw [sat_bind]; congr; funext h S3; rw [w_opt]
/-! statements -/
theorem w_nextS : (nextS env S).sat N R B Q = N env S := rfl
theorem w_badS : (badS env S).sat N R B Q = False := rfl
theorem w_seqS : (seqS a b env S).sat N R B Q = (a env S).sat (fun e1 S1 => (b e1 S1).sat N R B Q) R B Q := by
  unfold seqS; cases a env S <;> rfl
theorem w_setS {i : Nat} : (setS i f env S).sat N R B Q = (f env S).sat fun d S1 => N (env.set i (some d)) S1 := by unfold setS; rw [sat_bindS]; rfl
theorem w_asgS {gt : GF} : (asgS f gt env S).sat N R B Q = (f env S).sat fun d S1 => match gt d env S1 with | some (e1, S2) => N e1 S2 | none => False := by
  unfold asgS; rw [sat_bindS]; congr; funext d S1; rcases gt d env S1 with _ | ⟨_, _⟩ <;> rfl
theorem w_par2 {i j : Nat} : (par2 i j f g env S).sat N R B Q = (f env S).sat fun a S1 => (g env S1).sat fun b S2 => N ((env.set i (some a)).set j (some b)) S2 := by
  unfold par2; rw [sat_bindS]; congr; funext a S1; rw [sat_bindS]; rfl
theorem w_par3 {i j l : Nat} : (par3 i j l f g h env S).sat N R B Q = (f env S).sat fun a S1 => (g env S1).sat fun b S2 => (h env S2).sat fun c S3 => N (((env.set i (some a)).set j (some b)).set l (some c)) S3 := by
  unfold par3; rw [sat_bindS]; congr; funext a S1; rw [sat_bindS]; congr; funext b S2; rw [sat_bindS]; rfl
theorem w_dropS : (dropS f env S).sat N R B Q = (f env S).sat fun _ S1 => N env S1 := by unfold dropS; rw [sat_bindS]; rfl
theorem w_retS : (retS f env S).sat N R B Q = (f env S).sat fun d S1 => R d S1 := by unfold retS; rw [sat_bindS]; rfl
theorem w_retN : (Lt.retN env S).sat N R B Q = R .non S := rfl
theorem w_brkS : (brkS env S).sat N R B Q = B env S := rfl
theorem w_cntS : (cntS env S).sat N R B Q = Q env S := rfl
theorem w_ifS : (ifS t a b env S).sat N R B Q = (t env S).sat fun k S1 => if k = true then (a env S1).sat N R B Q else (b env S1).sat N R B Q := by
  unfold ifS; rw [sat_bindS]; congr; funext k S1; rw [ssat_if]
theorem w_augS {i : Nat} {go : D → D → Option D} : (augS i go f env S).sat N R B Q = match env[i]? with
    | some (some x) => (f env S).sat fun d S1 => match go (vw S1 x) (vw S1 d) with | some r => N (env.set i (some r)) S1 | none => False
    | _ => False := by
  unfold augS
  rcases env[i]? with _ | _ | x
  · rfl
  · rfl
  · show SRes.sat ((f env S).bindS env fun d S1 => match go (vw S1 x) (vw S1 d) with
      | some r => .nx (env.set i (some r)) S1
      | none => .bad) N R B Q = _
    rw [sat_bindS]; congr; funext d S1
    cases go (vw S1 x) (vw S1 d) <;> rfl
/-! a def's call -/
theorem w_run {n : Nat} {c : SF} {ds : List D} : (runB c n ds S).sat P = (c (ds.map some ++ List.replicate (n - ds.length) none) S).sat (fun _ S' => P .non S') P := by
  unfold runB; cases c (ds.map some ++ List.replicate (n - ds.length) none) S <;> rfl
theorem w_den {fs : List FnS} {k i : Nat} {ds : List D} {c : FnS} (e : fs[i]? = some c) : (den fs (k + 1) i ds S).sat P = (c.body (den fs k) (ds.map some ++ List.replicate (c.N.length - ds.length) none) S).sat (fun _ S' => P .non S') P := by
  have : den fs (k + 1) i = runB (c.body (den fs k)) c.N.length := by
    show (match fs[i]? with | some f => runB (f.body (den fs k)) f.N.length | none => fun _ _ => .bad) = _
    rw [e]
  rw [this, w_run]
end

/-! ### loops -/
/-- a walk over given values -/
def forV (g : GF) (b : SF) : List D → SF
  | [] => nextS
  | d :: ds => fun env S => match g d env S with
    | none => .bad
    | some (env1, S1) => match b env1 S1 with
      | .nx env2 S2 => forV g b ds env2 S2
      | .ct env2 S2 => forV g b ds env2 S2
      | .bk env2 S2 => .nx env2 S2
      | .rt d S2 => .rt d S2
      | .ex c d env2 S2 => .ex c d env2 S2
      | .bad => .bad
theorem forL_vals {g : GF} {b : SF} {xs : List D} : ∀ (ys : List D) (i : Nat), xs.drop i = ys → forL g b (valsI xs) ys.length i = forV g b ys
  | [], i, h => by
    funext env S
    have : xs[i]? = none := by rw [List.drop_eq_nil_iff] at h; exact List.getElem?_eq_none h
    show (match (valsI xs).items i S with | some none => SRes.nx env S | _ => .bad) = _
    unfold valsI
    simp only [this]
    rfl
  | y :: ys, i, h => by
    funext env S
    have hy : xs[i]? = some y := by
      have : (xs.drop i)[0]? = some y := by rw [h]; rfl
      simpa using this
    have hd : xs.drop (i + 1) = ys := by
      have : (xs.drop i).drop 1 = ys := by rw [h]; rfl
      rw [List.drop_drop] at this
      exact this
    have ih := forL_vals (g := g) (b := b) ys (i + 1) hd
    show (match (valsI xs).items i S with
      | some none => SRes.nx env S
      | none => .bad
      | some (some d) => match g d env S with
        | none => .bad
        | some (env1, S1) => match b env1 S1 with
          | .nx env2 S2 => forL g b (valsI xs) ys.length (i + 1) env2 S2
          | .ct env2 S2 => forL g b (valsI xs) ys.length (i + 1) env2 S2
          | .bk env2 S2 => .nx env2 S2
          | .rt d S2 => .rt d S2
          | .ex c d env2 S2 => .ex c d env2 S2
          | .bad => .bad) = _
    rw [ih]
    unfold valsI
    simp only [hy]
    rfl
theorem w_forS {it : IF} {g : GF} {b : SF} {env : SV} {S : Store} {N : SV → Store → Prop} {R : D → Store → Prop} {B Q : SV → Store → Prop} : (forS it g b env S).sat N R B Q = (it env S).sat fun I S1 => (forL g b I I.fuel 0 env S1).sat N R B Q := by
  unfold forS; rw [sat_bindS]
theorem forL_valsI {g : GF} {b : SF} {xs : List D} : forL g b (valsI xs) (valsI xs).fuel 0 = forV g b xs := forL_vals xs 0 rfl
theorem w_walk {PI : ItD → Store → Prop} {f : EF} {env : SV} {S : Store} : (walk f env S).sat PI = (f env S).sat fun d S1 => match d with
    | .tup xs => PI (valsI xs) S1
    | .lst xs => PI (valsI xs) S1
    | .scr xs => PI (valsI xs) S1
    | .str z => PI (valsI (z.cps.toList.map fun c => .str ⟨#[c]⟩)) S1
    | .ref n => match S1[n]? with
      | some (.lst xs) => PI (cellI n xs.length) S1
      | _ => False
    | _ => False := by
  unfold walk; rw [sat_bind]; congr; funext d S1
  cases d with
  | ref n =>
    simp only []
    cases S1[n]? with
    | none => rfl
    | some c => cases c <;> rfl
  | _ => rfl
theorem w_rng1 {PI : ItD → Store → Prop} {f : EF} {env : SV} {S : Store} : (rng1 f env S).sat PI = (f env S).sat fun d S1 => match d with
    | .int j => big j = true ∧ PI (rngI 0 j.toNat) S1
    | _ => False := by
  unfold rng1; rw [sat_bind]; congr; funext d S1
  cases d with
  | int j => show Res.sat (if big j = true then .ok (rngI 0 j.toNat) S1 else .bad) PI = _; rw [sat_if]; simp
  | _ => rfl
theorem w_rng2 {PI : ItD → Store → Prop} {f g : EF} {env : SV} {S : Store} : (rng2 f g env S).sat PI = (f env S).sat fun a S1 => (g env S1).sat fun b S2 => match a, b with
    | .int i, .int j => (big i && big j) = true ∧ PI (rngI i (j - i).toNat) S2
    | _, _ => False := by
  unfold rng2; rw [sat_bind]; congr; funext a S1; rw [sat_bind]; congr; funext b S2
  cases a with
  | int i =>
    cases b with
    | int j => show Res.sat (if (big i && big j) = true then .ok (rngI i (j - i).toNat) S2 else .bad) PI = _; rw [sat_if]; simp
    | _ => rfl
  | _ => rfl
theorem w_zipI {PI : ItD → Store → Prop} {f g : EF} {env : SV} {S : Store} : (zipI f g env S).sat PI = (f env S).sat fun a S1 => (g env S1).sat fun b S2 => match a, b with
    | .tup xs, .tup ys => PI (valsI (List.zipWith (fun x y => .tup [x, y]) xs ys)) S2
    | .lst xs, .lst ys => PI (valsI (List.zipWith (fun x y => .tup [x, y]) xs ys)) S2
    | .lst xs, .tup ys => PI (valsI (List.zipWith (fun x y => .tup [x, y]) xs ys)) S2
    | .tup xs, .lst ys => PI (valsI (List.zipWith (fun x y => .tup [x, y]) xs ys)) S2
    | _, _ => False := by
  unfold zipI; rw [sat_bind]; congr; funext a S1; rw [sat_bind]; congr; funext b S2
  cases a <;> cases b <;> rfl
theorem w_enumI {PI : ItD → Store → Prop} {f : EF} {env : SV} {S : Store} : (enumI f env S).sat PI = (f env S).sat fun a S1 => match a with
    | .lst xs => PI (valsI (xs.mapIdx fun i x => .tup [.int i, x])) S1
    | _ => False := by
  unfold enumI; rw [sat_bind]; congr; funext a S1
  cases a <;> rfl
/-- a walk by an invariant upon what was walked already -/
theorem forV_inv {g : GF} {b : SF} {xs : List D} {N : SV → Store → Prop} {R : D → Store → Prop} {B Q : SV → Store → Prop} (J : List D → SV → Store → Prop)
    (turn : ∀ pre d post env S, xs = pre ++ d :: post → J pre env S → match g d env S with
      | some (env1, S1) => (b env1 S1).sat (J (pre ++ [d])) R N (J (pre ++ [d]))
      | none => False)
    (last : ∀ env S, J xs env S → N env S) : ∀ (pre post : List D) (env : SV) (S : Store), xs = pre ++ post → J pre env S → (forV g b post env S).sat N R B Q
  | pre, [], env, S, e, h => by
    rw [List.append_nil] at e
    subst e
    exact last env S h
  | pre, d :: post, env, S, e, h => by
    have t := turn pre d post env S e h
    show (match g d env S with
      | none => SRes.bad
      | some (env1, S1) => match b env1 S1 with
        | .nx env2 S2 => forV g b post env2 S2
        | .ct env2 S2 => forV g b post env2 S2
        | .bk env2 S2 => .nx env2 S2
        | .rt d S2 => .rt d S2
        | .ex c d env2 S2 => .ex c d env2 S2
        | .bad => .bad).sat N R B Q
    cases hg : g d env S with
    | none => rw [hg] at t; exact False.elim t
    | some p =>
      obtain ⟨env1, S1⟩ := p
      rw [hg] at t
      simp only at t ⊢
      have e2 : xs = (pre ++ [d]) ++ post := by rw [e]; simp
      cases hb : b env1 S1 with
      | nx env2 S2 => rw [hb] at t; exact forV_inv J turn last (pre ++ [d]) post env2 S2 e2 t
      | ct env2 S2 => rw [hb] at t; exact forV_inv J turn last (pre ++ [d]) post env2 S2 e2 t
      | bk env2 S2 => rw [hb] at t; exact t
      | rt d S2 => rw [hb] at t; exact t
      | ex c d env2 S2 => rw [hb] at t; exact False.elim t
      | bad => rw [hb] at t; exact False.elim t
/-! ### list comprehensions over given values -/
def lcV (g : GF) (c : TF) (f : EF) (env : SV) : List D → List D → Store → Res (List D)
  | [], acc, S => .ok acc S
  | d :: ds, acc, S => match g d env S with
    | none => .bad
    | some (env1, S1) => match c env1 S1 with
      | .ok true S2 => match f env1 S2 with
        | .ok y S3 => if acc.length < sizeLine then lcV g c f env ds (acc ++ [y]) S3 else .bad
        | _ => .bad
      | .ok false S2 => lcV g c f env ds acc S2
      | _ => .bad
theorem lcL_vals {g : GF} {c : TF} {f : EF} {env : SV} {xs : List D} : ∀ (ys : List D) (i : Nat) (acc : List D) (S : Store), xs.drop i = ys → lcL g c f (valsI xs) env ys.length i acc S = lcV g c f env ys acc S
  | [], i, acc, S, h => by
    have : xs[i]? = none := by rw [List.drop_eq_nil_iff] at h; exact List.getElem?_eq_none h
    show (match (valsI xs).items i S with | some none => Res.ok acc S | _ => .bad) = _
    unfold valsI
    simp only [this]
    rfl
  | y :: ys, i, acc, S, h => by
    have hy : xs[i]? = some y := by
      have : (xs.drop i)[0]? = some y := by rw [h]; rfl
      simpa using this
    have hd : xs.drop (i + 1) = ys := by
      have : (xs.drop i).drop 1 = ys := by rw [h]; rfl
      rw [List.drop_drop] at this
      exact this
    have ih := fun acc S => lcL_vals (g := g) (c := c) (f := f) (env := env) ys (i + 1) acc S hd
    show (match (valsI xs).items i S with
      | some none => Res.ok acc S
      | none => .bad
      | some (some d) => match g d env S with
        | none => .bad
        | some (env1, S1) => match c env1 S1 with
          | .ok true S2 => match f env1 S2 with
            | .ok y S3 => if acc.length < sizeLine then lcL g c f (valsI xs) env ys.length (i + 1) (acc ++ [y]) S3 else .bad
            | _ => .bad
          | .ok false S2 => lcL g c f (valsI xs) env ys.length (i + 1) acc S2
          | _ => .bad) = _
    simp only [ih]
    unfold valsI
    simp only [hy]
    rfl
theorem lcL_valsI {g : GF} {c : TF} {f : EF} {env : SV} {xs acc : List D} {S : Store} : lcL g c f (valsI xs) env (valsI xs).fuel 0 acc S = lcV g c f env xs acc S := lcL_vals xs 0 acc S rfl
theorem w_lcE {x : AF} {env : SV} {S : Store} {P : D → Store → Prop} : (lcE x env S).sat P = (x env S).sat fun ds S1 => P (.lst ds) S1 := by unfold lcE; rw [sat_bind]; rfl
theorem w_lcM {x : AF} {env : SV} {S : Store} {P : D → Store → Prop} : (lcM x env S).sat P = (x env S).sat fun ds S1 => P (.ref S1.length) (S1 ++ [.lst ds]) := by unfold lcM; rw [sat_bind]; rfl
theorem w_lcA {it : IF} {vs : List Nat} {g : GF} {c : TF} {f : EF} {env : SV} {S : Store} {P : List D → Store → Prop} : (lcA it vs g c f env S).sat P = (it env S).sat fun I S1 => (lcL g c f I (wipeE env vs) I.fuel 0 [] S1).sat P := by
  unfold lcA; rw [sat_bind]
/-- each item by a plain function, nothing changed -/
theorem lcV_map {g : GF} {f : EF} {env : SV} (h : D → D) : ∀ (xs acc : List D) (S : Store), (∀ d ∈ xs, match g d env S with | some (e1, S1) => f e1 S1 = .ok (h d) S | none => False) → acc.length + xs.length ≤ sizeLine →
    lcV g yesT f env xs acc S = .ok (acc ++ xs.map h) S
  | [], acc, S, _, _ => by simp [lcV]
  | d :: ds, acc, S, hf, hl => by
    have h1 := hf d List.mem_cons_self
    show (match g d env S with
      | none => Res.bad
      | some (env1, S1) => match yesT env1 S1 with
        | .ok true S2 => match f env1 S2 with
          | .ok y S3 => if acc.length < sizeLine then lcV g yesT f env ds (acc ++ [y]) S3 else .bad
          | _ => .bad
        | .ok false S2 => lcV g yesT f env ds acc S2
        | _ => .bad) = _
    cases hg : g d env S with
    | none => rw [hg] at h1; exact False.elim h1
    | some p =>
      obtain ⟨e1, S1⟩ := p
      rw [hg] at h1
      simp only at h1 ⊢
      show (match f e1 S1 with
          | .ok y S3 => if acc.length < sizeLine then lcV g yesT f env ds (acc ++ [y]) S3 else .bad
          | _ => .bad) = _
      rw [h1]
      simp only []
      rw [if_pos (by simp at hl; omega), lcV_map h ds (acc ++ [h d]) S (fun x hx => hf x (List.mem_cons_of_mem _ hx)) (by simp at hl ⊢; omega)]
      simp
/-- by an invariant -/
theorem lcV_inv {g : GF} {c : TF} {f : EF} {env : SV} {xs : List D} {P : List D → Store → Prop} (J : List D → List D → Store → Prop)
    (turn : ∀ pre d post acc S, xs = pre ++ d :: post → J pre acc S → match g d env S with
      | some (e1, S1) => (c e1 S1).sat fun b S2 => if b = true then (f e1 S2).sat fun y S3 => acc.length < sizeLine ∧ J (pre ++ [d]) (acc ++ [y]) S3 else J (pre ++ [d]) acc S2
      | none => False)
    (last : ∀ acc S, J xs acc S → P acc S) : ∀ (pre post acc : List D) (S : Store), xs = pre ++ post → J pre acc S → (lcV g c f env post acc S).sat P
  | pre, [], acc, S, e, h => by
    rw [List.append_nil] at e
    subst e
    exact last acc S h
  | pre, d :: post, acc, S, e, h => by
    have t := turn pre d post acc S e h
    have e2 : xs = (pre ++ [d]) ++ post := by rw [e]; simp
    show (match g d env S with
      | none => Res.bad
      | some (env1, S1) => match c env1 S1 with
        | .ok true S2 => match f env1 S2 with
          | .ok y S3 => if acc.length < sizeLine then lcV g c f env post (acc ++ [y]) S3 else .bad
          | _ => .bad
        | .ok false S2 => lcV g c f env post acc S2
        | _ => .bad).sat P
    cases hg : g d env S with
    | none => rw [hg] at t; exact False.elim t
    | some p =>
      obtain ⟨e1, S1⟩ := p
      rw [hg] at t
      simp only at t ⊢
      cases hc : c e1 S1 with
      | ok b S2 =>
        rw [hc] at t
        cases b with
        | true =>
          simp only [sat_ok, if_true] at t
          simp only []
          cases hf : f e1 S2 with
          | ok y S3 =>
            rw [hf] at t
            simp only [sat_ok] at t
            simp only []
            rw [if_pos t.1]
            exact lcV_inv J turn last (pre ++ [d]) post (acc ++ [y]) S3 e2 t.2
          | _ => rw [hf] at t; exact False.elim t
        | false =>
          simp only [sat_ok, Bool.false_eq_true, if_false] at t
          exact lcV_inv J turn last (pre ++ [d]) post acc S2 e2 t
      | _ => rw [hc] at t; exact False.elim t
/-! views of what is no reference; truth -/
section
variable {S : Store}
theorem v_non : vw S .non = .non := rfl
theorem v_bl {b : Bool} : vw S (.bl b) = .bl b := rfl
theorem v_int {i : Int} : vw S (.int i) = .int i := rfl
theorem v_str {x : Str} : vw S (.str x) = .str x := rfl
theorem v_tup {xs : List D} : vw S (.tup xs) = .tup xs := rfl
theorem v_lst {xs : List D} : vw S (.lst xs) = .lst xs := rfl
theorem v_scr {xs : List D} : vw S (.scr xs) = .scr xs := rfl
theorem v_dic {ks : List Key} {xs : List D} : vw S (.dic ks xs) = .dic ks xs := rfl
theorem v_ref {n : Nat} {xs : List D} (h : S[n]? = some (.lst xs)) : vw S (.ref n) = .lst xs := by simp only [vw, h]
theorem t_non : truD .non = some false := rfl
theorem t_bl {b : Bool} : truD (.bl b) = some b := rfl
theorem t_int {i : Int} : truD (.int i) = some (i != 0) := rfl
theorem t_tup {xs : List D} : truD (.tup xs) = some (!xs.isEmpty) := rfl
theorem t_lst {xs : List D} : truD (.lst xs) = some (!xs.isEmpty) := rfl
theorem cell_of {n : Nat} {xs : List D} (h : S[n]? = some (.lst xs)) : cellL S (.ref n) = some (n, xs) := by simp only [cellL, h]
theorem c_lt {i j : Int} : ltD (.int i) (.int j) = some (.bl (decide (i < j))) := rfl
theorem c_le {i j : Int} : leD (.int i) (.int j) = some (.bl (decide (i ≤ j))) := rfl
theorem c_gt {i j : Int} : gtD (.int i) (.int j) = some (.bl (decide (j < i))) := rfl
theorem c_ge {i j : Int} : geD (.int i) (.int j) = some (.bl (decide (j ≤ i))) := rfl
theorem c_add {i j : Int} : addD (.int i) (.int j) = some (.int (i + j)) := rfl
theorem c_sub {i j : Int} : subD (.int i) (.int j) = some (.int (i - j)) := rfl
theorem c_neg {i : Int} : negD (.int i) = some (.int (-i)) := rfl
theorem deq_int {i j : Int} : deq (.int i) (.int j) = decide (i = j) := by
  unfold deq py
  rw [Bool.eq_iff_iff]
  simp [PyData.eqv]
theorem c_eqI {i j : Int} : eqDD (.int i) (.int j) = some (.bl (decide (i = j))) := by
  show (if (lay 40 (.int i) && lay 40 (.int j)) = true then some (D.bl (deq (.int i) (.int j))) else none) = _
  have : (lay 40 (.int i) && lay 40 (.int j)) = true := rfl
  rw [if_pos this, deq_int]
theorem c_eqE {xs : List D} : eqDD (.tup xs) (.tup []) = some (.bl xs.isEmpty) := rfl
theorem c_isiT {xs : List D} : isiD .tup (.tup xs) = some (.bl true) := rfl
theorem small_of {i : Int} (h1 : -(2 ^ 64) < i) (h2 : i < 2 ^ 64) : small64 i = true := by unfold small64; rw [Bool.and_eq_true, decide_eq_true_eq, decide_eq_true_eq]; exact ⟨h1, h2⟩
theorem c_mulL {i j : Int} (h : small64 i = true) : mulDD (.int i) (.int j) = some (.int (i * j)) := by
  show (if (small64 i || small64 j) = true then some (D.int (i * j)) else none) = _
  rw [h]; rfl
theorem c_mulR {i j : Int} (h : small64 j = true) : mulDD (.int i) (.int j) = some (.int (i * j)) := by
  show (if (small64 i || small64 j) = true then some (D.int (i * j)) else none) = _
  rw [h, Bool.or_true]; rfl
theorem c_div {i j : Int} (h1 : 0 < j) (h2 : j < 1073741824) : fdivD (.int i) (.int j) = some (.int (i / j)) := by
  show (if 0 < j ∧ j < 1073741824 then some (D.int (i / j)) else none) = _
  rw [if_pos ⟨h1, h2⟩]
theorem c_mod {i j : Int} (h1 : 0 < j) : modD (.int i) (.int j) = some (.int (i % j)) := by
  show (if 0 < j then some (D.int (i % j)) else none) = _
  rw [if_pos h1]
end
/-! items, slices -/
theorem at_int {α : Type} {xs : List α} {i : Int} {x : α} (h0 : 0 ≤ i) (h : xs[i.toNat]? = some x) : L2.atI xs i = some x := by
  have hl := (List.getElem?_eq_some_iff.mp h).1
  unfold L2.atI L2.ixN
  rw [if_pos h0, if_pos (by omega)]
  exact h
theorem at_last {α : Type} {xs : List α} {x : α} (h : xs.getLast? = some x) : L2.atI xs (-1) = some x := by
  have hl : xs ≠ [] := by rintro rfl; cases h
  have hp : 0 < xs.length := List.length_pos_iff.mpr hl
  unfold L2.atI L2.ixN
  rw [if_neg (by decide), if_pos (by omega)]
  rw [List.getLast?_eq_getElem?] at h
  show xs[(-1 + (xs.length : Int)).toNat]? = some x
  rw [← h]
  congr 1
  omega
theorem ix_tup {xs : List D} {i : Int} {x : D} (h : L2.atI xs i = some x) : ixD (.tup xs) (.int i) = some x := h
theorem ix_lst {xs : List D} {i : Int} {x : D} (h : L2.atI xs i = some x) : ixD (.lst xs) (.int i) = some x := h
theorem ix_scr {xs : List D} {i : Int} {x : D} (h : L2.atI xs i = some x) : ixD (.scr xs) (.int i) = some x := h
theorem ix_head {x : D} {xs : List D} : ixD (.tup (x :: xs)) (.int 0) = some x := ix_tup (at_int (by decide) rfl)
theorem sl_to {xs : List D} {i : Int} (h0 : 0 ≤ i) : sliceD none (some i) (.tup xs) = some (.tup (xs.take i.toNat)) := by
  show some (D.tup (cutL xs none (some i))) = _
  unfold cutL HT.sIx
  simp only []
  rw [if_neg (by omega)]
  simp only [List.drop_zero, Nat.sub_zero, Option.some.injEq, D.tup.injEq]
  by_cases h : i.toNat ≤ xs.length
  · rw [Nat.min_eq_left h]
  · rw [Nat.min_eq_right (by omega), List.take_length, List.take_of_length_le (by omega)]
theorem sl_from {xs : List D} {i : Int} (h0 : 0 ≤ i) : sliceD (some i) none (.tup xs) = some (.tup (xs.drop i.toNat)) := by
  show some (D.tup (cutL xs (some i) none)) = _
  unfold cutL HT.sIx
  simp only []
  rw [if_neg (by omega)]
  simp only [Option.some.injEq, D.tup.injEq]
  by_cases h : i.toNat ≤ xs.length
  · rw [Nat.min_eq_left h, List.take_of_length_le (by simp)]
  · rw [Nat.min_eq_right (by omega), List.drop_length, List.drop_of_length_le (by omega)]; simp
theorem sl_scr_to {xs : List D} {i : Int} (h0 : 0 ≤ i) : sliceD none (some i) (.scr xs) = some (.lst (xs.take i.toNat)) := by
  have := sl_to (xs := xs) h0
  simp only [sliceD, Option.some.injEq, D.tup.injEq] at this ⊢
  rw [this]
end Lt
set_option maxRecDepth 100000
set_option maxHeartbeats 4000000
/-! What the laws k00 to k16 share: the draws, the words, the rows, the law's own frame. -/
namespace Lt
open PySem PySem.Spec PyProof.Rows L2
local macro_rules | `(tactic| get_elem_tactic_extensible) => `(tactic| simp only [w_var, w_cst, w_pU, w_pB, w_nilA, w_consA, w_pN, w_tupE, w_lstE, w_lstM, w_tst, w_notT, w_andT, w_orT, w_ifE, w_andE, w_orE, w_notE, w_callP, w_callE, w_appA, w_chE, w_prs_nil, w_prs_cons, w_dicE, w_get2E, w_kixE, w_noP, w_soP, w_sliceE, w_nextS, w_badS, w_seqS, w_setS, w_asgS, w_par2, w_par3, w_dropS, w_retS, w_retN, w_brkS, w_cntS, w_ifS, w_forS, w_walk, w_rng1, w_rng2, w_zipI, w_lcE, w_lcA, forL_valsI, lcL_valsI, sat_ok, sat_bad, sat_exc, List.getElem?_cons_zero, List.getElem?_cons_succ, List.set_cons_zero, List.set_cons_succ, List.map_cons, List.map_nil, v_non, v_bl, v_int, v_str, v_tup, v_lst, v_scr, v_dic, t_non, t_bl, t_int, t_tup, t_lst, c_lt, c_le, c_gt, c_ge, c_add, c_sub, c_neg, c_eqI, c_eqE, c_isiT, Option.map_some, if_true, if_false, Bool.not_true, Bool.not_false, Bool.false_eq_true, wipeE, reduceIte])
theorem eq_of_sat {α : Type} {r : Res α} {v : α} {S : Store} (h : r.sat fun a S' => a = v ∧ S' = S) : r = .ok v S := by
  obtain ⟨a, S', e, rfl, rfl⟩ := h.ex
  exact e
def nice : D → Bool
  | .ref _ => false
  | .obj _ _ => false
  | .str x => PyData.strOk x
  | _ => true
theorem vw_nice {S : Store} {d : D} (h : nice d = true) : vw S d = d := by
  cases d <;> first | rfl | cases h
/-! words -/
inductive Wo where | b | g | l | e
deriving DecidableEq
def wd : Wo → D
  | .b => .str "blank" | .g => .str "good" | .l => .str "lost" | .e => .str "ended"
def aft : Wo → List Wo
  | .b => [.b, .g, .e] | .g => [.g, .l, .e] | .l => [.g, .l, .e] | .e => [.e]
def stp (a c : Wo) : Bool := (aft a).contains c
def wOf : D → Option Wo
  | .str x => if x == "blank" then some .b else if x == "good" then some .g else if x == "lost" then some .l else if x == "ended" then some .e else none
  | _ => none
theorem wOf_wd (w : Wo) : wOf (wd w) = some w := by cases w <;> decide +kernel
theorem wOf_some {d : D} {w : Wo} (h : wOf d = some w) : d = wd w := by
  unfold wOf at h
  split at h
  · rename_i x
    split at h
    · rename_i e; rw [beq_iff_eq] at e; cases h; subst e; rfl
    · split at h
      · rename_i e; rw [beq_iff_eq] at e; cases h; subst e; rfl
      · split at h
        · rename_i e; rw [beq_iff_eq] at e; cases h; subst e; rfl
        · split at h
          · rename_i e; rw [beq_iff_eq] at e; cases h; subst e; rfl
          · cases h
  · cases h
abbrev fourD : D := .tup [.str "blank", .str "good", .str "lost", .str "ended"]
def okW (d : D) : Bool := (wOf d).isSome
theorem deq_str (x y : Str) : deq (.str x) (.str y) = (x == y) := by unfold deq py; simp [PyData.eqv]
theorem ok_words : PyData.strOk "blank" = true ∧ PyData.strOk "good" = true ∧ PyData.strOk "lost" = true ∧ PyData.strOk "ended" = true := by decide +kernel
theorem in_words {x : Str} (h : PyData.strOk x = true) : inD (.str x) fourD = some (.bl (okW (.str x))) := by
  show (if (lay 40 (.str x) && [D.str "blank", .str "good", .str "lost", .str "ended"].all (lay 39)) = true then some (D.bl ([D.str "blank", .str "good", .str "lost", .str "ended"].any fun y => deq y (.str x))) else none) = _
  obtain ⟨h1, h2, h3, h4⟩ := ok_words
  have hl : (lay 40 (.str x) && [D.str "blank", .str "good", .str "lost", .str "ended"].all (lay 39)) = true := by simp [lay, h, h1, h2, h3, h4]
  rw [if_pos hl]
  congr 2
  simp only [List.any_cons, List.any_nil, deq_str, Bool.or_false]
  unfold okW wOf
  have c : ∀ a : Str, (a == x) = (x == a) := fun a => by rw [Bool.beq_comm]
  rw [c, c, c, c]
  simp only []
  generalize (x == ("blank" : Str)) = p1
  generalize (x == ("good" : Str)) = p2
  generalize (x == ("lost" : Str)) = p3
  generalize (x == ("ended" : Str)) = p4
  cases p1 <;> cases p2 <;> cases p3 <;> cases p4 <;> rfl
def TextOk (φ : Fn) : Prop := ∀ {d : D} (S : Store), nice d = true → φ [d] S = .ok (.bl (match d with | .str _ => true | _ => false)) S
def WordOk (φ : Fn) : Prop := ∀ {d : D} (S : Store), nice d = true → φ [d] S = .ok (.bl (okW d)) S
abbrev bText : SF :=
  retS (pU (isiD .str) (var 0))
abbrev bWord (φ : Fn) : SF :=
  retS (andE (callP φ (consA (var 0) nilA)) (pB inD (var 0) (cst fourD)))
theorem text_ok : TextOk (runB bText 1) := by
  intro d S h
  apply eq_of_sat
  rw [w_run]
  show (bText [some d] S).sat _ _
  rw [w_retS, w_pU, w_var]
  simp only [List.getElem?_cons_zero, vw_nice h]
  cases d <;> first | (cases h; done) | simp [isiD, tyOf, isTy]
theorem word_ok {φ : Fn} (hφ : TextOk φ) : WordOk (runB (bWord φ) 1) := by
  intro d S h
  apply eq_of_sat
  rw [w_run]
  show (bWord φ [some d] S).sat _ _
  rw [w_retS, w_andE, w_callP, w_consA, w_var]
  simp only [List.getElem?_cons_zero, w_nilA]
  rw [hφ S h]
  rw [sat_ok]
  cases d with
  | str x =>
    show (pB inD (var 0) (cst fourD) [some (.str x)] S).sat _
    rw [w_pB, w_var]
    simp only [List.getElem?_cons_zero, w_cst]
    show match inD (.str x) fourD with | some r => _ | none => _
    rw [in_words (by exact h)]
    simp
  | ref n => cases h
  | obj c vs => cases h
  | _ => simp [truD, vw, okW, wOf]
def wsOf : List D → Option (List Wo)
  | [] => some []
  | d :: ds => (wOf d).bind fun w => (wsOf ds).map (w :: ·)
def adj : List Wo → Bool
  | a :: c :: r => stp a c && adj (c :: r)
  | _ => true
def rowW : List Wo → Bool
  | [] => false
  | w :: r => decide (w = .b) && adj (w :: r)
def rowX (xs : List D) : Bool := match wsOf xs with
  | some ws => rowW ws
  | none => false
theorem wsOf_map (ws : List Wo) : wsOf (ws.map wd) = some ws := by
  induction ws with
  | nil => rfl
  | cons w ws ih => simp [wsOf, wOf_wd, ih]
theorem wsOf_all {xs : List D} (h : xs.all okW = true) : ∃ ws : List Wo, xs = ws.map wd := by
  induction xs with
  | nil => exact ⟨[], rfl⟩
  | cons x xs ih =>
    rw [List.all_cons, Bool.and_eq_true] at h
    obtain ⟨ws, rfl⟩ := ih h.2
    obtain ⟨w, hw⟩ := Option.isSome_iff_exists.mp h.1
    exact ⟨w :: ws, by rw [wOf_some hw]; rfl⟩
theorem wsOf_not {xs : List D} (h : xs.all okW = false) : wsOf xs = none := by
  induction xs with
  | nil => cases h
  | cons x xs ih =>
    rw [List.all_cons, Bool.and_eq_false_iff] at h
    unfold wsOf
    rcases h with h | h
    · have : wOf x = none := by unfold okW at h; simpa using h
      rw [this]; rfl
    · rw [ih h]; cases wOf x <;> rfl
theorem bools_map {α : Type} (f : α → Bool) (xs : List α) : bools (xs.map fun d => .bl (f d)) = some (xs.map f) := by
  induction xs with
  | nil => rfl
  | cons x xs ih => simp [bools, ih]
theorem all_map {α : Type} (f : α → Bool) (xs : List α) : allD [.lst (xs.map fun d => .bl (f d))] = some (.bl (xs.all f)) := by
  unfold allD
  simp only [bools_map]
  simp [List.all_map]
theorem nice_wd (w : Wo) : nice (wd w) = true := by cases w <;> decide +kernel
theorem lay_wd (w : Wo) : lay 40 (wd w) = true := by cases w <;> decide +kernel
theorem deq_wd (a c : Wo) : deq (wd a) (wd c) = decide (a = c) := by cases a <;> cases c <;> decide +kernel
theorem eq_wd (a c : Wo) : eqDD (wd a) (wd c) = some (.bl (decide (a = c))) := by
  have : eqDD (wd a) (wd c) = eqD (wd a) (wd c) := by cases a <;> rfl
  rw [this]
  unfold eqD
  rw [lay_wd, lay_wd, deq_wd]; rfl
/-- all steps, as pairs are walked -/
theorem adj_zip : ∀ ws : List Wo, ((List.zipWith (fun x y => (x, y)) ws (ws.drop 1)).all fun p => stp p.1 p.2) = adj ws
  | [] => rfl
  | [_] => rfl
  | a :: c :: r => by
    have := adj_zip (c :: r)
    simp only [List.drop_succ_cons, List.drop_zero] at this ⊢
    rw [List.zipWith_cons_cons, List.all_cons, this]
    rfl
def StepsOk (φ : Fn) : Prop := ∀ (a c : Wo) (S : Store), φ [wd a, wd c] S = .ok (.bl (stp a c)) S
def GoesOk (φ : Fn) : Prop := ∀ {xs : List D} (S : Store), (∀ x ∈ xs, nice x = true) → xs.length ≤ 1000 → φ [.tup xs] S = .ok (.bl (rowX xs)) S
def AfterOk (φ : Fn) : Prop := ∀ (w : Wo) (S : Store), φ [wd w] S = .ok (.tup ((aft w).map wd)) S
abbrev tBehind : List (Str × D) := [("blank", (.tup [(.str "blank"), (.str "good"), (.str "ended")])), ("good", (.tup [(.str "good"), (.str "lost"), (.str "ended")])), ("lost", (.tup [(.str "good"), (.str "lost"), (.str "ended")])), ("ended", (.tup [(.str "ended")]))]
abbrev bSteps : SF :=
  retS (pB inD (var 1) (kixE tBehind (var 0)))
theorem steps_ok : StepsOk (runB bSteps 2) := fun a c S => by
  cases a <;> cases c <;> kernel_rfl
abbrev bAfter : SF :=
  seqS (setS 1 (dicE [(cst (.str "blank"), tupE (consA (cst (.str "blank")) (consA (cst (.str "good")) (consA (cst (.str "ended")) nilA)))), (cst (.str "good"), tupE (consA (cst (.str "good")) (consA (cst (.str "lost")) (consA (cst (.str "ended")) nilA)))), (cst (.str "lost"), tupE (consA (cst (.str "good")) (consA (cst (.str "lost")) (consA (cst (.str "ended")) nilA))))])) (retS (get2E (var 1) (var 0) (tupE (consA (cst (.str "ended")) nilA))))
theorem after_ok : AfterOk (runB bAfter 2) := fun w S => by
  cases w <;> kernel_rfl
abbrev bGoes (φ ψ : Fn) : SF :=
  seqS (ifS (orT (notT (tst (pU (isiD .tup) (var 0)))) (orT (tst (pB eqDD (var 0) (tupE nilA))) (notT (tst (pN allD (consA (lcE (lcA (walk (var 0)) [1] (gNm 1) yesT (callP φ (consA (var 1) nilA)))) nilA)))))) (retS (cst (.bl false))) nextS) (retS (andE (pB eqDD (pB ixD (var 0) (cst (.int 0))) (cst (.str "blank"))) (pN allD (consA (lcE (lcA (zipI (var 0) (sliceE (var 0) (soP (cst (.int 1))) noP)) [2, 3] (gTp 2 (gCs (gNm 2) (gCs (gNm 3) gNl))) yesT (callP ψ (consA (var 2) (consA (var 3) nilA))))) nilA))))
def hst : D → D
  | .tup [a, c] => match wOf a, wOf c with
    | some a, some c => .bl (stp a c)
    | _, _ => .non
  | _ => .non
theorem goes_ok {φ ψ : Fn} (hφ : WordOk φ) (hψ : StepsOk ψ) : GoesOk (runB (bGoes φ ψ) 4) := by
  intro xs S hx hl
  have hsz : sizeLine = 16777216 := sizeLine_eq
  apply eq_of_sat
  rw [w_run]
  show (bGoes φ ψ [some (.tup xs), none, none, none] S).sat _ _
  get_elem_tactic_extensible
  refine ⟨Nat.zero_le _, ?_⟩
  cases xs with
  | nil => rw [if_pos (show ([] : List D).isEmpty = true from rfl)]; exact ⟨rfl, trivial⟩
  | cons x0 xr =>
    rw [if_neg (by simp)]
    rw [lcV_map (fun d => .bl (okW d)) _ [] S (fun d hd => hφ S (hx d hd)) (by simp only [List.length_nil]; omega)]
    rw [sat_ok, List.nil_append, all_map]
    simp only [v_bl, t_bl]
    cases hw : (x0 :: xr).all okW with
    | false =>
      simp only [Bool.not_false, if_true, rowX, wsOf_not hw]
      exact ⟨trivial, trivial⟩
    | true =>
      obtain ⟨ws, hws⟩ := wsOf_all hw
      rw [hws]
      cases ws with
      | nil => cases hws
      | cons w wr =>
        simp only [List.map_cons, Bool.not_true, Bool.false_eq_true, if_false, ix_head]
        rw [vw_nice (nice_wd w), show D.str "blank" = wd .b from rfl, eq_wd]
        simp only [v_bl, t_bl, rowX]
        rw [← List.map_cons, wsOf_map]
        by_cases hb : w = .b
        · rw [decide_eq_true hb]
          simp only []
          rw [sl_from (by decide)]
          simp only []
          have hz : List.zipWith (fun x y => D.tup [x, y]) ((w :: wr).map wd) (((w :: wr).map wd).drop (1 : Int).toNat) = (List.zipWith (fun x y => (x, y)) (w :: wr) ((w :: wr).drop 1)).map fun p => D.tup [wd p.1, wd p.2] := by
            show List.zipWith (fun x y => D.tup [x, y]) ((w :: wr).map wd) (((w :: wr).map wd).drop 1) = _
            rw [← List.map_drop, List.zipWith_map, List.map_zipWith]
          rw [hz]
          generalize hzs : List.zipWith (fun x y => (x, y)) (w :: wr) ((w :: wr).drop 1) = zs
          have hzl : zs.length ≤ 1000 := by
            have e : (x0 :: xr).length = (w :: wr).length := by rw [hws]; simp
            rw [← hzs, List.length_zipWith]
            omega
          rw [lcV_map hst _ [] S (fun d hd => ?_) (by rw [List.length_map, List.length_nil]; omega)]
          · rw [sat_ok, List.nil_append, List.map_map]
            have e : zs.map (hst ∘ fun p => D.tup [wd p.1, wd p.2]) = zs.map fun p => .bl (stp p.1 p.2) := by
              apply List.map_congr_left
              intro p _
              simp [hst, wOf_wd]
            rw [e, all_map]
            simp only []
            rw [← hzs, adj_zip]
            simp only [rowW, decide_eq_true hb, Bool.true_and]
            exact ⟨trivial, trivial⟩
          · obtain ⟨p, _, rfl⟩ := List.mem_map.mp hd
            show ψ [wd p.1, wd p.2] S = _
            rw [hψ]
            simp [hst, wOf_wd]
        · rw [decide_eq_false hb]
          simp only [rowW, decide_eq_false hb, Bool.false_and]
          exact ⟨trivial, trivial⟩
/-- a value that may be asked -/
def good (d : D) : Prop := nice d = true ∧ ∀ xs, d = .tup xs → xs.length ≤ 1000 ∧ ∀ x ∈ xs, nice x = true
def isRow : D → Bool
  | .tup xs => decide (xs.length ≤ 61) && rowX xs
  | _ => false
def RowOfOk (φ : Fn) : Prop := ∀ {d : D} (S : Store), good d → φ [d] S = .ok (.bl (isRow d)) S
abbrev bRowOf (φ : Fn) : SF :=
  retS (andE (pU (isiD .tup) (var 0)) (andE (pB leD (pN lenD (consA (var 0) nilA)) (cst (.int 61))) (callP φ (consA (var 0) nilA))))
theorem rowof_ok {φ : Fn} (hφ : GoesOk φ) : RowOfOk (runB (bRowOf φ) 1) := by
  intro d S h
  apply eq_of_sat
  rw [w_run]
  show (bRowOf φ [some d] S).sat _ _
  by_cases ht : ∃ xs, d = .tup xs
  · obtain ⟨xs, rfl⟩ := ht
    obtain ⟨h1, h2⟩ := h.2 xs rfl
    get_elem_tactic_extensible
    rw [hφ S h2 h1]
    simp only [sat_ok, lenD, v_int, c_le, v_bl, t_bl, isRow]
    by_cases hl : (xs.length : Int) ≤ 61
    · have hl2 : xs.length ≤ 61 := by omega
      simp [hl, hl2]
    · have hl2 : ¬ xs.length ≤ 61 := by omega
      simp [hl, hl2]
  · get_elem_tactic_extensible
    rw [vw_nice h.1]
    cases d with
    | tup xs => exact absurd ⟨xs, rfl⟩ ht
    | ref n => exact absurd h.1 (by simp [nice])
    | obj c vs => exact absurd h.1 (by simp [nice])
    | _ => simp [isiD, tyOf, isTy, v_bl, t_bl, isRow]
/-! ### the draws -/
def Dr (S : Store) (n : Nat) : Prop := ∃ f s t : Int, S[n]? = some (.lst [.int f, .int s, .int t]) ∧ 0 ≤ s ∧ s < 2147483549
theorem set_get {S : Store} {n : Nat} {c c2 : Cell} (h : S[n]? = some c) : (S.set n c2)[n]? = some c2 := List.getElem?_set_self (List.getElem?_eq_some_iff.mp h).1
theorem gsb {S : Store} {n : Nat} {xs : List D} {env : SV} {d : D} {i : Int} (j : Nat) (h : S[n]? = some (.lst xs)) (hx : L2.ixN xs.length i = some j) (e0 : env[0]? = some (some (.ref n))) : gSb (var 0) (cst (.int i)) d env S = some (env, S.set n (.lst (xs.set j d))) := by
  simp only [gSb, var, cst, e0, setItemD, h, hx, Option.map_some]
theorem small_nn {i : Int} (h1 : 0 ≤ i) (h2 : i < 2147483549) : small64 i = true := small_of (by omega) (by omega)
theorem c_intI {i : Int} : intD [.int i] = some (.int i) := rfl
theorem unp3 {S : Store} {n : Nat} {a b c : D} {env : SV} (h : S[n]? = some (.lst [a, b, c])) : gTp 3 (gCs (gNm 2) (gCs (gNm 3) (gCs (gNm 4) gNl))) (.ref n) env S = some (((env.set 2 (some a)).set 3 (some b)).set 4 (some c), S) := by
  simp only [gTp, v_ref h, itemsOf]
  rfl
/-- what a draw leaves of the store -/
def Kp (S S' : Store) (n : Nat) : Prop := (∀ j, j ≠ n → S'[j]? = S[j]?) ∧ S'.length = S.length
def TakeOk (φ : Fn) : Prop := ∀ {S : Store} {n : Nat} {m : Int}, Dr S n → 0 < m → m < 1073741824 → (φ [.ref n, .int m] S).sat fun d S' => (∃ r : Int, d = .int r ∧ 0 ≤ r ∧ r < m) ∧ Dr S' n ∧ Kp S S' n
def PickOk (φ : Fn) : Prop := ∀ {S : Store} {n : Nat} {xs : List D}, Dr S n → xs ≠ [] → xs.length < 1000 → (φ [.ref n, .tup xs] S).sat fun d S' => d ∈ xs ∧ Dr S' n ∧ Kp S S' n
abbrev bTake : SF :=
  seqS (asgS (var 0) (gTp 3 (gCs (gNm 2) (gCs (gNm 3) (gCs (gNm 4) gNl))))) (seqS (asgS (pB modD (pN intD (consA (pB addD (pB addD (pB mulDD (var 3) (pB addD (cst (.int 50027)) (pB mulDD (cst (.int 6)) (var 4)))) (pB mulDD (cst (.int 12347)) (var 4))) (cst (.int 12358))) nilA)) (cst (.int 2147483549))) (gSb (var 0) (cst (.int 1)))) (seqS (asgS (pB addD (var 4) (cst (.int 1))) (gSb (var 0) (cst (.int 2)))) (seqS (ifS (tst (pB gtD (var 2) (cst (.int 0)))) (seqS (asgS (pB fdivD (pN intD (consA (var 2) nilA)) (var 1)) (gSb (var 0) (cst (.int 0)))) (retS (pB modD (pN intD (consA (var 2) nilA)) (var 1)))) nextS) (retS (pB modD (pN intD (consA (pB fdivD (pB ixD (var 0) (cst (.int 1))) (cst (.int 128))) nilA)) (var 1))))))
theorem take_ok : TakeOk (runB bTake 5) := by
  intro S n m h h0 h1
  obtain ⟨f, s, t, hS, hs0, hs1⟩ := h
  rw [w_run]
  show (bTake [some (.ref n), some (.int m), none, none, none] S).sat _ _
  have e1 : ∀ i j : Int, small64 i = true → mulDD (.int i) (.int j) = some (.int (i * j)) := fun i j h => c_mulL h
  simp only [w_seqS, w_asgS, w_var, List.getElem?_cons_zero]
  rw [unp3 hS]
  simp only [List.set_cons_zero, List.set_cons_succ]
  get_elem_tactic_extensible
  rw [c_mulL (show small64 6 = true by decide)]
  simp only [c_add, v_int]
  rw [c_mulL (small_nn hs0 hs1)]
  simp only [c_add, v_int]
  rw [c_mulL (show small64 12347 = true by decide)]
  simp only [c_add, v_int, c_intI]
  rw [c_mod (by decide)]
  simp only []
  generalize hq : (s * (50027 + 6 * t) + 12347 * t + 12358) % 2147483549 = s'
  have hs0' : 0 ≤ s' := by rw [← hq]; exact Int.emod_nonneg _ (by decide)
  have hs1' : s' < 2147483549 := by rw [← hq]; exact Int.emod_lt_of_pos _ (by decide)
  rw [gsb 1 hS rfl rfl]
  simp only [List.set_cons_zero, List.set_cons_succ]
  have g1 := set_get (c2 := .lst [.int f, .int s', .int t]) hS
  get_elem_tactic_extensible
  rw [gsb 2 g1 rfl rfl]
  simp only [List.set_cons_zero, List.set_cons_succ, List.set_set]
  have g2 := set_get (c2 := .lst [.int f, .int s', .int (t + 1)]) hS
  get_elem_tactic_extensible
  have fin : ∀ c : Cell, (∀ j, j ≠ n → (S.set n c)[j]? = S[j]?) ∧ (S.set n c).length = S.length := fun c => ⟨fun j hj => List.getElem?_set_ne (Ne.symm hj), List.length_set⟩
  have md : ∀ z : Int, 0 ≤ z % m ∧ z % m < m := fun z => ⟨Int.emod_nonneg _ (by omega), Int.emod_lt_of_pos _ h0⟩
  by_cases hf : 0 < f
  · rw [decide_eq_true hf]
    simp only [if_true, c_intI, v_int]
    rw [c_div h0 h1]
    simp only []
    rw [gsb 0 g2 rfl rfl]
    simp only [List.set_cons_zero, List.set_set]
    get_elem_tactic_extensible
    rw [c_intI]
    simp only [v_int]
    rw [c_mod h0]
    exact ⟨⟨_, rfl, md _⟩, ⟨_, s', t + 1, set_get hS, hs0', hs1'⟩, fin _⟩
  · rw [decide_eq_false hf]
    simp only [Bool.false_eq_true, if_false, v_ref g2]
    rw [ix_lst (x := .int s') (at_int (by decide) rfl)]
    simp only [v_int]
    rw [c_div (by decide) (by decide)]
    simp only [v_int, c_intI]
    rw [c_mod h0]
    exact ⟨⟨_, rfl, md _⟩, ⟨f, s', t + 1, g2, hs0', hs1'⟩, fin _⟩
abbrev bPick (φ : Fn) : SF :=
  retS (pB ixD (var 1) (callP φ (consA (var 0) (consA (pN lenD (consA (var 1) nilA)) nilA))))
theorem pick_ok {φ : Fn} (hφ : TakeOk φ) : PickOk (runB (bPick φ) 2) := by
  intro S n xs h h0 h1
  rw [w_run]
  show (bPick φ [some (.ref n), some (.tup xs)] S).sat _ _
  get_elem_tactic_extensible
  simp only [lenD]
  have hp : 0 < xs.length := List.length_pos_iff.mpr h0
  refine (hφ (m := (xs.length : Int)) h (by omega) (by omega)).mono fun d S' ⟨⟨r, e, r0, r1⟩, hd, hk⟩ => ?_
  subst e
  have hr : r.toNat < xs.length := by omega
  simp only [v_int]
  rw [ix_tup (x := xs[r.toNat]) (at_int r0 (List.getElem?_eq_getElem hr))]
  exact ⟨List.getElem_mem hr, hd, hk⟩
theorem adj_snoc : ∀ {ws : List Wo} {a : Wo} (c : Wo), ws.getLast? = some a → adj ws = true → stp a c = true → adj (ws ++ [c]) = true
  | [w], a, c, h, _, hs => by
    have : w = a := by simpa using h
    subst this
    simp [adj, hs]
  | w :: v :: r, a, c, h, ha, hs => by
    simp only [adj, Bool.and_eq_true] at ha
    have := adj_snoc (ws := v :: r) c (by simpa using h) ha.2 hs
    show (stp w v && adj (v :: (r ++ [c]))) = true
    rw [ha.1]
    exact this
theorem row_snoc {ws : List Wo} {a : Wo} (c : Wo) (h : ws.getLast? = some a) (hr : rowW ws = true) (hs : stp a c = true) : rowW (ws ++ [c]) = true := by
  cases ws with
  | nil => cases h
  | cons w r =>
    simp only [rowW, Bool.and_eq_true] at hr
    show (decide (w = .b) && adj (w :: (r ++ [c]))) = true
    rw [hr.1]
    exact adj_snoc c h hr.2 hs
theorem stp_refl (a : Wo) : stp a a = true := by cases a <;> rfl
theorem vw_wd {S : Store} (w : Wo) : vw S (wd w) = wd w := vw_nice (nice_wd w)
theorem ne_wd (a c : Wo) : neD (wd a) (wd c) = some (.bl (!decide (a = c))) := by
  unfold neD
  rw [lay_wd, lay_wd, deq_wd]; rfl
/-- what a def that lays cells of its own leaves -/
def Ko (S S' : Store) (n : Nat) : Prop := (∀ j, j < S.length → j ≠ n → S'[j]? = S[j]?) ∧ S.length ≤ S'.length
theorem Kp.o {S S' : Store} {n : Nat} (h : Kp S S' n) : Ko S S' n := ⟨fun j _ => h.1 j, Nat.le_of_eq h.2.symm⟩
theorem Ko.trans {S S1 S2 : Store} {n : Nat} (h : Ko S S1 n) (k : Ko S1 S2 n) : Ko S S2 n := ⟨fun j hj hn => (k.1 j (Nat.lt_of_lt_of_le hj h.2) hn).trans (h.1 j hj hn), Nat.le_trans h.2 k.2⟩
theorem Ko.refl (S : Store) (n : Nat) : Ko S S n := ⟨fun _ _ _ => rfl, Nat.le_refl _⟩
def LineOk (φ : Fn) : Prop := ∀ {S : Store} {n z : Nat}, Dr S n → 1 ≤ z → z ≤ 61 → (φ [.ref n, .int (z : Int)] S).sat fun d S' => (∃ ws : List Wo, d = .tup (ws.map wd) ∧ rowW ws = true ∧ ws.length = z) ∧ Dr S' n ∧ Ko S S' n
abbrev bLine (φ ψ χ : Fn) : SF :=
  seqS (setS 2 (lstM (consA (cst (.str "blank")) nilA))) (seqS (forS (rng1 (pB subD (var 1) (cst (.int 1)))) (gNm 3) (seqS (par2 4 5 (callP φ (consA (var 0) (consA (ifE (tst (pB ltD (var 1) (cst (.int 10)))) (cst (.int 5)) (cst (.int 12))) nilA))) (pB ixD (var 2) (pU negD (cst (.int 1))))) (seqS (ifS (tst (chE ltD ltD (cst (.int 1)) (var 4) (cst (.int 5)))) (setS 5 (callP ψ (consA (var 0) (consA (callP χ (consA (var 5) nilA)) nilA)))) nextS) (seqS (ifS (andT (tst (pB eqDD (var 5) (cst (.str "ended")))) (andT (tst (pB neD (pB ixD (var 2) (pU negD (cst (.int 1)))) (cst (.str "ended")))) (andT (tst (pB gtD (var 1) (cst (.int 9)))) (tst (pB gtD (callP φ (consA (var 0) (consA (cst (.int 4)) nilA))) (cst (.int 0))))))) (setS 5 (pB ixD (var 2) (pU negD (cst (.int 1))))) nextS) (dropS (appE (var 2) (var 5))))))) (retS (pN tupleD (consA (var 2) nilA))))
theorem line_ok {φ ψ χ : Fn} (hφ : TakeOk φ) (hψ : PickOk ψ) (hχ : AfterOk χ) : LineOk (runB (bLine φ ψ χ) 6) := by
  intro S n z h h1 h2
  have hsz : sizeLine = 16777216 := sizeLine_eq
  rw [w_run]
  show (bLine φ ψ χ [some (.ref n), some (.int z), none, none, none, none] S).sat _ _
  rw [w_seqS, w_setS]
  simp only [w_lstM, w_consA, w_cst, w_nilA]
  refine ⟨by simp only [List.length_cons, List.length_nil]; omega, ?_⟩
  simp only [List.set_cons_zero, List.set_cons_succ]
  have hn : n < S.length := by
    obtain ⟨_, _, _, hS, _⟩ := h
    exact (List.getElem?_eq_some_iff.mp hS).1
  have hd0 : Dr (S ++ [.lst [.str "blank"]]) n := by
    obtain ⟨f, s, t, hS, hs⟩ := h
    exact ⟨f, s, t, by rw [List.getElem?_append_left hn]; exact hS, hs⟩
  have hko : ∀ j, j < S.length → j ≠ n → (S ++ [Cell.lst [.str "blank"]])[j]? = S[j]? := fun j hj _ => List.getElem?_append_left hj
  have hlo : (S ++ [Cell.lst [.str "blank"]]).length = S.length + 1 := by simp
  generalize hm : S.length = m at hn hko hlo ⊢
  have hc0 : (S ++ [Cell.lst [.str "blank"]])[m]? = some (.lst ([Wo.b].map wd)) := by
    subst hm
    rw [List.getElem?_append_right (Nat.le_refl _), Nat.sub_self]
    rfl
  generalize (S ++ [Cell.lst [D.str "blank"]]) = S1 at hd0 hc0 hko hlo
  rw [w_seqS, w_forS, w_rng1]
  get_elem_tactic_extensible
  refine ⟨by unfold big; rw [Bool.and_eq_true, decide_eq_true_eq, decide_eq_true_eq]; omega, ?_⟩
  unfold rngI
  rw [forL_valsI]
  have hz : ((z : Int) - 1).toNat = z - 1 := by omega
  rw [hz]
  let Fr : Store → Prop := fun S' => (∀ j, j < m → j ≠ n → S'[j]? = S[j]?) ∧ S'.length = m + 1
  have frk : ∀ {A B : Store}, Fr A → Kp A B n → Fr B := fun f k => ⟨fun j hj hn => (k.1 j hn).trans (f.1 j hj hn), k.2.trans f.2⟩
  let J : List D → SV → Store → Prop := fun pre env S => Fr S ∧ (∃ a b c, env = [some (.ref n), some (.int z), some (.ref m), a, b, c]) ∧ Dr S n ∧ ∃ ws : List Wo, S[m]? = some (.lst (ws.map wd)) ∧ rowW ws = true ∧ ws.length = pre.length + 1
  refine forV_inv J (xs := (List.range (z - 1)).map fun (i : Nat) => D.int (0 + (i : Int))) (fun pre d post env S e j => ?_) (fun env S j => ?_) [] _ _ S1 rfl ⟨⟨hko, hlo⟩, ⟨none, none, none, rfl⟩, hd0, [.b], hc0, rfl, rfl⟩
  · obtain ⟨hfr, ⟨a, b, c, rfl⟩, hdr, ws, hw, hrow, hlen⟩ := j
    have hpre : pre.length < 61 := by
      have := congrArg List.length e
      simp at this
      omega
    simp only [gNm, List.set_cons_zero, List.set_cons_succ]
    obtain ⟨wl, hwl⟩ : ∃ wl, ws.getLast? = some wl := by
      cases q : ws.getLast? with
      | none => rw [List.getLast?_eq_none_iff] at q; subst q; simp at hlen
      | some wl => exact ⟨wl, rfl⟩
    have hlast : ∀ {S : Store}, S[m]? = some (.lst (ws.map wd)) → ixD (vw S (.ref m)) (.int (-1)) = some (wd wl) := fun h => by
      rw [v_ref h]
      exact ix_lst (at_last (by rw [List.getLast?_map, hwl]; rfl))
    -- the way
    have way : ∃ mm : Int, 0 < mm ∧ mm < 1073741824 ∧ (ifE (tst (pB ltD (var 1) (cst (D.int 10)))) (cst (D.int 5)) (cst (D.int 12)) [some (.ref n), some (.int z), some (.ref m), some d, b, c] S) = .ok (.int mm) S := by
      by_cases hz10 : (z : Int) < 10
      · refine ⟨5, by decide, by decide, eq_of_sat ?_⟩
        get_elem_tactic_extensible
        simp [hz10]
      · refine ⟨12, by decide, by decide, eq_of_sat ?_⟩
        get_elem_tactic_extensible
        simp [hz10]
    obtain ⟨mm, mm0, mm1, hway⟩ := way
    rw [w_seqS, w_par2, w_callP, w_consA, w_var]
    simp only [List.getElem?_cons_zero, w_consA, w_nilA, hway, sat_ok]
    refine (hφ hdr mm0 mm1).mono fun y S2 ⟨⟨r, er, r0, r1⟩, hdr2, hkk2⟩ => ?_
    have hk2 := hkk2.1
    have hf2 := frk hfr hkk2
    subst er
    have hmn : m ≠ n := by
      rintro rfl
      omega
    have hw2 : S2[m]? = some (.lst (ws.map wd)) := by rw [hk2 m hmn]; exact hw
    have rest : ∀ {R : D → Store → Prop} {B : SV → Store → Prop} (w1 : Wo) (S3 : Store), Fr S3 → stp wl w1 = true → Dr S3 n → S3[m]? = some (.lst (ws.map wd)) →
        (seqS (ifS (andT (tst (pB eqDD (var 5) (cst (.str "ended")))) (andT (tst (pB neD (pB ixD (var 2) (pU negD (cst (.int 1)))) (cst (.str "ended")))) (andT (tst (pB gtD (var 1) (cst (.int 9)))) (tst (pB gtD (callP φ (consA (var 0) (consA (cst (.int 4)) nilA))) (cst (.int 0))))))) (setS 5 (pB ixD (var 2) (pU negD (cst (.int 1))))) nextS) (dropS (appE (var 2) (var 5)))
          [some (.ref n), some (.int z), some (.ref m), some d, some (.int r), some (wd w1)] S3).sat (J (pre ++ [d])) R B (J (pre ++ [d])) := by
      intro R B w1 S3 hf3 hs1 hd3 hm3
      have app : ∀ (w2 : Wo) (S4 : Store), Fr S4 → stp wl w2 = true → Dr S4 n → S4[m]? = some (.lst (ws.map wd)) → (appE (var 2) (var 5) [some (.ref n), some (.int z), some (.ref m), some d, some (.int r), some (wd w2)] S4).sat fun _ S1 => J (pre ++ [d]) [some (.ref n), some (.int z), some (.ref m), some d, some (.int r), some (wd w2)] S1 := by
        intro w2 S4 hf4 hs2 hd4 hm4
        rw [w_appE]
        simp only [w_var, List.getElem?_cons_zero, List.getElem?_cons_succ, cell_of hm4]
        refine ⟨by rw [List.length_map, hlen]; omega, ⟨fun j hj hn => by rw [List.getElem?_set_ne (by omega)]; exact hf4.1 j hj hn, by rw [List.length_set]; exact hf4.2⟩, ⟨_, _, _, rfl⟩, ?_, ws ++ [w2], ?_, row_snoc w2 hwl hrow hs2, by simp [hlen]⟩
        · obtain ⟨f, s, t, hS, hs⟩ := hd4
          exact ⟨f, s, t, by rw [List.getElem?_set_ne hmn]; exact hS, hs⟩
        · rw [set_get hm4]; simp
      rw [w_seqS, w_ifS]
      get_elem_tactic_extensible
      rw [show D.str "ended" = wd .e from rfl, vw_wd, eq_wd]
      simp only [v_bl, t_bl]
      by_cases he : w1 = .e
      · rw [decide_eq_true he]
        simp only [if_true]
        rw [hlast hm3]
        simp only []
        rw [vw_wd, ne_wd]
        simp only [v_bl, t_bl]
        by_cases he2 : wl = .e
        · rw [decide_eq_true he2]
          simp only [Bool.not_true, Bool.false_eq_true, if_false]
          exact app w1 S3 hf3 hs1 hd3 hm3
        · rw [decide_eq_false he2]
          simp only [Bool.not_false, if_true]
          by_cases hz9 : (9 : Int) < z
          · rw [decide_eq_true hz9]
            simp only [if_true]
            refine (hφ hd3 (by decide) (by decide)).mono fun y S5 ⟨⟨r5, er5, r50, r51⟩, hdr5, hkk5⟩ => ?_
            have hk5 := hkk5.1
            have hf5 := frk hf3 hkk5
            subst er5
            have hm5 : S5[m]? = some (.lst (ws.map wd)) := by rw [hk5 m hmn]; exact hm3
            simp only [c_gt, v_bl, t_bl, v_int]
            by_cases hr5 : 0 < r5
            · rw [decide_eq_true hr5]
              simp only [if_true]
              rw [hlast hm5]
              simp only [List.set_cons_zero, List.set_cons_succ]
              exact app wl S5 hf5 (stp_refl wl) hdr5 hm5
            · rw [decide_eq_false hr5]
              simp only [Bool.false_eq_true, if_false]
              exact app w1 S5 hf5 hs1 hdr5 hm5
          · rw [decide_eq_false hz9]
            simp only [Bool.false_eq_true, if_false]
            exact app w1 S3 hf3 hs1 hd3 hm3
      · rw [decide_eq_false he]
        simp only [Bool.false_eq_true, if_false]
        exact app w1 S3 hf3 hs1 hd3 hm3
    simp only [w_pB, w_pU, w_cst, w_var, List.getElem?_cons_zero, List.getElem?_cons_succ, v_int, c_neg]
    rw [hlast hw2]
    simp only [List.set_cons_zero, List.set_cons_succ]
    rw [w_seqS, w_ifS, w_tst, w_chE]
    simp only [w_cst, w_var, List.getElem?_cons_zero, List.getElem?_cons_succ, v_int, c_lt]
    have pick : ∀ {S3 : Store}, Fr S3 → Dr S3 n → S3[m]? = some (.lst (ws.map wd)) → (setS 5 (callP ψ (consA (var 0) (consA (callP χ (consA (var 5) nilA)) nilA))) [some (.ref n), some (.int z), some (.ref m), some d, some (.int r), some (wd wl)] S3).sat
        (fun e S4 => ∃ w1, e = [some (.ref n), some (.int z), some (.ref m), some d, some (.int r), some (wd w1)] ∧ stp wl w1 = true ∧ Dr S4 n ∧ Fr S4 ∧ S4[m]? = some (.lst (ws.map wd))) (fun _ _ => False) := by
      intro S3 hf3 hd3 hm3
      rw [w_setS, w_callP, w_consA, w_var]
      simp only [List.getElem?_cons_zero, w_consA, w_callP, w_var, List.getElem?_cons_succ, w_nilA]
      rw [hχ, sat_ok]
      refine (hψ (xs := (aft wl).map wd) hd3 (by cases wl <;> simp [aft]) (by cases wl <;> simp [aft])).mono fun y S4 ⟨hy, hd4, hkk4⟩ => ?_
      have hk4 := hkk4.1
      obtain ⟨w1, hw1, rfl⟩ := List.mem_map.mp hy
      exact ⟨w1, rfl, List.contains_iff_mem.mpr hw1, hd4, frk hf3 hkk4, by rw [hk4 m hmn]; exact hm3⟩
    by_cases hr1 : (1 : Int) < r
    · rw [decide_eq_true hr1]
      simp only [v_bl, t_bl]
      by_cases hr5 : r < 5
      · rw [decide_eq_true hr5]
        simp only [if_true]
        refine (pick hf2 hdr2 hw2).mono (fun e S4 h4 => ?_) (fun _ _ z => False.elim z) (fun _ _ z => False.elim z) (fun _ _ z => False.elim z)
        obtain ⟨w1, rfl, g1, g2, g4, g3⟩ := h4
        exact rest w1 S4 g4 g1 g2 g3
      · rw [decide_eq_false hr5]
        simp only [Bool.false_eq_true, if_false]
        exact rest wl S2 hf2 (stp_refl wl) hdr2 hw2
    · rw [decide_eq_false hr1]
      simp only [v_bl, t_bl, Bool.false_eq_true, if_false]
      exact rest wl S2 hf2 (stp_refl wl) hdr2 hw2
  · obtain ⟨hfr, ⟨a, b, c, rfl⟩, hdr, ws, hw, hrow, hlen⟩ := j
    get_elem_tactic_extensible
    rw [v_ref hw]
    simp only [tupleD]
    exact ⟨⟨ws, rfl, hrow, by rw [hlen]; simp; omega⟩, hdr, fun j hj hn => hfr.1 j (by omega) hn, by have := hfr.2; omega⟩
end Lt
set_option maxRecDepth 100000
set_option maxHeartbeats 4000000
namespace Lt
open PySem PySem.Spec PyProof.Rows L2
local macro_rules | `(tactic| get_elem_tactic_extensible) => `(tactic| simp only [w_var, w_cst, w_pU, w_pB, w_nilA, w_consA, w_pN, w_tupE, w_lstE, w_lstM, w_tst, w_notT, w_andT, w_orT, w_ifE, w_andE, w_orE, w_notE, w_callP, w_callE, w_appA, w_chE, w_prs_nil, w_prs_cons, w_dicE, w_get2E, w_kixE, w_noP, w_soP, w_sliceE, w_nextS, w_badS, w_setS, w_asgS, w_par2, w_par3, w_dropS, w_retS, w_retN, w_brkS, w_cntS, w_ifS, w_forS, w_walk, w_rng1, w_rng2, w_zipI, w_lcE, w_lcA, forL_valsI, lcL_valsI, sat_ok, sat_bad, sat_exc, List.getElem?_cons_zero, List.getElem?_cons_succ, List.set_cons_zero, List.set_cons_succ, List.map_cons, List.map_nil, v_non, v_bl, v_int, v_str, v_tup, v_lst, v_scr, v_dic, t_non, t_bl, t_int, t_tup, t_lst, c_lt, c_le, c_gt, c_ge, c_add, c_sub, c_neg, c_eqI, c_eqE, c_isiT, Option.map_some, if_true, if_false, Bool.not_true, Bool.not_false, Bool.false_eq_true, wipeE, reduceIte])
theorem w_at {f : EF} {env : SV} {S S' : Store} {d : D} {P : D → Store → Prop} (e : f env S = .ok d S') : (f env S).sat P = P d S' := by rw [e]; rfl
/-! the purse, the law's frame, the same look -/
def PurseOk (φ : Fn) : Prop := ∀ (ns : List Int) (i : Int) (S : Store), (∃ j : Nat, i = (j : Int)) → (φ [.scr (ns.map .int), .int i] S).sat fun d S' => ∃ n, d = .ref n ∧ Dr S' n
def RightOk (φ : Fn) : Prop := ∀ {S : Store} {n : Nat}, Dr S n → (φ [.ref n] S).sat fun d _ => d = .bl true
abbrev bPurse : SF :=
  seqS (setS 2 (ifE (tst (pB ltD (var 1) (pN lenD (consA (var 0) nilA)))) (pB ixD (var 0) (var 1)) (cst (.int 0)))) (seqS (setS 3 (pB modD (pN intD (consA (pB addD (pB addD (pB mulDD (var 2) (cst (.int 69621))) (pB mulDD (var 1) (cst (.int 40692)))) (cst (.int 10007))) nilA)) (cst (.int 2147483549)))) (seqS (forS (walk (ifE (tst (pB geD (var 1) (pN lenD (consA (var 0) nilA)))) (sliceE (var 0) noP (soP (cst (.int 4)))) (lstE nilA))) (gNm 4) (setS 3 (pB modD (pN intD (consA (pB addD (pB mulDD (var 3) (cst (.int 45991))) (var 4)) nilA)) (cst (.int 2147483549))))) (retS (lstM (consA (ifE (tst (pB geD (pN absD (consA (var 2) nilA)) (pB powD (cst (.int 10)) (cst (.int 18))))) (pN absD (consA (var 2) nilA)) (cst (.int 0))) (consA (var 3) (consA (cst (.int 0)) nilA)))))))
abbrev bLaw (φ ψ : Fn) : SF :=
  retS (pN allD (consA (lcE (lcA (rng1 (pN max2D (consA (cst (.int 2)) (consA (pN min2D (consA (pN lenD (consA (var 0) nilA)) (consA (cst (.int 3)) nilA))) nilA)))) [1] (gNm 1) yesT (callP ψ (consA (callP φ (consA (var 0) (consA (var 1) nilA))) nilA)))) nilA))
theorem p18 : powD (.int 10) (.int 18) = some (.int 1000000000000000000) := by kernel_rfl
theorem p_cell (ns : List Int) (i : Nat) (S : Store) : ∃ c : Int, (ifE (tst (pB ltD (var 1) (pN lenD (consA (var 0) nilA)))) (pB ixD (var 0) (var 1)) (cst (.int 0)) [some (.scr (ns.map .int)), some (.int i), none, none, none] S) = .ok (.int c) S := by
  have hlen : (ns.map D.int).length = ns.length := List.length_map ..
  by_cases h : (i : Int) < (ns.map D.int).length
  · have hi : i < ns.length := by omega
    refine ⟨ns[i], eq_of_sat ?_⟩
    get_elem_tactic_extensible
    simp only [lenD, c_lt, v_int, v_bl, t_bl]
    rw [decide_eq_true h]
    simp only [if_true]
    rw [ix_scr (x := .int ns[i]) (at_int (by omega) (by rw [Int.toNat_natCast, List.getElem?_map, List.getElem?_eq_getElem hi]; rfl))]
    simp
  · refine ⟨0, eq_of_sat ?_⟩
    get_elem_tactic_extensible
    simp only [lenD, c_lt, v_int, v_bl, t_bl]
    rw [decide_eq_false h]
    simp
theorem p_walk (ns : List Int) (i : Nat) (c s0 : Int) (S : Store) : ∃ zs : List Int, (ifE (tst (pB geD (var 1) (pN lenD (consA (var 0) nilA)))) (sliceE (var 0) noP (soP (cst (.int 4)))) (lstE nilA) [some (.scr (ns.map .int)), some (.int i), some (.int c), some (.int s0), none] S) = .ok (.lst (zs.map .int)) S := by
  by_cases h : ((ns.map D.int).length : Int) ≤ i
  · refine ⟨ns.take 4, eq_of_sat ?_⟩
    get_elem_tactic_extensible
    simp only [lenD, c_ge, v_int, v_bl, t_bl]
    rw [decide_eq_true h]
    simp only [if_true]
    rw [sl_scr_to (by decide)]
    simp [List.map_take]
  · refine ⟨[], eq_of_sat ?_⟩
    get_elem_tactic_extensible
    simp only [lenD, c_ge, v_int, v_bl, t_bl]
    rw [decide_eq_false h]
    simp
theorem p_fig (a b : D) (c s : Int) (x : Option D) (S : Store) : ∃ f : Int, (ifE (tst (pB geD (pN absD (consA (var 2) nilA)) (pB powD (cst (.int 10)) (cst (.int 18))))) (pN absD (consA (var 2) nilA)) (cst (.int 0)) [some a, some b, some (.int c), some (.int s), x] S) = .ok (.int f) S := by
  have ab : absD [.int c] = some (.int (if c < 0 then -c else c)) := rfl
  generalize (if c < 0 then -c else c) = ac at ab
  have hp := p18
  generalize (1000000000000000000 : Int) = p at hp
  by_cases h : p ≤ ac
  · refine ⟨ac, eq_of_sat ?_⟩
    get_elem_tactic_extensible
    rw [ab]
    simp only []
    rw [hp]
    simp only [v_int, c_ge, v_bl, t_bl]
    rw [decide_eq_true h]
    simp
  · refine ⟨0, eq_of_sat ?_⟩
    get_elem_tactic_extensible
    rw [ab]
    simp only []
    rw [hp]
    simp only [v_int, c_ge, v_bl, t_bl]
    rw [decide_eq_false h]
    simp
theorem purse_ok : PurseOk (runB bPurse 5) := by
  intro ns i S hi
  have hsz : sizeLine = 16777216 := sizeLine_eq
  rw [w_run]
  show (bPurse [some (.scr (ns.map .int)), some (.int i), none, none, none] S).sat _ _
  have hlen : (ns.map D.int).length = ns.length := List.length_map ..
  obtain ⟨c, hc⟩ : ∃ c : Int, (ifE (tst (pB ltD (var 1) (pN lenD (consA (var 0) nilA)))) (pB ixD (var 0) (var 1)) (cst (.int 0)) [some (.scr (ns.map .int)), some (.int i), none, none, none] S) = .ok (.int c) S := by obtain ⟨j, rfl⟩ := hi; exact p_cell ns j S
  rw [w_seqS, w_setS, w_at hc]
  simp only [List.set_cons_zero, List.set_cons_succ]
  rw [w_seqS, w_setS]
  get_elem_tactic_extensible
  rw [c_mulR (show small64 69621 = true by decide), c_mulR (show small64 40692 = true by decide)]
  simp only [v_int, c_add, c_intI]
  rw [c_mod (by decide)]
  simp only []
  generalize hs : (c * 69621 + i * 40692 + 10007) % 2147483549 = s0
  have hs0 : 0 ≤ s0 := by rw [← hs]; exact Int.emod_nonneg _ (by decide)
  have hs1 : s0 < 2147483549 := by rw [← hs]; exact Int.emod_lt_of_pos _ (by decide)
  -- the walk
  rw [w_seqS, w_forS, w_walk]
  obtain ⟨zs, hz⟩ : ∃ zs : List Int, (ifE (tst (pB geD (var 1) (pN lenD (consA (var 0) nilA)))) (sliceE (var 0) noP (soP (cst (.int 4)))) (lstE nilA) [some (.scr (ns.map .int)), some (.int i), some (.int c), some (.int s0), none] S) = .ok (.lst (zs.map .int)) S := by obtain ⟨j, rfl⟩ := hi; exact p_walk ns j c s0 S
  rw [w_at hz]
  simp only []
  rw [forL_valsI]
  let J : List D → SV → Store → Prop := fun _ e S' => S' = S ∧ ∃ (s : Int) (x : Option D), 0 ≤ s ∧ s < 2147483549 ∧ e = [some (.scr (ns.map .int)), some (.int i), some (.int c), some (.int s), x]
  refine forV_inv J (xs := zs.map D.int) (fun pre d post env S' e j => ?_) (fun env S' j => ?_) [] _ _ S rfl ⟨rfl, s0, none, hs0, hs1, rfl⟩
  · obtain ⟨rfl, s, x, g0, g1, rfl⟩ := j
    obtain ⟨y, _, rfl⟩ : ∃ y : Int, y ∈ zs ∧ D.int y = d := List.mem_map.mp (by rw [e]; simp)
    simp only [gNm, List.set_cons_zero, List.set_cons_succ]
    get_elem_tactic_extensible
    rw [c_mulL (small_nn g0 g1)]
    simp only [v_int, c_add, c_intI]
    rw [c_mod (by decide)]
    exact ⟨rfl, _, _, Int.emod_nonneg _ (by decide), Int.emod_lt_of_pos _ (by decide), rfl⟩
  · obtain ⟨rfl, s, x, g0, g1, rfl⟩ := j
    obtain ⟨f, hf⟩ := p_fig _ _ c s x S'
    rw [w_retS, w_lstM, w_consA, w_at hf]
    get_elem_tactic_extensible
    refine ⟨by simp only [List.length_cons, List.length_nil]; omega, _, rfl, f, s, 0, ?_, g0, g1⟩
    rw [List.getElem?_append_right (Nat.le_refl _), Nat.sub_self]
    rfl
theorem law_tells {φ ψ : Fn} (hφ : PurseOk φ) (hψ : RightOk ψ) : Tells (runB (bLaw φ ψ) 2) 63 := by
  intro ns hl
  have hsz : sizeLine = 16777216 := sizeLine_eq
  have hlen : (ns.map D.int).length = ns.length := List.length_map ..
  have key : (runB (bLaw φ ψ) 2 [.scr (ns.map .int)] []).sat fun d _ => d = .bl true := by
    rw [w_run]
    show (bLaw φ ψ [some (.scr (ns.map .int)), none] []).sat _ _
    rw [w_retS, w_pN, w_consA, w_lcE, w_lcA, w_rng1]
    get_elem_tactic_extensible
    simp only [lenD, v_int, min2D, max2D]
    generalize hm : (if (if (3 : Int) < ((ns.map D.int).length : Int) then 3 else ((ns.map D.int).length : Int)) > 2 then (if (3 : Int) < ((ns.map D.int).length : Int) then 3 else ((ns.map D.int).length : Int)) else 2) = m
    have m0 : 2 ≤ m ∧ m ≤ 3 := by
      rw [← hm]
      split <;> split <;> omega
    refine ⟨by unfold big; rw [Bool.and_eq_true, decide_eq_true_eq, decide_eq_true_eq]; omega, ?_⟩
    unfold rngI
    rw [lcL_valsI]
    let J : List D → List D → Store → Prop := fun pre acc _ => acc = pre.map fun _ => .bl true
    refine lcV_inv J (xs := (List.range m.toNat).map fun (i : Nat) => D.int (0 + (i : Int))) (fun pre d post acc S e j => ?_) (fun acc S j => ?_) [] _ [] [] rfl rfl
    · have hpre : pre.length ≤ 3 := by
        have := congrArg List.length e
        simp at this
        omega
      obtain ⟨i, _, rfl⟩ : ∃ i : Nat, i ∈ List.range m.toNat ∧ D.int (0 + (i : Int)) = d := List.mem_map.mp (by rw [e]; simp)
      simp only [gNm, List.set_cons_zero, List.set_cons_succ]
      have ji : acc = pre.map fun _ => .bl true := j
      have jl : acc.length = pre.length := by rw [ji]; simp
      have hiz : ∃ j : Nat, 0 + (i : Int) = (j : Int) := ⟨i, by omega⟩
      generalize 0 + (i : Int) = iz at hiz ⊢
      simp only [yesT, sat_ok, if_true]
      get_elem_tactic_extensible
      refine (hφ ns iz S hiz).mono fun y S1 ⟨n, en, hd⟩ => ?_
      subst en
      refine (hψ hd).mono fun y S2 ey => ?_
      subst ey
      refine ⟨by rw [jl]; omega, ?_⟩
      show acc ++ [D.bl true] = (pre ++ [_]).map fun _ => D.bl true
      rw [ji, List.map_append]
      rfl
    · have ji : acc = ((List.range m.toNat).map fun (i : Nat) => D.int (0 + (i : Int))).map fun _ => .bl true := j
      rw [ji, all_map (fun _ => true)]
      simp
  obtain ⟨d, S, e, rfl⟩ := key.ex
  exact ⟨S, e⟩
def SameOk (φ : Fn) : Prop := ∀ {a b : D} {x y : Str} (S : Store), nice a = true → nice b = true → reprD [a] = some (.str x) → reprD [b] = some (.str y) → PyData.strOk x = true → PyData.strOk y = true → φ [a, b] S = .ok (.bl (x == y)) S
abbrev bSame : SF :=
  retS (pB eqDD (pN reprD (consA (var 0) nilA)) (pN reprD (consA (var 1) nilA)))
theorem eq_str {x y : Str} (hx : PyData.strOk x = true) (hy : PyData.strOk y = true) : eqDD (.str x) (.str y) = some (.bl (x == y)) := by
  show (if (lay 40 (.str x) && lay 40 (.str y)) = true then some (D.bl (deq (.str x) (.str y))) else none) = _
  have : (lay 40 (.str x) && lay 40 (.str y)) = true := by simp [lay, hx, hy]
  rw [if_pos this, deq_str]
theorem same_ok : SameOk (runB bSame 2) := by
  intro a b x y S ha hb hx hy h1 h2
  apply eq_of_sat
  rw [w_run]
  show (bSame [some a, some b] S).sat _ _
  get_elem_tactic_extensible
  rw [vw_nice ha, hx]
  simp only []
  rw [vw_nice hb, hy]
  simp only [v_str]
  rw [eq_str h1 h2]
  simp
end Lt
set_option maxRecDepth 100000
set_option maxHeartbeats 4000000
/-! Schedules, books, lists: what the defs of the lists tell. -/
namespace Lt
open PySem PySem.Spec PyProof.Rows L2
local macro_rules | `(tactic| get_elem_tactic_extensible) => `(tactic| simp only [w_var, w_cst, w_pU, w_pB, w_nilA, w_consA, w_pN, w_tupE, w_lstE, w_lstM, w_tst, w_notT, w_andT, w_orT, w_ifE, w_andE, w_orE, w_notE, w_callP, w_callE, w_appA, w_chE, w_prs_nil, w_prs_cons, w_dicE, w_get2E, w_kixE, w_noP, w_soP, w_sliceE, w_nextS, w_badS, w_seqS, w_setS, w_asgS, w_par2, w_par3, w_dropS, w_retS, w_retN, w_brkS, w_cntS, w_ifS, w_forS, w_walk, w_rng1, w_rng2, w_zipI, w_lcE, w_lcA, forL_valsI, lcL_valsI, sat_ok, sat_bad, sat_exc, List.getElem?_cons_zero, List.getElem?_cons_succ, List.set_cons_zero, List.set_cons_succ, List.map_cons, List.map_nil, v_non, v_bl, v_int, v_str, v_tup, v_lst, v_scr, v_dic, t_non, t_bl, t_int, t_tup, t_lst, c_lt, c_le, c_gt, c_ge, c_add, c_sub, c_neg, c_eqI, c_eqE, c_isiT, Option.map_some, if_true, if_false, Bool.not_true, Bool.not_false, Bool.false_eq_true, wipeE, reduceIte])
abbrev bWhole : SF :=
  retS (andE (pU (isiD .int) (var 0)) (notE (pU (isiD .bool) (var 0))))
abbrev bBetween (φ : Fn) : SF :=
  retS (andE (callP φ (consA (var 0) nilA)) (chE leD leD (var 1) (var 0) (var 2)))
abbrev bTupOf : SF :=
  retS (andE (pU (isiD .tup) (var 0)) (pB eqDD (pN lenD (consA (var 0) nilA)) (var 1)))
abbrev bPair (φ : Fn) : SF :=
  retS (callP φ (consA (var 0) (consA (cst (.int 2)) nilA)))
abbrev bKind (φ ψ : Fn) : SF :=
  retS (ifE (tst (callP φ (consA (var 0) nilA))) (pB inD (var 0) (tupE (consA (cst (.str "whole")) (consA (cst (.str "none")) nilA)))) (callP ψ (consA (var 0) (consA (cst (.int 1)) (consA (cst (.int 2)) nilA)))))
abbrev bSched (φ : Fn) : SF :=
  retS (andE (pU (isiD .tup) (var 0)) (andE (chE leD leD (cst (.int 1)) (pN lenD (consA (var 0) nilA)) (cst (.int 4))) (pN allD (consA (lcE (lcA (walk (var 0)) [1] (gNm 1) yesT (callP φ (consA (var 1) nilA)))) nilA))))
abbrev bKindOf : SF :=
  retS (pB ixD (var 0) (pB modD (var 1) (pN lenD (consA (var 0) nilA))))
abbrev bBook (φ ψ χ : Fn) : SF :=
  seqS (ifS (orT (notT (tst (pU (isiD .tup) (var 0)))) (tst (pB gtD (pN lenD (consA (var 0) nilA)) (cst (.int 40))))) (retS (cst (.bl false))) nextS) (seqS (setS 1 (cst (.int 0))) (seqS (forS (walk (var 0)) (gNm 2) (seqS (ifS (orT (notT (tst (callP φ (consA (var 2) nilA)))) (orT (notT (tst (callP ψ (consA (pB ixD (var 2) (cst (.int 0))) (consA (pB addD (var 1) (cst (.int 1))) (consA (cst (.int 999)) nilA)))))) (notT (tst (callP χ (consA (pB ixD (var 2) (cst (.int 1))) nilA)))))) (retS (cst (.bl false))) nextS) (setS 1 (pB ixD (var 2) (cst (.int 0)))))) (retS (pN allD (consA (lcE (lcA (walk (var 0)) [2] (gNm 2) yesT (pB eqDD (pN lenD (consA (pB ixD (var 2) (cst (.int 1))) nilA)) (pN lenD (consA (pB ixD (pB ixD (var 0) (cst (.int 0))) (cst (.int 1))) nilA))))) nilA)))))
abbrev bOver : SF :=
  seqS (setS 2 (pB ixD (var 0) (pU negD (cst (.int 1))))) (seqS (ifS (tst (pB eqDD (var 1) (cst (.str "whole")))) (retS (ifE (tst (pB eqDD (var 2) (cst (.str "blank")))) (cst .non) (var 2))) nextS) (retS (ifE (tst (pN allD (consA (lcE (lcA (walk (var 0)) [3] (gNm 3) yesT (pB eqDD (var 3) (var 2)))) nilA))) (cst .non) (var 2))))
abbrev bSaid (φ : Fn) : SF :=
  seqS (setS 3 (ifE (tst (pB eqDD (var 1) (cst (.str "whole")))) (cst (.int 0)) (var 1))) (retS (callP φ (consA (sliceE (var 0) (soP (pN max2D (consA (cst (.int 0)) (consA (pB subD (var 2) (var 3)) nilA)))) (soP (pB addD (var 2) (cst (.int 1))))) (consA (var 1) nilA))))
abbrev bListBy (φ ψ : Fn) : SF :=
  seqS (setS 3 (callP φ (consA (var 0) (consA (var 2) nilA)))) (seqS (ifS (tst (pB eqDD (var 3) (cst (.str "none")))) (retS (cst .non)) nextS) (seqS (setS 4 (lcE (lcA (walk (var 1)) [5, 6] (gTp 2 (gCs (gNm 5) (gCs (gNm 6) gNl))) yesT (tupE (consA (var 5) (consA (callP ψ (consA (var 6) (consA (var 3) (consA (var 2) nilA)))) nilA)))))) (retS (tupE (consA (var 2) (consA (var 3) (consA (pN tupleD (consA (lcE (lcA (walk (var 4)) [7] (gNm 7) (tst (pB nisDD (pB ixD (var 7) (cst (.int 1))) (cst .non))) (var 7))) nilA)) nilA)))))))
abbrev bIsList (φ ψ χ ω η : Fn) : SF :=
  seqS (ifS (orT (notT (tst (callP φ (consA (var 0) (consA (cst (.int 3)) nilA))))) (orT (notT (tst (callP ψ (consA (pB ixD (var 0) (cst (.int 0))) (consA (cst (.int 0)) (consA (cst (.int 60)) nilA)))))) (notT (tst (callP χ (consA (pB ixD (var 0) (cst (.int 1))) nilA)))))) (retS (cst (.bl false))) nextS) (seqS (ifS (orT (tst (pB eqDD (pB ixD (var 0) (cst (.int 1))) (cst (.str "none")))) (orT (notT (tst (pU (isiD .tup) (pB ixD (var 0) (cst (.int 2)))))) (tst (pB gtD (pN lenD (consA (pB ixD (var 0) (cst (.int 2))) nilA)) (cst (.int 40)))))) (retS (cst (.bl false))) nextS) (seqS (setS 1 (cst (.int 0))) (seqS (forS (walk (pB ixD (var 0) (cst (.int 2)))) (gNm 2) (seqS (ifS (orT (notT (tst (callP ω (consA (var 2) nilA)))) (orT (notT (tst (callP ψ (consA (pB ixD (var 2) (cst (.int 0))) (consA (pB addD (var 1) (cst (.int 1))) (consA (cst (.int 999)) nilA)))))) (notT (tst (callP η (consA (pB ixD (var 2) (cst (.int 1))) nilA)))))) (retS (cst (.bl false))) nextS) (seqS (ifS (tst (pB eqDD (pB ixD (var 2) (cst (.int 1))) (cst (.str "blank")))) (retS (cst (.bl false))) nextS) (setS 1 (pB ixD (var 2) (cst (.int 0))))))) (retS (cst (.bl true))))))
abbrev bSaysOf : SF :=
  seqS (setS 2 (lcE (lcA (walk (pB ixD (var 0) (cst (.int 2)))) [3, 4] (gTp 2 (gCs (gNm 3) (gCs (gNm 4) gNl))) (tst (pB eqDD (var 3) (var 1))) (var 4)))) (retS (ifE (tst (pB neD (var 2) (lstE nilA))) (pB ixD (var 2) (cst (.int 0))) (cst .non)))
abbrev bCkDay (φ : Fn) : SF :=
  ifS (notT (tst (callP φ (consA (var 0) (consA (cst (.int 0)) (consA (cst (.int 60)) nilA)))))) badS nextS
abbrev bCkNum (φ : Fn) : SF :=
  ifS (notT (tst (callP φ (consA (var 0) (consA (cst (.int 1)) (consA (cst (.int 999)) nilA)))))) badS nextS
abbrev bCk (φ : Fn) : SF :=
  ifS (notT (tst (callP φ (consA (var 0) nilA)))) badS nextS
abbrev bListOf (φ ψ χ ω : Fn) : SF :=
  seqS (dropS (callP φ (consA (var 0) nilA))) (seqS (dropS (callP ψ (consA (var 1) nilA))) (seqS (dropS (callP χ (consA (var 2) nilA))) (seqS (ifS (andT (tst (pB neD (var 1) (tupE nilA))) (tst (pB geD (var 2) (pN lenD (consA (pB ixD (pB ixD (var 1) (cst (.int 0))) (cst (.int 1))) nilA))))) badS nextS) (retS (callP ω (consA (var 0) (consA (var 1) (consA (var 2) nilA))))))))
abbrev bSays (φ ψ χ : Fn) : SF :=
  seqS (dropS (callP φ (consA (var 0) nilA))) (seqS (dropS (callP ψ (consA (var 1) nilA))) (retS (callP χ (consA (var 0) (consA (var 1) nilA)))))
def wholeB : D → Bool
  | .int _ => true
  | _ => false
def WholeOk (φ : Fn) : Prop := ∀ {d : D} (S : Store), nice d = true → φ [d] S = .ok (.bl (wholeB d)) S
theorem whole_ok : WholeOk (runB bWhole 1) := by
  intro d S h
  apply eq_of_sat
  rw [w_run]
  show (bWhole [some d] S).sat _ _
  get_elem_tactic_extensible
  rw [vw_nice h]
  cases d <;> first | (cases h; done) | simp [isiD, tyOf, isTy, wholeB, vw, truD]
def btwB (d : D) (lo hi : Int) : Bool := match d with
  | .int i => decide (lo ≤ i) && decide (i ≤ hi)
  | _ => false
def BetweenOk (φ : Fn) : Prop := ∀ {d : D} (lo hi : Int) (S : Store), nice d = true → φ [d, .int lo, .int hi] S = .ok (.bl (btwB d lo hi)) S
theorem between_ok {φ : Fn} (hφ : WholeOk φ) : BetweenOk (runB (bBetween φ) 3) := by
  intro d lo hi S h
  apply eq_of_sat
  rw [w_run]
  show (bBetween φ [some d, some (.int lo), some (.int hi)] S).sat _ _
  get_elem_tactic_extensible
  rw [hφ S h, sat_ok]
  cases d with
  | int i =>
    simp only [wholeB, v_bl, t_bl, v_int, c_le, btwB]
    by_cases h1 : lo ≤ i
    · simp [h1]
    · simp [h1]
  | ref n => cases h
  | obj c vs => cases h
  | _ => simp [wholeB, v_bl, t_bl, btwB]
/-! kinds -/
inductive Ki where | w | n | a | b
deriving DecidableEq
def kD : Ki → D
  | .w => .str "whole" | .n => .str "none" | .a => .int 1 | .b => .int 2
theorem nice_k (x : Ki) : nice (kD x) = true := by cases x <;> decide +kernel
theorem eq_kw (x : Ki) : eqDD (kD x) (.str "whole") = some (.bl (decide (x = .w))) := by cases x <;> kernel_rfl
theorem eq_kn (x : Ki) : eqDD (kD x) (.str "none") = some (.bl (decide (x = .n))) := by cases x <;> kernel_rfl
def KindOk (φ : Fn) : Prop := ∀ (x : Ki) (S : Store), φ [kD x] S = .ok (.bl true) S
theorem kind_ok {φ ψ : Fn} (hφ : TextOk φ) (hψ : BetweenOk ψ) : KindOk (runB (bKind φ ψ) 1) := by
  intro x S
  apply eq_of_sat
  rw [w_run]
  show (bKind φ ψ [some (kD x)] S).sat _ _
  get_elem_tactic_extensible
  rw [hφ S (nice_k x), sat_ok]
  have hsz : sizeLine = 16777216 := sizeLine_eq
  cases x with
  | w =>
    simp only [kD, v_bl, t_bl, if_true, v_str]
    refine ⟨by simp only [List.length_cons, List.length_nil]; omega, ?_⟩
    rw [show inD (.str "whole") (.tup [.str "whole", .str "none"]) = some (.bl true) by kernel_rfl]
    simp
  | n =>
    simp only [kD, v_bl, t_bl, if_true, v_str]
    refine ⟨by simp only [List.length_cons, List.length_nil]; omega, ?_⟩
    rw [show inD (.str "none") (.tup [.str "whole", .str "none"]) = some (.bl true) by kernel_rfl]
    simp
  | a =>
    simp only [kD, v_bl, t_bl, Bool.false_eq_true, if_false]
    rw [hψ 1 2 S rfl]
    simp [btwB]
  | b =>
    simp only [kD, v_bl, t_bl, Bool.false_eq_true, if_false]
    rw [hψ 1 2 S rfl]
    simp [btwB]
def SchedOk (φ : Fn) : Prop := ∀ (p : List Ki) (S : Store), 1 ≤ p.length → p.length ≤ 4 → φ [.tup (p.map kD)] S = .ok (.bl true) S
theorem sched_ok {φ : Fn} (hφ : KindOk φ) : SchedOk (runB (bSched φ) 2) := by
  intro p S h1 h2
  have hsz : sizeLine = 16777216 := sizeLine_eq
  have hl : (p.map kD).length = p.length := List.length_map ..
  apply eq_of_sat
  rw [w_run]
  show (bSched φ [some (.tup (p.map kD)), none] S).sat _ _
  get_elem_tactic_extensible
  simp only [lenD, v_int, c_le]
  rw [decide_eq_true (show (1 : Int) ≤ ((p.map kD).length : Int) by omega)]
  simp only []
  rw [decide_eq_true (show ((p.map kD).length : Int) ≤ 4 by omega)]
  simp only [v_bl, t_bl]
  rw [lcV_map (fun _ => .bl true) _ [] S (fun d hd => ?_) (by rw [List.length_nil]; omega)]
  · rw [sat_ok, List.nil_append, all_map (fun _ => true)]
    simp
  · obtain ⟨x, _, rfl⟩ := List.mem_map.mp hd
    exact hφ x S
def KindOfOk (φ : Fn) : Prop := ∀ (p : List Ki) (day : Int) (x : Ki) (S : Store), 0 ≤ day → p[(day % p.length).toNat]? = some x → φ [.tup (p.map kD), .int day] S = .ok (kD x) S
theorem kindof_ok : KindOfOk (runB bKindOf 2) := by
  intro p day x S h0 hx
  have hp : 0 < p.length := by have := (List.getElem?_eq_some_iff.mp hx).1; omega
  have hl : (p.map kD).length = p.length := List.length_map ..
  apply eq_of_sat
  rw [w_run]
  show (bKindOf [some (.tup (p.map kD)), some (.int day)] S).sat _ _
  get_elem_tactic_extensible
  simp only [lenD, v_int]
  rw [c_mod (by omega)]
  simp only [v_int]
  rw [hl, ix_tup (x := kD x) (at_int (Int.emod_nonneg _ (by omega)) (by rw [List.getElem?_map, hx]; rfl))]
  simp
theorem w_forV_nil {g : GF} {b : SF} {env : SV} {S : Store} {N : SV → Store → Prop} {R : D → Store → Prop} {B Q : SV → Store → Prop} : (forV g b [] env S).sat N R B Q = N env S := rfl
theorem w_forV {g : GF} {b : SF} {d : D} {ds : List D} {env : SV} {S : Store} {N : SV → Store → Prop} {R : D → Store → Prop} {B Q : SV → Store → Prop} : (forV g b (d :: ds) env S).sat N R B Q = match g d env S with
    | some (e1, S1) => (b e1 S1).sat (fun e S => (forV g b ds e S).sat N R B Q) R N (fun e S => (forV g b ds e S).sat N R B Q)
    | none => False := by
  show (match g d env S with
      | none => SRes.bad
      | some (env1, S1) => match b env1 S1 with
        | .nx env2 S2 => forV g b ds env2 S2
        | .ct env2 S2 => forV g b ds env2 S2
        | .bk env2 S2 => .nx env2 S2
        | .rt d S2 => .rt d S2
        | .ex c d env2 S2 => .ex c d env2 S2
        | .bad => .bad).sat N R B Q = _
  rcases g d env S with _ | ⟨e1, S1⟩
  · rfl
  · simp only []
    cases b e1 S1 <;> rfl
theorem sl_cut {xs : List D} {i j : Int} (h0 : 0 ≤ i) (h1 : 0 ≤ j) : sliceD (some i) (some j) (.tup xs) = some (.tup ((xs.take j.toNat).drop i.toNat)) := by
  show some (D.tup (cutL xs (some i) (some j))) = _
  unfold cutL HT.sIx
  simp only []
  rw [if_neg (by omega), if_neg (by omega)]
  simp only [Option.some.injEq, D.tup.injEq]
  rw [List.drop_take]
  by_cases hi : i.toNat ≤ xs.length
  · rw [Nat.min_eq_left hi]
    by_cases hj : j.toNat ≤ xs.length
    · rw [Nat.min_eq_left hj]
    · rw [Nat.min_eq_right (by omega), List.take_of_length_le (by simp), List.take_of_length_le (by simp; omega)]
  · have hm : min i.toNat xs.length = xs.length := Nat.min_eq_right (by omega)
    rw [hm, List.drop_length, List.drop_of_length_le (by omega)]
    simp
/-! what is said -/
def owD : Option Wo → D
  | none => .non
  | some w => wd w
theorem nice_ow (w : Option Wo) : nice (owD w) = true := by
  cases w with
  | none => rfl
  | some w => exact nice_wd w
def over (x : Ki) (ws : List Wo) : Option Wo := match ws.getLast? with
  | none => none
  | some l => match x with
    | .w => if l = .b then none else some l
    | _ => if (ws.all fun c => decide (c = l)) = true then none else some l
def OverOk (φ : Fn) : Prop := ∀ (ws : List Wo) (x : Ki) (S : Store), ws ≠ [] → ws.length ≤ 1000 → φ [.tup (ws.map wd), kD x] S = .ok (owD (over x ws)) S
theorem over_ok : OverOk (runB bOver 4) := by
  intro ws x S h0 h1
  have hsz : sizeLine = 16777216 := sizeLine_eq
  have hl : (ws.map wd).length = ws.length := List.length_map ..
  obtain ⟨l, hwl⟩ : ∃ l, ws.getLast? = some l := by
    cases q : ws.getLast? with
    | none => rw [List.getLast?_eq_none_iff] at q; exact absurd q h0
    | some l => exact ⟨l, rfl⟩
  have hlast : ixD (.tup (ws.map wd)) (.int (-1)) = some (wd l) := ix_tup (at_last (by rw [List.getLast?_map, hwl]; rfl))
  apply eq_of_sat
  rw [w_run]
  show (bOver [some (.tup (ws.map wd)), some (kD x), none, none] S).sat _ _
  get_elem_tactic_extensible
  rw [hlast]
  simp only [vw_nice (nice_k x), eq_kw, v_bl, t_bl]
  by_cases hx : x = .w
  · subst hx
    rw [show D.str "blank" = wd .b from rfl]
    simp only [decide_true, if_true, vw_wd, eq_wd, v_bl, t_bl, over, hwl]
    by_cases hb : l = .b
    · simp [hb, owD]
    · simp [hb, owD]
  · rw [decide_eq_false hx]
    simp only [Bool.false_eq_true, if_false]
    have e := lcV_map (g := gNm 3) (f := pB eqDD (var 3) (var 2)) (env := [some (.tup (ws.map wd)), some (kD x), some (wd l), none]) (fun d => .bl (match wOf d with | some c => decide (c = l) | none => false)) (ws.map wd) [] S (fun d hd => by
      obtain ⟨c, _, rfl⟩ := List.mem_map.mp hd
      apply eq_of_sat
      show (pB eqDD (var 3) (var 2) [some (.tup (ws.map wd)), some (kD x), some (wd l), some (wd c)] S).sat _
      get_elem_tactic_extensible
      simp only [vw_wd, eq_wd, wOf_wd]
      exact ⟨trivial, trivial⟩) (by rw [List.length_nil]; omega)
    rw [e, sat_ok, List.nil_append, List.map_map]
    have e2 : ws.map ((fun d => D.bl (match wOf d with | some c => decide (c = l) | none => false)) ∘ wd) = ws.map fun c => .bl (decide (c = l)) := by
      apply List.map_congr_left
      intro c _
      simp [wOf_wd]
    rw [e2, all_map]
    simp only [v_bl, t_bl]
    have ho : over x ws = if (ws.all fun c => decide (c = l)) = true then none else some l := by
      unfold over
      rw [hwl]
      cases x <;> first | exact absurd rfl hx | rfl
    rw [ho]
    cases ws.all fun c => decide (c = l) <;> simp [owD]
def spn : Ki → Nat
  | .a => 1 | .b => 2 | _ => 0
def said (x : Ki) (ws : List Wo) (day : Nat) : Option Wo := over x ((ws.take (day + 1)).drop (day - spn x))
def SaidOk (φ : Fn) : Prop := ∀ (ws : List Wo) (x : Ki) (day : Nat) (S : Store), x ≠ .n → day < ws.length → ws.length ≤ 1000 → φ [.tup (ws.map wd), kD x, .int (day : Int)] S = .ok (owD (said x ws day)) S
theorem said_ok {φ : Fn} (hφ : OverOk φ) : SaidOk (runB (bSaid φ) 4) := by
  intro ws x day S hn hd hl
  apply eq_of_sat
  rw [w_run]
  show (bSaid φ [some (.tup (ws.map wd)), some (kD x), some (.int day), none] S).sat _ _
  get_elem_tactic_extensible
  simp only [vw_nice (nice_k x), eq_kw, v_bl, t_bl]
  have key : ∀ (d : D) (sp : Int), d = .int sp → sp = (spn x : Int) → (match max2D [.int 0, .int ((day : Int) - sp)] with
      | some r => match r with | D.int i => (match sliceD (some i) (some ((day : Int) + 1)) (.tup (ws.map wd)) with | some r => (φ [r, kD x] S).sat fun d S' => d = owD (said x ws day) ∧ S' = S | none => False) | _ => False
      | none => False) := by
    intro d sp _ hs
    show (match sliceD (some (if (day : Int) - sp > 0 then (day : Int) - sp else 0)) (some ((day : Int) + 1)) (.tup (ws.map wd)) with | some r => (φ [r, kD x] S).sat fun d S' => d = owD (said x ws day) ∧ S' = S | none => False)
    rw [sl_cut (by split <;> omega) (by omega)]
    simp only []
    have e1 : ((day : Int) + 1).toNat = day + 1 := by omega
    have e2 : (if (day : Int) - sp > 0 then (day : Int) - sp else 0).toNat = day - spn x := by split <;> omega
    rw [e1, e2, ← List.map_take, ← List.map_drop]
    rw [hφ _ x S (by intro z; have := congrArg List.length z; rw [List.length_drop, List.length_take, List.length_nil] at this; omega) (by rw [List.length_drop, List.length_take]; omega)]
    exact ⟨rfl, rfl⟩
  cases x with
  | n => exact absurd rfl hn
  | w =>
    simp only [decide_true, if_true, c_sub, v_int]
    exact key (.int 0) 0 rfl rfl
  | a =>
    simp only [show decide (Ki.a = Ki.w) = false from rfl, Bool.false_eq_true, if_false, kD, c_sub, v_int]
    exact key (.int 1) 1 rfl rfl
  | b =>
    simp only [show decide (Ki.b = Ki.w) = false from rfl, Bool.false_eq_true, if_false, kD, c_sub, v_int]
    exact key (.int 2) 2 rfl rfl
theorem lcV_fm {g : GF} {c : TF} {f : EF} {env : SV} (h : D → D) (t : D → Bool) : ∀ (xs acc : List D) (S : Store), (∀ d ∈ xs, match g d env S with | some (e1, S1) => c e1 S1 = .ok (t d) S ∧ (t d = true → f e1 S = .ok (h d) S) | none => False) → acc.length + xs.length ≤ sizeLine →
    lcV g c f env xs acc S = .ok (acc ++ (xs.filter t).map h) S
  | [], acc, S, _, _ => by simp [lcV]
  | d :: ds, acc, S, hf, hl => by
    have h1 := hf d List.mem_cons_self
    show (match g d env S with
      | none => Res.bad
      | some (env1, S1) => match c env1 S1 with
        | .ok true S2 => match f env1 S2 with
          | .ok y S3 => if acc.length < sizeLine then lcV g c f env ds (acc ++ [y]) S3 else .bad
          | _ => .bad
        | .ok false S2 => lcV g c f env ds acc S2
        | _ => .bad) = _
    cases hg : g d env S with
    | none => rw [hg] at h1; exact False.elim h1
    | some p =>
      obtain ⟨e1, S1⟩ := p
      rw [hg] at h1
      simp only at h1 ⊢
      rw [h1.1]
      have hr : ∀ x ∈ ds, _ := fun x hx => hf x (List.mem_cons_of_mem _ hx)
      cases ht : t d with
      | true =>
        simp only []
        rw [h1.2 ht]
        simp only []
        rw [if_pos (by simp at hl; omega), lcV_fm h t ds (acc ++ [h d]) S hr (by simp at hl ⊢; omega), List.filter_cons_of_pos ht]
        simp
      | false =>
        simp only []
        rw [lcV_fm h t ds acc S hr (by simp at hl ⊢; omega), List.filter_cons_of_neg (by simp [ht])]
theorem good_tup {xs : List D} (h1 : xs.length ≤ 1000) (h2 : ∀ x ∈ xs, nice x = true) : good (.tup xs) := ⟨rfl, fun ys e => by cases e; exact ⟨h1, h2⟩⟩
/-! books -/
def pD (p : Nat × List Wo) : D := .tup [.int (p.1 : Int), .tup (p.2.map wd)]
def sD (p : Nat × Wo) : D := .tup [.int (p.1 : Int), wd p.2]
def asc {α : Type} : Nat → List (Nat × α) → Prop
  | _, [] => True
  | last, p :: r => last < p.1 ∧ p.1 ≤ 999 ∧ asc p.1 r
structure GoodBk (bk : List (Nat × List Wo)) (z : Nat) : Prop where
  len : bk.length ≤ 40
  up : asc 0 bk
  rows : ∀ p ∈ bk, rowW p.2 = true ∧ p.2.length = z
  z1 : z ≤ 61
def TupOfOk (φ : Fn) : Prop := ∀ (xs : List D) (n : Int) (S : Store), φ [.tup xs, .int n] S = .ok (.bl (decide ((xs.length : Int) = n))) S
theorem tupof_ok : TupOfOk (runB bTupOf 2) := by
  intro xs n S
  apply eq_of_sat
  rw [w_run]
  show (bTupOf [some (.tup xs), some (.int n)] S).sat _ _
  get_elem_tactic_extensible
  simp only [lenD, v_int, c_eqI]
  exact ⟨trivial, trivial⟩
def PairOk (φ : Fn) : Prop := ∀ (x y : D) (S : Store), φ [.tup [x, y]] S = .ok (.bl true) S
theorem pair_ok {φ : Fn} (hφ : TupOfOk φ) : PairOk (runB (bPair φ) 1) := by
  intro x y S
  apply eq_of_sat
  rw [w_run]
  show (bPair φ [some (.tup [x, y])] S).sat _ _
  get_elem_tactic_extensible
  rw [hφ]
  exact ⟨rfl, rfl⟩
theorem ix_snd {x y : D} : ixD (.tup [x, y]) (.int 1) = some y := ix_tup (at_int (by decide) rfl)
theorem ix_3 {x y z : D} : ixD (.tup [x, y, z]) (.int 2) = some z := ix_tup (at_int (by decide) rfl)
theorem ix_32 {x y z : D} : ixD (.tup [x, y, z]) (.int 1) = some y := ix_tup (at_int (by decide) rfl)
def BookOk (φ : Fn) : Prop := ∀ (bk : List (Nat × List Wo)) (z : Nat) (S : Store), GoodBk bk z → φ [.tup (bk.map pD)] S = .ok (.bl true) S
theorem book_ok {φ ψ χ : Fn} (hφ : PairOk φ) (hψ : BetweenOk ψ) (hχ : RowOfOk χ) : BookOk (runB (bBook φ ψ χ) 3) := by
  intro bk z S hg
  have hsz : sizeLine = 16777216 := sizeLine_eq
  have hl : (bk.map pD).length = bk.length := List.length_map ..
  have hlen := hg.len
  apply eq_of_sat
  rw [w_run]
  show (bBook φ ψ χ [some (.tup (bk.map pD)), none, none] S).sat _ _
  unfold bBook
  rw [w_seqS, w_ifS, w_orT, w_notT, w_tst, w_pU, w_var]
  simp only [List.getElem?_cons_zero, v_tup, c_isiT, v_bl, t_bl, Bool.not_true, Bool.false_eq_true, if_false, w_tst, w_pB, w_pN, w_consA, w_var, w_nilA, w_cst, List.map_cons, List.map_nil, lenD, v_int, c_gt]
  rw [decide_eq_false (show ¬ (40 : Int) < ((bk.map pD).length : Int) by omega)]
  simp only [Bool.false_eq_true, if_false, w_nextS]
  rw [w_seqS, w_setS, w_cst]
  simp only [List.set_cons_zero, List.set_cons_succ]
  rw [w_seqS, w_forS, w_walk, w_var]
  simp only [List.getElem?_cons_zero]
  rw [forL_valsI]
  have loop : ∀ (post : List (Nat × List Wo)) (last : Nat) (x : Option D) {N : SV → Store → Prop} {R : D → Store → Prop}, asc last post → (∀ p ∈ post, rowW p.2 = true ∧ p.2.length = z) → (∀ l y, N [some (.tup (bk.map pD)), some (.int l), y] S) →
      (forV (gNm 2) (seqS (ifS (orT (notT (tst (callP φ (consA (var 2) nilA)))) (orT (notT (tst (callP ψ (consA (pB ixD (var 2) (cst (.int 0))) (consA (pB addD (var 1) (cst (.int 1))) (consA (cst (.int 999)) nilA)))))) (notT (tst (callP χ (consA (pB ixD (var 2) (cst (.int 1))) nilA)))))) (retS (cst (.bl false))) nextS) (setS 1 (pB ixD (var 2) (cst (.int 0))))) (post.map pD) [some (.tup (bk.map pD)), some (.int last), x] S).sat N R := by
    intro post
    induction post with
    | nil => intro last x N R _ _ h; exact h _ _
    | cons p post ih =>
      intro last x N R ha hr hN
      obtain ⟨n, ws⟩ := p
      obtain ⟨g1, g2⟩ := hr (n, ws) List.mem_cons_self
      simp only at g1 g2
      have hz := hg.z1
      rw [List.map_cons, w_forV]
      simp only [gNm, List.set_cons_zero, List.set_cons_succ]
      rw [w_seqS, w_ifS]
      simp only [pD]
      get_elem_tactic_extensible
      rw [hφ, sat_ok]
      simp only [v_bl, t_bl, Bool.not_true, Bool.false_eq_true, if_false, ix_head, c_add]
      rw [hψ _ _ S rfl, sat_ok]
      have hb : btwB (.int (n : Int)) ((last : Int) + 1) 999 = true := by
        have := ha.1
        have := ha.2.1
        simp only at this ha
        simp only [btwB, Bool.and_eq_true, decide_eq_true_eq]
        omega
      simp only [hb, v_bl, t_bl, Bool.not_true, Bool.false_eq_true, if_false, ix_snd]
      rw [hχ S (good_tup (by rw [List.length_map]; omega) fun y hy => by obtain ⟨w, _, rfl⟩ := List.mem_map.mp hy; exact nice_wd w), sat_ok]
      have hrow : isRow (.tup (ws.map wd)) = true := by simp [isRow, rowX, wsOf_map, g1]; omega
      simp only [hrow, v_bl, t_bl, Bool.not_true, Bool.false_eq_true, if_false]
      exact ih n _ ha.2.2 (fun p hp => hr p (List.mem_cons_of_mem _ hp)) hN
  refine loop bk 0 none hg.up hg.rows fun l y => ?_
  have e := lcV_map (g := gNm 2) (f := pB eqDD (pN lenD (consA (pB ixD (var 2) (cst (.int 1))) nilA)) (pN lenD (consA (pB ixD (pB ixD (var 0) (cst (.int 0))) (cst (.int 1))) nilA))) (env := [some (.tup (bk.map pD)), some (.int l), none]) (fun _ => .bl true) (bk.map pD) [] S (fun d hd => by
    obtain ⟨p, hp, rfl⟩ := List.mem_map.mp hd
    apply eq_of_sat
    show (pB eqDD (pN lenD (consA (pB ixD (var 2) (cst (.int 1))) nilA)) (pN lenD (consA (pB ixD (pB ixD (var 0) (cst (.int 0))) (cst (.int 1))) nilA)) [some (.tup (bk.map pD)), some (.int l), some (pD p)] S).sat _
    cases bk with
    | nil => cases hp
    | cons q r =>
      have h1 := (hg.rows p hp).2
      have h2 := (hg.rows q List.mem_cons_self).2
      simp only [List.map_cons, pD]
      get_elem_tactic_extensible
      simp only [ix_snd, lenD, ix_head, v_tup, v_int, c_eqI, List.length_map, h1, h2]
      simp) (by rw [List.length_nil]; omega)
  rw [w_retS, w_pN, w_consA, w_lcE, w_lcA, w_walk, w_var]
  simp only [List.getElem?_cons_zero, wipeE, List.set_cons_zero, List.set_cons_succ]
  rw [lcL_valsI, e, sat_ok, w_nilA]
  simp only [List.nil_append, List.map_cons, List.map_nil, v_lst]
  rw [List.map_map, show ((fun _ => D.bl true) ∘ pD) = (fun _ => D.bl true) from rfl, all_map (fun _ => true)]
  simp
/-! lists -/
def told (x : Ki) (bk : List (Nat × List Wo)) (day : Nat) : List (Nat × Wo) := bk.filterMap fun q => (said x q.2 day).map fun w => (q.1, w)
def listK (x : Ki) (bk : List (Nat × List Wo)) (day : Nat) : D := if x = .n then .non else .tup [.int (day : Int), kD x, .tup ((told x bk day).map sD)]
def ListByOk (φ : Fn) : Prop := ∀ (p : List Ki) (bk : List (Nat × List Wo)) (day : Nat) (x : Ki) (S : Store), bk.length ≤ 40 → (∀ q ∈ bk, day < q.2.length ∧ q.2.length ≤ 1000) → p[day % p.length]? = some x → φ [.tup (p.map kD), .tup (bk.map pD), .int (day : Int)] S = .ok (listK x bk day) S
def mD (x : Ki) (day : Nat) (p : Nat × List Wo) : D := .tup [.int (p.1 : Int), owD (said x p.2 day)]
theorem told_filter (x : Ki) (day : Nat) : ∀ bk : List (Nat × List Wo), ((bk.map (mD x day)).filter fun d => match d with | .tup [_, .non] => false | _ => true) = (told x bk day).map sD
  | [] => rfl
  | q :: r => by
    have ih := told_filter x day r
    unfold told at ih ⊢
    rw [List.map_cons, List.filterMap_cons]
    cases h : said x q.2 day with
    | none =>
      rw [List.filter_cons_of_neg (by simp [mD, h, owD])]
      simpa using ih
    | some w =>
      have hm : mD x day q = sD (q.1, w) := by simp [mD, h, owD, sD]
      rw [List.filter_cons_of_pos (by rw [hm]; cases w <;> rfl), hm]
      simpa using ih
theorem listby_ok {φ ψ : Fn} (hφ : KindOfOk φ) (hψ : SaidOk ψ) : ListByOk (runB (bListBy φ ψ) 8) := by
  intro p bk day x S hb hr hx
  have hsz : sizeLine = 16777216 := sizeLine_eq
  have hl : (bk.map pD).length = bk.length := List.length_map ..
  have hp : p ≠ [] := by rintro rfl; cases hx
  have hx2 : p[((day : Int) % (p.length : Int)).toNat]? = some x := by
    have e : ((day : Int) % (p.length : Int)).toNat = day % p.length := by rw [← Int.natCast_emod]; exact Int.toNat_natCast _
    rw [e]; exact hx
  apply eq_of_sat
  rw [w_run]
  show (bListBy φ ψ [some (.tup (p.map kD)), some (.tup (bk.map pD)), some (.int day), none, none, none, none, none] S).sat _ _
  unfold bListBy
  rw [w_seqS, w_setS, w_callP]
  simp only [w_consA, w_var, w_nilA, List.getElem?_cons_zero, List.getElem?_cons_succ]
  rw [hφ p day x S (by omega) hx2, sat_ok]
  simp only [List.set_cons_zero, List.set_cons_succ]
  rw [w_seqS, w_ifS, w_tst, w_pB]
  simp only [w_var, w_cst, List.getElem?_cons_zero, List.getElem?_cons_succ, vw_nice (nice_k x), v_str, eq_kn, v_bl, t_bl]
  by_cases hn : x = .n
  · subst hn
    simp only [decide_true, if_true, w_retS, w_cst, listK]
    exact ⟨trivial, trivial⟩
  · rw [decide_eq_false hn]
    simp only [Bool.false_eq_true, if_false, w_nextS]
    have e := lcV_map (g := gTp 2 (gCs (gNm 5) (gCs (gNm 6) gNl))) (f := tupE (consA (var 5) (consA (callP ψ (consA (var 6) (consA (var 3) (consA (var 2) nilA)))) nilA))) (env := [some (.tup (p.map kD)), some (.tup (bk.map pD)), some (.int day), some (kD x), none, none, none, none])
      (fun d => match d with | .tup [.int i, .tup xs] => (match wsOf xs with | some ws => mD x day (i.toNat, ws) | none => .non) | _ => .non) (bk.map pD) [] S (fun d hd => by
        obtain ⟨q, hq, rfl⟩ := List.mem_map.mp hd
        obtain ⟨r1, r2⟩ := hr q hq
        apply eq_of_sat
        show (tupE (consA (var 5) (consA (callP ψ (consA (var 6) (consA (var 3) (consA (var 2) nilA)))) nilA)) [some (.tup (p.map kD)), some (.tup (bk.map pD)), some (.int day), some (kD x), none, some (.int (q.1 : Int)), some (.tup (q.2.map wd)), none] S).sat _
        get_elem_tactic_extensible
        rw [hψ q.2 x day S hn r1 r2, sat_ok]
        refine ⟨by simp only [List.length_cons, List.length_nil]; omega, ?_⟩
        simp only [pD, wsOf_map, mD, Int.toNat_natCast]
        exact ⟨trivial, trivial⟩) (by rw [List.length_nil]; omega)
    have e2 : (bk.map pD).map (fun d => match d with | .tup [.int i, .tup xs] => (match wsOf xs with | some ws => mD x day (i.toNat, ws) | none => .non) | _ => .non) = bk.map (mD x day) := by
      rw [List.map_map]
      apply List.map_congr_left
      intro q _
      simp [pD, wsOf_map]
    rw [e2] at e
    rw [w_seqS, w_setS, w_lcE, w_lcA, w_walk]
    simp only [w_var, List.getElem?_cons_zero, List.getElem?_cons_succ, wipeE, List.set_cons_zero, List.set_cons_succ]
    rw [lcL_valsI, e, sat_ok]
    simp only [List.set_cons_zero, List.set_cons_succ, List.nil_append]
    rw [w_retS, w_tupE, w_consA, w_var]
    simp only [List.getElem?_cons_zero, List.getElem?_cons_succ]
    rw [w_consA, w_var]
    simp only [List.getElem?_cons_zero, List.getElem?_cons_succ]
    rw [w_consA, w_pN, w_consA, w_lcE, w_lcA, w_walk, w_var]
    simp only [List.getElem?_cons_zero, List.getElem?_cons_succ, wipeE, List.set_cons_zero, List.set_cons_succ]
    have f := lcV_fm (g := gNm 7) (c := tst (pB nisDD (pB ixD (var 7) (cst (.int 1))) (cst .non))) (f := var 7) (env := [some (.tup (p.map kD)), some (.tup (bk.map pD)), some (.int day), some (kD x), some (.lst (bk.map (mD x day))), none, none, none]) id
      (fun d => match d with | .tup [_, .non] => false | _ => true) (bk.map (mD x day)) [] S (fun d hd => by
        obtain ⟨q, hq, rfl⟩ := List.mem_map.mp hd
        refine ⟨eq_of_sat ?_, fun _ => rfl⟩
        show (tst (pB nisDD (pB ixD (var 7) (cst (.int 1))) (cst .non)) [some (.tup (p.map kD)), some (.tup (bk.map pD)), some (.int day), some (kD x), some (.lst (bk.map (mD x day))), none, none, some (mD x day q)] S).sat _
        simp only [mD]
        get_elem_tactic_extensible
        simp only [ix_snd, vw_nice (nice_ow _)]
        cases said x q.2 day with
        | none => simp [owD, nisDD, nisND, isnon, vw, truD]
        | some w => cases w <;> simp [owD, wd, nisDD, nisND, isnon, vw, truD]) (by rw [List.length_nil, List.length_map]; omega)
    rw [lcL_valsI, f, sat_ok, w_nilA]
    simp only [List.map_cons, List.map_nil, List.nil_append, List.map_id, told_filter, v_lst, tupleD, w_nilA]
    refine ⟨by simp only [List.length_cons, List.length_nil]; omega, ?_⟩
    simp only [listK, hn, if_false]
    exact ⟨trivial, trivial⟩
/-- a list as it lies -/
def tdD (day : Nat) (x : Ki) (ps : List (Nat × Wo)) : D := .tup [.int (day : Int), kD x, .tup (ps.map sD)]
structure GoodTd (day : Nat) (x : Ki) (ps : List (Nat × Wo)) : Prop where
  day : day ≤ 60
  kind : x ≠ .n
  len : ps.length ≤ 40
  up : asc 0 ps
  no : ∀ p ∈ ps, p.2 ≠ .b
def IsListOk (φ : Fn) : Prop := ∀ (day : Nat) (x : Ki) (ps : List (Nat × Wo)) (S : Store), GoodTd day x ps → φ [tdD day x ps] S = .ok (.bl true) S
theorem okW_wd (w : Wo) : okW (wd w) = true := by unfold okW; rw [wOf_wd]; rfl
theorem islist_ok {φ ψ χ ω η : Fn} (hφ : TupOfOk φ) (hψ : BetweenOk ψ) (hχ : KindOk χ) (hω : PairOk ω) (hη : WordOk η) : IsListOk (runB (bIsList φ ψ χ ω η) 3) := by
  intro day x ps S hg
  have hsz : sizeLine = 16777216 := sizeLine_eq
  have hl : (ps.map sD).length = ps.length := List.length_map ..
  have hlen := hg.len
  have hday := hg.day
  apply eq_of_sat
  rw [w_run]
  show (bIsList φ ψ χ ω η [some (tdD day x ps), none, none] S).sat _ _
  unfold bIsList tdD
  rw [w_seqS, w_ifS, w_orT, w_notT, w_tst, w_callP]
  simp only [w_consA, w_var, w_cst, w_nilA, List.getElem?_cons_zero]
  rw [hφ, sat_ok]
  simp only [List.length_cons, List.length_nil, v_bl, t_bl]
  rw [decide_eq_true (show ((0 + 1 + 1 + 1 : Nat) : Int) = 3 by decide)]
  simp only [Bool.not_true, Bool.false_eq_true, if_false]
  rw [w_orT, w_notT, w_tst, w_callP]
  simp only [w_consA, w_pB, w_var, w_cst, w_nilA, List.getElem?_cons_zero, v_tup, v_int, ix_head]
  rw [hψ _ _ S rfl, sat_ok]
  have hb : btwB (.int (day : Int)) 0 60 = true := by simp only [btwB, Bool.and_eq_true, decide_eq_true_eq]; omega
  simp only [hb, v_bl, t_bl, Bool.not_true, Bool.false_eq_true, if_false]
  rw [w_notT, w_tst, w_callP]
  simp only [w_consA, w_pB, w_var, w_cst, w_nilA, List.getElem?_cons_zero, v_tup, v_int, ix_32]
  rw [hχ x S, sat_ok]
  simp only [v_bl, t_bl, Bool.not_true, Bool.false_eq_true, if_false, w_nextS]
  rw [w_seqS, w_ifS, w_orT, w_tst]
  simp only [w_pB, w_var, w_cst, List.getElem?_cons_zero, v_tup, v_int, v_str, ix_32, vw_nice (nice_k x), eq_kn, v_bl, t_bl]
  rw [decide_eq_false hg.kind]
  simp only [Bool.false_eq_true, if_false]
  rw [w_orT, w_notT, w_tst, w_pU]
  simp only [w_pB, w_var, w_cst, List.getElem?_cons_zero, v_tup, v_int, ix_3, c_isiT, v_bl, t_bl, Bool.not_true, Bool.false_eq_true, if_false]
  rw [w_tst]
  simp only [w_pB, w_pN, w_consA, w_nilA, w_var, w_cst, List.getElem?_cons_zero, v_tup, v_int, ix_3, List.map_cons, List.map_nil, lenD, c_gt, v_bl, t_bl]
  rw [decide_eq_false (show ¬ (40 : Int) < ((ps.map sD).length : Int) by omega)]
  simp only [Bool.false_eq_true, if_false, w_nextS]
  rw [w_seqS, w_setS, w_cst]
  simp only [List.set_cons_zero, List.set_cons_succ]
  rw [w_seqS, w_forS, w_walk]
  simp only [w_pB, w_var, w_cst, List.getElem?_cons_zero, v_tup, v_int, ix_3]
  rw [forL_valsI]
  have loop : ∀ (post : List (Nat × Wo)) (last : Nat) (y : Option D) (T : D) {N : SV → Store → Prop} {R : D → Store → Prop}, asc last post → (∀ p ∈ post, p.2 ≠ .b) → (∀ l y, N [some T, some (.int l), y] S) →
      (forV (gNm 2) (seqS (ifS (orT (notT (tst (callP ω (consA (var 2) nilA)))) (orT (notT (tst (callP ψ (consA (pB ixD (var 2) (cst (.int 0))) (consA (pB addD (var 1) (cst (.int 1))) (consA (cst (.int 999)) nilA)))))) (notT (tst (callP η (consA (pB ixD (var 2) (cst (.int 1))) nilA)))))) (retS (cst (.bl false))) nextS) (seqS (ifS (tst (pB eqDD (pB ixD (var 2) (cst (.int 1))) (cst (.str "blank")))) (retS (cst (.bl false))) nextS) (setS 1 (pB ixD (var 2) (cst (.int 0)))))) (post.map sD) [some T, some (.int last), y] S).sat N R := by
    intro post
    induction post with
    | nil => intro last y T N R _ _ h; exact h _ _
    | cons p post ih =>
      intro last y T N R ha hr hN
      obtain ⟨n, w⟩ := p
      have g1 := hr (n, w) List.mem_cons_self
      simp only at g1
      rw [List.map_cons, w_forV]
      simp only [gNm, List.set_cons_zero, List.set_cons_succ]
      rw [w_seqS, w_ifS]
      simp only [sD]
      get_elem_tactic_extensible
      rw [hω, sat_ok]
      simp only [v_bl, t_bl, Bool.not_true, Bool.false_eq_true, if_false, ix_head, c_add]
      rw [hψ _ _ S rfl, sat_ok]
      have hb : btwB (.int (n : Int)) ((last : Int) + 1) 999 = true := by
        have := ha.1
        have := ha.2.1
        simp only at this ha
        simp only [btwB, Bool.and_eq_true, decide_eq_true_eq]
        omega
      simp only [hb, v_bl, t_bl, Bool.not_true, Bool.false_eq_true, if_false, ix_snd]
      rw [hη S (nice_wd w), sat_ok]
      simp only [okW_wd, v_bl, t_bl, Bool.not_true, Bool.false_eq_true, if_false, vw_wd]
      rw [show D.str "blank" = wd .b from rfl, eq_wd, decide_eq_false g1]
      simp only [v_bl, t_bl, Bool.false_eq_true, if_false]
      exact ih n _ T ha.2.2 (fun p hp => hr p (List.mem_cons_of_mem _ hp)) hN
  refine loop ps 0 none _ hg.up hg.no fun l y => ?_
  exact ⟨rfl, rfl⟩
def SaysOfOk (φ : Fn) : Prop := ∀ (day : Nat) (x : Ki) (ps : List (Nat × Wo)) (n : Nat) (S : Store), ps.length ≤ 40 → φ [tdD day x ps, .int (n : Int)] S = .ok (owD (ps.lookup n)) S
theorem lookup_filter (n : Nat) : ∀ ps : List (Nat × Wo), ((ps.filter fun p => decide (p.1 = n)).map (·.2)).head? = ps.lookup n
  | [] => rfl
  | (m, w) :: r => by
    rw [List.lookup_cons]
    by_cases h : m = n
    · subst h
      simp
    · rw [List.filter_cons_of_neg (by simpa using h), lookup_filter n r]
      rw [show (n == m) = false by simpa using fun z : n = m => h z.symm]
theorem saysof_ok : SaysOfOk (runB bSaysOf 5) := by
  intro day x ps n S hlen
  have hsz : sizeLine = 16777216 := sizeLine_eq
  have hl : (ps.map sD).length = ps.length := List.length_map ..
  apply eq_of_sat
  rw [w_run]
  show (bSaysOf [some (tdD day x ps), some (.int n), none, none, none] S).sat _ _
  unfold bSaysOf tdD
  rw [w_seqS, w_setS, w_lcE, w_lcA, w_walk]
  simp only [w_pB, w_var, w_cst, List.getElem?_cons_zero, v_tup, v_int, ix_3, wipeE, List.set_cons_zero, List.set_cons_succ]
  have f := lcV_fm (g := gTp 2 (gCs (gNm 3) (gCs (gNm 4) gNl))) (c := tst (pB eqDD (var 3) (var 1))) (f := var 4) (env := [some (.tup [.int (day : Int), kD x, .tup (ps.map sD)]), some (.int n), none, none, none])
    (fun d => match d with | .tup [_, w] => w | _ => .non) (fun d => match d with | .tup [.int i, _] => decide (i = (n : Int)) | _ => false) (ps.map sD) [] S (fun d hd => by
      obtain ⟨q, hq, rfl⟩ := List.mem_map.mp hd
      refine ⟨eq_of_sat ?_, fun _ => rfl⟩
      show (tst (pB eqDD (var 3) (var 1)) [some (.tup [.int (day : Int), kD x, .tup (ps.map sD)]), some (.int n), none, some (.int (q.1 : Int)), some (wd q.2)] S).sat _
      get_elem_tactic_extensible
      simp only [sD]
      exact ⟨trivial, trivial⟩) (by rw [List.length_nil]; omega)
  rw [lcL_valsI, f, sat_ok]
  have e : ((ps.map sD).filter fun d => match d with | .tup [.int i, _] => decide (i = (n : Int)) | _ => false).map (fun d => match d with | .tup [_, w] => w | _ => D.non) = ((ps.filter fun p => decide (p.1 = n)).map (·.2)).map wd := by
    rw [List.filter_map, List.map_map, List.map_map]
    have : (fun p : Nat × Wo => decide (p.1 = n)) = ((fun d => match d with | D.tup [.int i, _] => decide (i = (n : Int)) | _ => false) ∘ sD) := by
      funext p
      simp only [Function.comp, sD, decide_eq_decide]
      omega
    rw [this]
    rfl
  rw [e]
  simp only [List.nil_append, List.set_cons_zero, List.set_cons_succ]
  have hlk := lookup_filter n ps
  generalize hfl : (ps.filter fun p => decide (p.1 = n)).map (·.2) = ws at hlk
  have hws : ws.length ≤ 40 := by
    rw [← hfl, List.length_map]
    exact Nat.le_trans (List.length_filter_le ..) hlen
  rw [w_retS, w_ifE, w_tst, w_pB]
  simp only [w_var, w_lstE, w_nilA, List.getElem?_cons_zero, List.getElem?_cons_succ, v_lst]
  refine ⟨Nat.zero_le _, ?_⟩
  have lays : ∀ ws : List Wo, lay 40 (.lst (ws.map wd)) = true := fun ws => by
    simp only [lay, List.all_map, List.all_eq_true]
    intro w _
    cases w <;> decide +kernel
  have hne : neD (.lst (ws.map wd)) (.lst []) = some (.bl (!ws.isEmpty)) := by
    unfold neD
    rw [lays ws, show lay 40 (.lst []) = true from rfl]
    simp only [Bool.and_self, if_true]
    cases ws with
    | nil => rfl
    | cons w r =>
      unfold deq
      simp [py, pyL, PyData.eqv, PyData.eqvAll]
  rw [hne]
  simp only [v_bl, t_bl]
  cases ws with
  | nil =>
    simp only [List.isEmpty_nil, Bool.not_true, Bool.false_eq_true, if_false, w_cst]
    simp only [List.head?_nil] at hlk
    rw [← hlk]
    exact ⟨rfl, trivial⟩
  | cons w r =>
    simp only [List.isEmpty_cons, Bool.not_false, if_true, w_pB, w_var, w_cst, List.getElem?_cons_zero, List.getElem?_cons_succ, v_lst, v_int]
    rw [ix_lst (x := wd w) (at_int (by decide) rfl)]
    simp only [List.head?_cons] at hlk
    rw [← hlk]
    exact ⟨rfl, trivial⟩
/-! checks, and the two at the front -/
def CkOk (φ : Fn) (d : D) : Prop := ∀ S : Store, φ [d] S = .ok .non S
theorem ck_pass {ψ : Fn} {d : D} {b : SF} (hb : b = ifS (notT (tst (callP ψ (consA (var 0) nilA)))) badS nextS) (h : ∀ S, ψ [d] S = .ok (.bl true) S) : CkOk (runB b 1) d := by
  intro S
  subst hb
  apply eq_of_sat
  rw [w_run]
  show (ifS (notT (tst (callP ψ (consA (var 0) nilA)))) badS nextS [some d] S).sat _ _
  get_elem_tactic_extensible
  rw [h S, sat_ok]
  simp [v_bl, t_bl]
theorem ckday_ok {ψ : Fn} (h : BetweenOk ψ) {day : Nat} (hd : day ≤ 60) : CkOk (runB (bCkDay ψ) 1) (.int (day : Int)) := by
  intro S
  apply eq_of_sat
  rw [w_run]
  show (bCkDay ψ [some (.int (day : Int))] S).sat _ _
  get_elem_tactic_extensible
  rw [h _ _ S rfl, sat_ok]
  have hb : btwB (.int (day : Int)) 0 60 = true := by simp only [btwB, Bool.and_eq_true, decide_eq_true_eq]; omega
  simp [hb, v_bl, t_bl]
theorem cknum_ok {ψ : Fn} (h : BetweenOk ψ) {n : Nat} (h1 : 1 ≤ n) (h2 : n ≤ 999) : CkOk (runB (bCkNum ψ) 1) (.int (n : Int)) := by
  intro S
  apply eq_of_sat
  rw [w_run]
  show (bCkNum ψ [some (.int (n : Int))] S).sat _ _
  get_elem_tactic_extensible
  rw [h _ _ S rfl, sat_ok]
  have hb : btwB (.int (n : Int)) 1 999 = true := by simp only [btwB, Bool.and_eq_true, decide_eq_true_eq]; omega
  simp [hb, v_bl, t_bl]
/-- list_of, where all is right -/
theorem listof_ok {φ ψ χ ω : Fn} {p : List Ki} {bk : List (Nat × List Wo)} {z day : Nat} {x : Ki} (h1 : CkOk φ (.tup (p.map kD))) (h2 : CkOk ψ (.tup (bk.map pD))) (h3 : CkOk χ (.int (day : Int))) (h4 : ListByOk ω)
    (hg : GoodBk bk z) (hd : day < z) (hx : p[day % p.length]? = some x) (S : Store) : runB (bListOf φ ψ χ ω) 3 [.tup (p.map kD), .tup (bk.map pD), .int (day : Int)] S = .ok (listK x bk day) S := by
  have hsz : sizeLine = 16777216 := sizeLine_eq
  have hz := hg.z1
  apply eq_of_sat
  rw [w_run]
  show (bListOf φ ψ χ ω [some (.tup (p.map kD)), some (.tup (bk.map pD)), some (.int day)] S).sat _ _
  unfold bListOf
  rw [w_seqS, w_dropS, w_callP]
  simp only [w_consA, w_var, w_nilA, List.getElem?_cons_zero, List.getElem?_cons_succ]
  rw [h1 S, sat_ok, w_seqS, w_dropS, w_callP]
  simp only [w_consA, w_var, w_nilA, List.getElem?_cons_zero, List.getElem?_cons_succ]
  rw [h2 S, sat_ok, w_seqS, w_dropS, w_callP]
  simp only [w_consA, w_var, w_nilA, List.getElem?_cons_zero, List.getElem?_cons_succ]
  rw [h3 S, sat_ok, w_seqS, w_ifS, w_andT, w_tst, w_pB]
  simp only [w_tupE, w_var, w_nilA, List.getElem?_cons_zero, List.getElem?_cons_succ, v_tup]
  refine ⟨Nat.zero_le _, ?_⟩
  have lays : ∀ bk : List (Nat × List Wo), lay 40 (.tup (bk.map pD)) = true := fun bk => by
    simp only [lay, List.all_map, List.all_eq_true]
    intro q _
    simp only [Function.comp, pD, lay, List.all_cons, List.all_nil, Bool.and_true, Bool.true_and, List.all_map, List.all_eq_true]
    intro w _
    cases w <;> decide +kernel
  have hne : neD (.tup (bk.map pD)) (.tup []) = some (.bl (!bk.isEmpty)) := by
    unfold neD
    rw [lays bk, show lay 40 (.tup []) = true from rfl]
    simp only [Bool.and_self, if_true]
    cases bk with
    | nil => rfl
    | cons w r =>
      unfold deq
      simp [py, pyL, PyData.eqv, PyData.eqvAll]
  rw [hne]
  simp only [v_bl, t_bl]
  have tail : (retS (callP ω (consA (var 0) (consA (var 1) (consA (var 2) nilA)))) [some (.tup (p.map kD)), some (.tup (bk.map pD)), some (.int day)] S).sat (fun _ S' => D.non = listK x bk day ∧ S' = S) (fun a S' => a = listK x bk day ∧ S' = S) := by
    rw [w_retS, w_callP]
    simp only [w_consA, w_var, w_nilA, List.getElem?_cons_zero, List.getElem?_cons_succ]
    rw [h4 p bk day x S hg.len (fun q hq => by have := (hg.rows q hq).2; omega) hx]
    exact ⟨rfl, rfl⟩
  cases bk with
  | nil =>
    simp only [List.isEmpty_nil, Bool.not_true, Bool.false_eq_true, if_false, w_nextS]
    exact tail
  | cons q r =>
    have hq := (hg.rows q List.mem_cons_self).2
    simp only [List.isEmpty_cons, Bool.not_false, if_true]
    rw [w_tst, w_pB]
    simp only [w_pN, w_consA, w_pB, w_var, w_cst, w_nilA, List.getElem?_cons_zero, List.getElem?_cons_succ, v_tup, v_int, List.map_cons, List.map_nil, ix_head, pD, ix_snd, lenD, c_ge, List.length_map, hq, v_bl, t_bl]
    rw [decide_eq_false (show ¬ (z : Int) ≤ (day : Int) by omega)]
    simp only [Bool.false_eq_true, if_false, w_nextS]
    exact tail
/-- says, where all is right -/
theorem says_ok {φ ψ χ : Fn} {day n : Nat} {x : Ki} {ps : List (Nat × Wo)} (h1 : CkOk φ (tdD day x ps)) (h2 : CkOk ψ (.int (n : Int))) (h3 : SaysOfOk χ) (hl : ps.length ≤ 40) (S : Store) : runB (bSays φ ψ χ) 2 [tdD day x ps, .int (n : Int)] S = .ok (owD (ps.lookup n)) S := by
  apply eq_of_sat
  rw [w_run]
  show (bSays φ ψ χ [some (tdD day x ps), some (.int n)] S).sat _ _
  unfold bSays
  rw [w_seqS, w_dropS, w_callP]
  simp only [w_consA, w_var, w_nilA, List.getElem?_cons_zero, List.getElem?_cons_succ]
  rw [h1 S, sat_ok, w_seqS, w_dropS, w_callP]
  simp only [w_consA, w_var, w_nilA, List.getElem?_cons_zero, List.getElem?_cons_succ]
  rw [h2 S, sat_ok, w_retS, w_callP]
  simp only [w_consA, w_var, w_nilA, List.getElem?_cons_zero, List.getElem?_cons_succ]
  rw [h3 day x ps n S hl]
  exact ⟨rfl, rfl⟩
end Lt
set_option maxRecDepth 100000
set_option maxHeartbeats 4000000
/-! How long, and how clean, a shown thing is. -/
namespace Lt
open PySem PySem.Spec PyProof.Rows L2
theorem ok_append {a b : Str} (ha : PyData.strOk a = true) (hb : PyData.strOk b = true) : PyData.strOk (a ++ b) = true := by
  unfold PyData.strOk at *
  show Array.all (a.cps ++ b.cps) _ = true
  rw [Array.all_append, ha, hb]; rfl
theorem ok_join {sep : Str} (hs : PyData.strOk sep = true) : ∀ {ts : List Str}, (∀ t ∈ ts, PyData.strOk t = true) → PyData.strOk (Str.join sep ts) = true
  | [], _ => by show PyData.strOk Str.empty = true; decide +kernel
  | [t], h => h t List.mem_cons_self
  | t :: t2 :: ts, h => by
    show PyData.strOk (t ++ sep ++ Str.join sep (t2 :: ts)) = true
    exact ok_append (ok_append (h t List.mem_cons_self) hs) (ok_join hs fun x hx => h x (List.mem_cons_of_mem _ hx))
theorem ok_from : ∀ {ts : List Str} (k : Nat) {acc : Str}, PyData.strOk acc = true → (∀ t ∈ ts, PyData.strOk t = true) → PyData.strOk (textFrom k acc ts) = true
  | [], k, acc, ha, _ => ha
  | t :: ts, k, acc, ha, h => by
    show PyData.strOk (textFrom (k + 1) (acc ++ Str.ofString (if k > 0 then ", " else "") ++ t) ts) = true
    refine ok_from (k + 1) (ok_append (ok_append ha ?_) (h t List.mem_cons_self)) fun x hx => h x (List.mem_cons_of_mem _ hx)
    split <;> decide +kernel
theorem nums_ok : ((List.range 1000).all fun i => PyData.strOk (PyData.int (i : Int)).shown && decide ((PyData.int (i : Int)).shown.length ≤ 8) && decide ((PyData.int (i : Int)).weight ≤ 10)) = true := by kernel_rfl
/-- leaves whose text is short and clean -/
def lf : D → Bool
  | .non => true
  | .bl _ => true
  | .int i => decide (0 ≤ i) && decide (i < 1000)
  | .str x => x == "blank" || x == "good" || x == "lost" || x == "ended" || x == "whole" || x == "none"
  | _ => false
def tm : Nat → D → Bool
  | n + 1, .tup xs => xs.all (tm n)
  | n + 1, .lst xs => xs.all (tm n)
  | _, d => lf d
theorem int_num {i : Int} (h : lf (.int i) = true) : PyData.strOk (PyData.int i).shown = true ∧ (PyData.int i).shown.length ≤ 8 ∧ (PyData.int i).weight ≤ 10 := by
  simp only [lf, Bool.and_eq_true, decide_eq_true_eq] at h
  obtain ⟨n, rfl⟩ : ∃ n : Nat, i = (n : Int) := ⟨i.toNat, by omega⟩
  have := List.all_eq_true.mp nums_ok n (by simp; omega)
  simp only [Bool.and_eq_true, decide_eq_true_eq] at this
  exact ⟨this.1.1, this.1.2, this.2⟩
theorem str_six {x : Str} (h : lf (.str x) = true) : x = "blank" ∨ x = "good" ∨ x = "lost" ∨ x = "ended" ∨ x = "whole" ∨ x = "none" := by
  simp only [lf, Bool.or_eq_true, beq_iff_eq] at h
  rcases h with ((((h | h) | h) | h) | h) | h
  · exact .inl h
  · exact .inr (.inl h)
  · exact .inr (.inr (.inl h))
  · exact .inr (.inr (.inr (.inl h)))
  · exact .inr (.inr (.inr (.inr (.inl h))))
  · exact .inr (.inr (.inr (.inr (.inr h))))
def okP (p : PyData) : Bool := PyData.strOk p.shown && p.leavesShort 8 && p.showable && decide (p.weight ≤ 40)
theorem lf_ok {d : D} (h : lf d = true) : PyData.strOk (py d).shown = true ∧ (py d).leavesShort 8 = true ∧ (py d).showable = true ∧ (py d).weight ≤ 40 := by
  have fin : okP (py d) = true → _ := fun z => by
    unfold okP at z
    simp only [Bool.and_eq_true, decide_eq_true_eq] at z
    exact (⟨z.1.1.1, z.1.1.2, z.1.2, z.2⟩ : PyData.strOk (py d).shown = true ∧ (py d).leavesShort 8 = true ∧ (py d).showable = true ∧ (py d).weight ≤ 40)
  cases d with
  | non => exact fin (by kernel_rfl)
  | bl b => cases b <;> exact fin (by kernel_rfl)
  | int i =>
    obtain ⟨h1, h2, h3⟩ := int_num h
    refine ⟨h1, ?_, ?_, by show (PyData.int i).weight ≤ 40; omega⟩
    · show decide ((PyData.int i).shown.length ≤ 8) = true
      exact decide_eq_true h2
    · simp only [lf, Bool.and_eq_true, decide_eq_true_eq] at h
      show decide (Nat.log2 i.natAbs < 1920) = true
      refine decide_eq_true ?_
      have : i.natAbs < 2 ^ 10 := by omega
      by_cases h0 : i.natAbs = 0
      · rw [h0]; decide
      · have := (Nat.log2_lt h0).mpr this
        omega
  | str x =>
    rcases str_six h with rfl | rfl | rfl | rfl | rfl | rfl <;> exact fin (by kernel_rfl)
  | _ => cases h
def wt : Nat → D → Nat
  | n + 1, .tup xs => (xs.map fun x => wt n x + 1).sum
  | n + 1, .lst xs => (xs.map fun x => wt n x + 1).sum
  | _, _ => 40
structure TmOk (n : Nat) (d : D) : Prop where
  ok : PyData.strOk (py d).shown = true
  lv : (py d).leavesShort 8 = true
  sh : (py d).showable = true
  shp : shp n d = true
  w : (py d).weight ≤ wt n d
theorem tm_leaf {n : Nat} {d : D} (h : lf d = true) (hw : wt n d = 40) : TmOk n d := by
  obtain ⟨h1, h2, h3, h4⟩ := lf_ok h
  refine ⟨h1, h2, h3, ?_, by rw [hw]; exact h4⟩
  cases d <;> first | (cases h; done) | (cases n <;> rfl)
theorem tm_all {n : Nat} (ih : ∀ d, tm n d = true → TmOk n d) : ∀ {xs : List D}, xs.all (tm n) = true →
    (∀ t ∈ PyData.shownAll (pyL xs), PyData.strOk t = true) ∧ PyData.leavesShortAll 8 (pyL xs) = true ∧ PyData.showableAll (pyL xs) = true ∧ xs.all (shp n) = true ∧ PyData.weightAll (pyL xs) ≤ (xs.map fun x => wt n x + 1).sum
  | [], _ => by
    refine ⟨fun t ht => ?_, ?_, ?_, rfl, ?_⟩
    · simp [pyL, PyData.shownAll] at ht
    · simp [pyL, PyData.leavesShortAll]
    · simp [pyL, PyData.showableAll]
    · simp [pyL, PyData.weightAll]
  | x :: xs, h => by
    rw [List.all_cons, Bool.and_eq_true] at h
    have a := ih x h.1
    obtain ⟨b1, b2, b3, b4, b5⟩ := tm_all ih h.2
    refine ⟨fun t ht => ?_, ?_, ?_, ?_, ?_⟩
    · simp only [pyL, PyData.shownAll, List.mem_cons] at ht
      rcases ht with rfl | ht
      · exact a.ok
      · exact b1 t ht
    · simp [pyL, PyData.leavesShortAll, a.lv, b2]
    · simp [pyL, PyData.showableAll, a.sh, b3]
    · rw [List.all_cons, a.shp, b4]; rfl
    · simp only [pyL, PyData.weightAll, List.map_cons, List.sum_cons]
      have := a.w
      omega
theorem tm_ok : ∀ (n : Nat) (d : D), tm n d = true → TmOk n d
  | 0, d, h => tm_leaf (by cases d <;> exact h) rfl
  | n + 1, d, h => by
    have ih := tm_ok n
    cases d with
    | tup xs =>
      obtain ⟨b1, b2, b3, b4, b5⟩ := tm_all ih (xs := xs) h
      refine ⟨?_, ?_, ?_, b4, ?_⟩
      · simp only [py, PyData.shown, tupleText]
        refine ok_append (ok_append (by decide +kernel) (ok_join (by decide +kernel) b1)) ?_
        split <;> decide +kernel
      · simpa [py, PyData.leavesShort] using b2
      · simpa [py, PyData.showable] using b3
      · simpa [py, PyData.weight, wt] using b5
    | lst xs =>
      obtain ⟨b1, b2, b3, b4, b5⟩ := tm_all ih (xs := xs) h
      refine ⟨?_, ?_, ?_, b4, ?_⟩
      · simp only [py, PyData.shown, listText]
        exact ok_append (ok_from 0 (by decide +kernel) b1) (by decide +kernel)
      · simpa [py, PyData.leavesShort] using b2
      · simpa [py, PyData.showable] using b3
      · simpa [py, PyData.weight, wt] using b5
    | non => exact tm_leaf rfl rfl
    | bl b => exact tm_leaf rfl rfl
    | int i => exact tm_leaf h rfl
    | str x => exact tm_leaf h rfl
    | _ => cases h
theorem shp_up : ∀ {n : Nat} {d : D}, shp n d = true → shp (n + 1) d = true := by
  intro n
  induction n with
  | zero =>
    intro d h
    cases d <;> first | rfl | (simp [shp] at h)
  | succ n ih =>
    intro d h
    cases d with
    | tup xs =>
      simp only [shp, List.all_eq_true] at h ⊢
      exact fun x hx => ih (h x hx)
    | lst xs =>
      simp only [shp, List.all_eq_true] at h ⊢
      exact fun x hx => ih (h x hx)
    | _ => first | rfl | (simp [shp] at h)
theorem shp_40 {n : Nat} {d : D} (hn : n ≤ 40) (h : shp n d = true) : shp 40 d = true := by
  obtain ⟨k, e⟩ : ∃ k, 40 = n + k := ⟨40 - n, by omega⟩
  rw [e]
  clear e
  induction k with
  | zero => exact h
  | succ k ih => exact shp_up ih
/-- a tame thing can be shown -/
theorem rep_tm {n : Nat} {d : D} (hn : n ≤ 40) (h : tm n d = true) (hw : wt n d ≤ 1000000) : reprD [d] = some (.str (py d).shown) ∧ PyData.strOk (py d).shown = true := by
  have o := tm_ok n d h
  have hsz : sizeLine = 16777216 := sizeLine_eq
  have hl := PyData.shown_le 8 (by decide) (py d) o.lv
  have := o.w
  refine ⟨?_, o.ok⟩
  show (if (shp 40 d && (py d).showable && decide ((py d).shown.length ≤ sizeLine)) = true then some (D.str (py d).shown) else none) = _
  rw [if_pos]
  rw [shp_40 hn o.shp, o.sh]
  simp only [Bool.and_self, Bool.true_and, decide_eq_true_eq]
  omega
/-- the law's own look at one thing twice -/
theorem same_tm {φ : Fn} (hφ : SameOk φ) {n : Nat} {d : D} (hn : n ≤ 40) (h : tm n d = true) (hw : wt n d ≤ 1000000) (hd : nice d = true) (S : Store) : φ [d, d] S = .ok (.bl true) S := by
  obtain ⟨h1, h2⟩ := rep_tm hn h hw
  rw [hφ S hd hd h1 h1 h2 h2]
  simp
end Lt
set_option maxRecDepth 100000
set_option maxHeartbeats 4000000
/-! Plans, books, lists as the laws draw and make them. -/
namespace Lt
open PySem PySem.Spec PyProof.Rows L2
local macro_rules | `(tactic| get_elem_tactic_extensible) => `(tactic| simp only [w_var, w_cst, w_pU, w_pB, w_nilA, w_consA, w_pN, w_tupE, w_lstE, w_lstM, w_tst, w_notT, w_andT, w_orT, w_ifE, w_andE, w_orE, w_notE, w_callP, w_callE, w_appA, w_chE, w_prs_nil, w_prs_cons, w_dicE, w_get2E, w_kixE, w_noP, w_soP, w_sliceE, w_nextS, w_badS, w_seqS, w_setS, w_asgS, w_par2, w_par3, w_dropS, w_retS, w_retN, w_brkS, w_cntS, w_ifS, w_forS, w_walk, w_rng1, w_rng2, w_zipI, w_lcE, w_lcA, forL_valsI, lcL_valsI, sat_ok, sat_bad, sat_exc, List.getElem?_cons_zero, List.getElem?_cons_succ, List.set_cons_zero, List.set_cons_succ, List.map_cons, List.map_nil, v_non, v_bl, v_int, v_str, v_tup, v_lst, v_scr, v_dic, t_non, t_bl, t_int, t_tup, t_lst, c_lt, c_le, c_gt, c_ge, c_add, c_sub, c_neg, c_eqI, c_eqE, c_isiT, Option.map_some, if_true, if_false, Bool.not_true, Bool.not_false, Bool.false_eq_true, wipeE, reduceIte])
abbrev bPlan (φ ψ : Fn) : SF :=
  seqS (setS 1 (lstM nilA)) (seqS (forS (rng1 (pB addD (cst (.int 1)) (callP φ (consA (var 0) (consA (cst (.int 4)) nilA))))) (gNm 2) (dropS (appE (var 1) (callP ψ (consA (var 0) (consA (tupE (consA (cst (.str "whole")) (consA (cst (.int 1)) (consA (cst (.int 2)) (consA (cst (.str "none")) (consA (cst (.int 1)) (consA (cst (.int 2)) nilA))))))) nilA)))))) (retS (pN tupleD (consA (var 1) nilA))))
abbrev bLSaid : SF :=
  seqS (ifS (tst (pB eqDD (var 0) (cst (.str "whole")))) (retS (ifE (tst (pB eqDD (pB ixD (var 1) (var 2)) (cst (.str "blank")))) (cst .non) (pB ixD (var 1) (var 2)))) nextS) (seqS (setS 3 (sliceE (var 1) (soP (pN max2D (consA (cst (.int 0)) (consA (pB subD (var 2) (var 0)) nilA)))) (soP (pB addD (var 2) (cst (.int 1)))))) (retS (ifE (tst (pB eqDD (var 3) (pB mulDD (sliceE (var 3) noP (soP (cst (.int 1)))) (pN lenD (consA (var 3) nilA))))) (cst .non) (pB ixD (var 1) (var 2)))))
abbrev bLBook (φ ψ : Fn) : SF :=
  seqS (par2 3 4 (lstM nilA) (cst (.int 0))) (seqS (forS (rng1 (var 1)) (gNm 5) (seqS (setS 4 (pB addD (pB addD (var 4) (cst (.int 1))) (callP φ (consA (var 0) (consA (ifE (tst (pB gtD (callP φ (consA (var 0) (consA (cst (.int 3)) nilA))) (cst (.int 0)))) (cst (.int 3)) (cst (.int 20))) nilA))))) (dropS (appE (var 3) (tupE (consA (var 4) (consA (callP ψ (consA (var 0) (consA (var 2) nilA))) nilA))))))) (retS (pN tupleD (consA (var 3) nilA))))
abbrev bLList (φ : Fn) : SF :=
  seqS (par2 3 4 (pB ixD (var 0) (pB modD (pN intD (consA (var 2) nilA)) (pN lenD (consA (var 0) nilA)))) (lstM nilA)) (seqS (ifS (tst (pB eqDD (var 3) (cst (.str "none")))) (retS (cst .non)) nextS) (seqS (forS (walk (var 1)) (gTp 2 (gCs (gNm 5) (gCs (gNm 6) gNl))) (seqS (setS 7 (callP φ (consA (var 3) (consA (var 6) (consA (var 2) nilA))))) (ifS (tst (pB nisDD (var 7) (cst .non))) (dropS (appE (var 4) (tupE (consA (var 5) (consA (var 7) nilA))))) nextS))) (retS (tupE (consA (var 2) (consA (var 3) (consA (pN tupleD (consA (var 4) nilA)) nilA)))))))
/-- only new cells -/
def Ke (S S' : Store) : Prop := (∀ j, j < S.length → S'[j]? = S[j]?) ∧ S.length ≤ S'.length
theorem Ke.refl (S : Store) : Ke S S := ⟨fun _ _ => rfl, Nat.le_refl _⟩
theorem Dr.lt {S : Store} {n : Nat} (h : Dr S n) : n < S.length := by
  obtain ⟨_, _, _, hS, _⟩ := h
  exact (List.getElem?_eq_some_iff.mp hS).1
theorem Ke.dr {S S' : Store} {n : Nat} (k : Ke S S') (h : Dr S n) : Dr S' n := by
  have hl := h.lt
  obtain ⟨f, s, t, hS, hs⟩ := h
  exact ⟨f, s, t, by rw [k.1 n hl]; exact hS, hs⟩
theorem Ke.o {S S' : Store} (k : Ke S S') (n : Nat) : Ko S S' n := ⟨fun j h _ => k.1 j h, k.2⟩
theorem dr_app {S : Store} {n : Nat} (h : Dr S n) (c : Cell) : Dr (S ++ [c]) n := by
  have hl := h.lt
  obtain ⟨f, s, t, hS, hs⟩ := h
  exact ⟨f, s, t, by rw [List.getElem?_append_left hl]; exact hS, hs⟩
theorem dr_set {S : Store} {n m : Nat} (h : Dr S n) (hm : m ≠ n) (c : Cell) : Dr (S.set m c) n := by
  obtain ⟨f, s, t, hS, hs⟩ := h
  exact ⟨f, s, t, by rw [List.getElem?_set_ne hm]; exact hS, hs⟩
/-! plans -/
def PlanOk (φ : Fn) : Prop := ∀ {S : Store} {n : Nat}, Dr S n → (φ [.ref n] S).sat fun d S' => (∃ p : List Ki, d = .tup (p.map kD) ∧ 1 ≤ p.length ∧ p.length ≤ 4) ∧ Dr S' n ∧ Ko S S' n
theorem plans_tup (env : SV) (S : Store) : (tupE (consA (cst (.str "whole")) (consA (cst (.int 1)) (consA (cst (.int 2)) (consA (cst (.str "none")) (consA (cst (.int 1)) (consA (cst (.int 2)) nilA)))))) env S) = .ok (.tup ([Ki.w, .a, .b, .n, .a, .b].map kD)) S := by kernel_rfl
theorem plan_ok {φ ψ : Fn} (hφ : TakeOk φ) (hψ : PickOk ψ) : PlanOk (runB (bPlan φ ψ) 3) := by
  intro S n h
  have hsz : sizeLine = 16777216 := sizeLine_eq
  have hn := h.lt
  rw [w_run]
  show (bPlan φ ψ [some (.ref n), none, none] S).sat _ _
  unfold bPlan
  rw [w_seqS, w_setS, w_lstM, w_nilA]
  refine ⟨Nat.zero_le _, ?_⟩
  simp only [List.set_cons_zero, List.set_cons_succ]
  have h1 := dr_app h (.lst [])
  rw [w_seqS, w_forS, w_rng1, w_pB, w_cst, w_callP]
  simp only [w_consA, w_var, w_cst, w_nilA, List.getElem?_cons_zero]
  refine (hφ h1 (by decide) (by decide)).mono fun y S1 ⟨⟨r, er, r0, r1⟩, hd1, hk1⟩ => ?_
  subst er
  simp only [v_int, c_add]
  refine ⟨by unfold big; rw [Bool.and_eq_true, decide_eq_true_eq, decide_eq_true_eq]; omega, ?_⟩
  unfold rngI
  rw [forL_valsI]
  have hmn : S.length ≠ n := by omega
  have l1 : S1.length = S.length + 1 := by rw [hk1.2]; simp
  have c1 : S1[S.length]? = some (.lst (([] : List Ki).map kD)) := by
    rw [hk1.1 _ hmn, List.getElem?_append_right (Nat.le_refl _), Nat.sub_self]; rfl
  have f1 : ∀ j, j < S.length → j ≠ n → S1[j]? = S[j]? := fun j hj hjn => by rw [hk1.1 j hjn, List.getElem?_append_left hj]
  let J : List D → SV → Store → Prop := fun pre e S' => (∃ x, e = [some (.ref n), some (.ref S.length), x]) ∧ Dr S' n ∧ (∀ j, j < S.length → j ≠ n → S'[j]? = S[j]?) ∧ S'.length = S.length + 1 ∧ ∃ p : List Ki, S'[S.length]? = some (.lst (p.map kD)) ∧ p.length = pre.length
  refine forV_inv J (xs := (List.range (1 + r).toNat).map fun (i : Nat) => D.int (0 + (i : Int))) (fun pre d post env S' e j => ?_) (fun env S' j => ?_) [] _ _ S1 rfl ⟨⟨none, rfl⟩, hd1, f1, l1, [], c1, rfl⟩
  · obtain ⟨⟨x, rfl⟩, hd, hf, hl, p, hc, hp⟩ := j
    have hpre : pre.length < 4 := by
      have := congrArg List.length e
      simp at this
      omega
    simp only [gNm, List.set_cons_zero, List.set_cons_succ]
    rw [w_dropS, w_appE, w_var]
    simp only [List.getElem?_cons_zero, List.getElem?_cons_succ, cell_of hc]
    rw [w_callP, w_consA, w_var]
    simp only [List.getElem?_cons_zero]
    rw [w_consA, w_at (plans_tup _ _), w_nilA]
    refine (hψ hd (by simp) (by simp)).mono fun y S2 ⟨hy, hd2, hk2⟩ => ?_
    obtain ⟨x, _, rfl⟩ := List.mem_map.mp hy
    have hc2 : S2[S.length]? = some (.lst (p.map kD)) := by rw [hk2.1 _ hmn]; exact hc
    simp only [cell_of hc2]
    refine ⟨by rw [List.length_map]; omega, ⟨_, rfl⟩, dr_set hd2 hmn _, fun j hj hjn => ?_, by rw [List.length_set, hk2.2, hl], p ++ [x], ?_, by simp [hp]⟩
    · rw [List.getElem?_set_ne (by omega), hk2.1 j hjn]
      exact hf j hj hjn
    · rw [set_get hc2]; simp
  · obtain ⟨⟨x, rfl⟩, hd, hf, hl, p, hc, hp⟩ := j
    rw [w_retS, w_pN, w_consA, w_var]
    simp only [List.getElem?_cons_zero, List.getElem?_cons_succ, w_nilA, List.map_cons, List.map_nil]
    rw [v_ref hc]
    simp only [tupleD]
    refine ⟨⟨p, rfl, ?_, ?_⟩, hd, hf, by omega⟩
    · rw [hp]; simp; omega
    · rw [hp]; simp; omega
end Lt
set_option maxRecDepth 100000
set_option maxHeartbeats 4000000
/-! Straight evaluation: what stands in a text is found by its form. -/
namespace Lt
open PySem PySem.Spec PyProof.Rows L2
abbrev RE (f : EF) (env : SV) (S : Store) (d : D) : Prop := f env S = .ok d S
abbrev RT (t : TF) (env : SV) (S : Store) (b : Bool) : Prop := t env S = .ok b S
abbrev RA (x : AF) (env : SV) (S : Store) (ds : List D) : Prop := x env S = .ok ds S
section
variable {f g h : EF} {t u : TF} {x y : AF} {env : SV} {S : Store} {a b c d r a' b' : D} {ds : List D} {p q : Bool}
theorem re_var {i : Nat} (e : env[i]? = some (some d)) : RE (var i) env S d := by show var i env S = _; unfold var; rw [e]
theorem re_cst : RE (cst d) env S d := rfl
theorem re_pU {go : D → Option D} (h1 : RE f env S a) (h2 : vw S a = a') (h3 : go a' = some r) : RE (pU go f) env S r := by
  show pU go f env S = _; unfold pU; rw [h1]; show opt (go (vw S a)) S = _; rw [h2, h3]; rfl
theorem re_pB {go : D → D → Option D} (h1 : RE f env S a) (k1 : RE g env S b) (h2 : vw S a = a') (k2 : vw S b = b') (h3 : go a' b' = some r) : RE (pB go f g) env S r := by
  show pB go f g env S = _; unfold pB; rw [h1]; show ((g env S).bind fun b S2 => opt (go (vw S2 a) (vw S2 b)) S2) = _; rw [k1]; show opt (go (vw S a) (vw S b)) S = _; rw [h2, k2, h3]; rfl
theorem ra_nil : RA nilA env S [] := rfl
theorem ra_cons (h1 : RE f env S a) (h2 : RA x env S ds) : RA (consA f x) env S (a :: ds) := by
  show consA f x env S = _; unfold consA; rw [h1]; show ((x env S).bind fun b S2 => Res.ok (a :: b) S2) = _; rw [h2]
theorem re_pN1 {go : List D → Option D} (h1 : RE f env S a) (h2 : vw S a = a') (h3 : go [a'] = some r) : RE (pN go (consA f nilA)) env S r := by
  show pN go (consA f nilA) env S = _; unfold pN; rw [ra_cons h1 ra_nil]; show opt (go [vw S a]) S = _; rw [h2, h3]; rfl
theorem re_pN2 {go : List D → Option D} (h1 : RE f env S a) (k1 : RE g env S b) (h2 : vw S a = a') (k2 : vw S b = b') (h3 : go [a', b'] = some r) : RE (pN go (consA f (consA g nilA))) env S r := by
  show pN go _ env S = _; unfold pN; rw [ra_cons h1 (ra_cons k1 ra_nil)]; show opt (go [vw S a, vw S b]) S = _; rw [h2, k2, h3]; rfl
theorem small_line {n : Nat} (h : n ≤ 100000) : n ≤ sizeLine := by have := sizeLine_eq; omega
theorem re_tup (h1 : RA x env S ds) (h2 : ds.length ≤ 100000) : RE (tupE x) env S (.tup ds) := by
  show tupE x env S = _; unfold tupE; rw [h1]; show (if ds.length ≤ sizeLine then Res.ok (D.tup ds) S else .bad) = _; rw [if_pos (small_line h2)]
theorem re_lst (h1 : RA x env S ds) (h2 : ds.length ≤ 100000) : RE (lstE x) env S (.lst ds) := by
  show lstE x env S = _; unfold lstE; rw [h1]; show (if ds.length ≤ sizeLine then Res.ok (D.lst ds) S else .bad) = _; rw [if_pos (small_line h2)]
theorem re_call {φ : Fn} (h1 : RA x env S ds) (h2 : φ ds S = .ok d S) : RE (callP φ x) env S d := by
  show callP φ x env S = _; unfold callP; rw [h1]; exact h2
theorem ra_app {es : List D} (h1 : RA x env S ds) (h2 : RA y env S es) : RA (appA x y) env S (ds ++ es) := by
  show appA x y env S = _; unfold appA; rw [h1]; show ((y env S).bind fun b S2 => Res.ok (ds ++ b) S2) = _; rw [h2]
theorem re_callE {φ : Fn} {π : List Nat} (h1 : RA x env S ds) (h2 : φ (permL π ds) S = .ok d S) : RE (callE φ π x) env S d := by
  show callE φ π x env S = _; unfold callE; rw [h1]; exact h2
theorem rt_tst (h1 : RE f env S a) (h2 : vw S a = a') (h3 : truD a' = some p) : RT (tst f) env S p := by
  show tst f env S = _; unfold tst; rw [h1]; show (match truD (vw S a) with | some b => Res.ok b S | none => .bad) = _; rw [h2, h3]
theorem rt_yes : RT yesT env S true := rfl
theorem rt_not (h1 : RT t env S p) : RT (notT t) env S (!p) := by show notT t env S = _; unfold notT; rw [h1]
theorem rt_and (h1 : RT t env S p) (h2 : p = true → RT u env S q) : RT (andT t u) env S (p && q) := by
  show andT t u env S = _; unfold andT; rw [h1]; cases p with
  | false => rfl
  | true => exact h2 rfl
theorem rt_or (h1 : RT t env S p) (h2 : p = false → RT u env S q) : RT (orT t u) env S (p || q) := by
  show orT t u env S = _; unfold orT; rw [h1]; cases p with
  | true => rfl
  | false => exact h2 rfl
theorem re_and (h1 : RE f env S (.bl p)) (h2 : p = true → RE g env S (.bl q)) : RE (andE f g) env S (.bl (p && q)) := by
  show andE f g env S = _; unfold andE; rw [h1]; cases p with
  | false => rfl
  | true => exact h2 rfl
theorem re_or (h1 : RE f env S (.bl p)) (h2 : p = false → RE g env S (.bl q)) : RE (orE f g) env S (.bl (p || q)) := by
  show orE f g env S = _; unfold orE; rw [h1]; cases p with
  | true => rfl
  | false => exact h2 rfl
theorem re_not (h1 : RE f env S a) (h2 : vw S a = a') (h3 : truD a' = some p) : RE (notE f) env S (.bl !p) := by
  show notE f env S = _; unfold notE; rw [h1]; show (match truD (vw S a) with | some b => Res.ok (D.bl !b) S | none => .bad) = _; rw [h2, h3]
theorem re_if (h1 : RT t env S p) (h2 : p = true → RE f env S a) (h3 : p = false → RE g env S b) : RE (ifE t f g) env S (if p = true then a else b) := by
  show ifE t f g env S = _; unfold ifE; rw [h1]; cases p with
  | true => exact h2 rfl
  | false => exact h3 rfl
theorem re_ch {i j k : Int} {P Q : Int → Int → Bool} (h1 : RE f env S (.int i)) (h2 : RE g env S (.int j)) (h3 : RE h env S (.int k)) : RE (chE (cmpD P) (cmpD Q) f g h) env S (.bl (P i j && Q j k)) := by
  show chE _ _ f g h env S = _; unfold chE; rw [h1]; show ((g env S).bind fun b S2 => _) = _; rw [h2]
  show (match cmpD P (.int i) (.int j) with
    | some (.bl true) => (h env S).bind fun c S3 => opt (cmpD Q (vw S3 (.int j)) (vw S3 c)) S3
    | some (.bl false) => .ok (.bl false) S
    | _ => .bad) = _
  show (match some (D.bl (P i j)) with
    | some (.bl true) => (h env S).bind fun c S3 => opt (cmpD Q (vw S3 (.int j)) (vw S3 c)) S3
    | some (.bl false) => .ok (.bl false) S
    | _ => .bad) = _
  cases P i j with
  | false => rfl
  | true => show ((h env S).bind fun c S3 => opt (cmpD Q (vw S3 (.int j)) (vw S3 c)) S3) = _; rw [h3]; rfl
abbrev RO (o : OF) (env : SV) (S : Store) (i : Option Int) : Prop := o env S = .ok i S
theorem ro_no : RO noP env S none := rfl
theorem ro_so {i : Int} (h1 : RE f env S (.int i)) : RO (soP f) env S (some i) := by show soP f env S = _; unfold soP; rw [h1]
theorem re_slice {lo hi : OF} {l m : Option Int} (h1 : RE f env S a) (h2 : RO lo env S l) (h3 : RO hi env S m) (k1 : vw S a = a') (k2 : sliceD l m a' = some r) : RE (sliceE f lo hi) env S r := by
  show sliceE f lo hi env S = _; unfold sliceE; rw [h1]; show ((lo env S).bind fun l S2 => _) = _; rw [h2]; show ((hi env S).bind fun h S3 => _) = _; rw [h3]
  show opt (sliceD l m (vw S a)) S = _; rw [k1, k2]; rfl
/-! a list by comprehension, each item by itself -/
theorem re_lcv {α : Type} {it : IF} {vs : List Nat} {gt : GF} {e : α → D} {H : α → D} {xs : List α} (h1 : it env S = .ok (valsI (xs.map e)) S) (h2 : ∀ z ∈ xs, ∃ env1, gt (e z) (wipeE env vs) S = some (env1, S) ∧ RE f env1 S (H z)) (h3 : xs.length ≤ 100000) :
    RE (lcE (lcA it vs gt yesT f)) env S (.lst (xs.map H)) := by
  show lcE _ env S = _; unfold lcE lcA; rw [h1]
  show ((lcL gt yesT f (valsI (xs.map e)) (wipeE env vs) (valsI (xs.map e)).fuel 0 [] S).bind fun ds S1 => Res.ok (D.lst ds) S1) = _
  rw [lcL_valsI]
  have key : ∀ (ys : List α) (acc : List D), (∀ z ∈ ys, z ∈ xs) → acc.length + ys.length ≤ 100000 → lcV gt yesT f (wipeE env vs) (ys.map e) acc S = .ok (acc ++ ys.map H) S := by
    intro ys
    induction ys with
    | nil => intro acc _ _; simp [lcV]
    | cons z zs ih =>
      intro acc hz hl
      obtain ⟨env1, g1, g2⟩ := h2 z (hz z List.mem_cons_self)
      rw [List.length_cons] at hl
      have : acc.length < sizeLine := by have := sizeLine_eq; omega
      simp only [List.map_cons, lcV, g1, rt_yes, g2, if_pos this]
      rw [ih _ (fun w hw => hz w (List.mem_cons_of_mem _ hw)) (by rw [List.length_append, List.length_cons, List.length_nil]; omega)]
      simp
  rw [key xs [] (fun _ z => z) (by simpa using h3)]
  rfl
theorem re_lcf {α : Type} {it : IF} {vs : List Nat} {gt : GF} {e : α → D} {H : α → D} {T : α → Bool} {xs : List α} (h1 : it env S = .ok (valsI (xs.map e)) S) (h2 : ∀ z ∈ xs, ∃ env1, gt (e z) (wipeE env vs) S = some (env1, S) ∧ RT t env1 S (T z) ∧ (T z = true → RE f env1 S (H z))) (h3 : xs.length ≤ 100000) :
    RE (lcE (lcA it vs gt t f)) env S (.lst ((xs.filter T).map H)) := by
  show lcE _ env S = _; unfold lcE lcA; rw [h1]
  show ((lcL gt t f (valsI (xs.map e)) (wipeE env vs) (valsI (xs.map e)).fuel 0 [] S).bind fun ds S1 => Res.ok (D.lst ds) S1) = _
  rw [lcL_valsI]
  have key : ∀ (ys : List α) (acc : List D), (∀ z ∈ ys, z ∈ xs) → acc.length + ys.length ≤ 100000 → lcV gt t f (wipeE env vs) (ys.map e) acc S = .ok (acc ++ (ys.filter T).map H) S := by
    intro ys
    induction ys with
    | nil => intro acc _ _; simp [lcV]
    | cons z zs ih =>
      intro acc hz hl
      obtain ⟨env1, g1, g2, g3⟩ := h2 z (hz z List.mem_cons_self)
      rw [List.length_cons] at hl
      have : acc.length < sizeLine := by have := sizeLine_eq; omega
      simp only [List.map_cons, lcV, g1, g2]
      cases hT : T z with
      | true =>
        simp only [g3 hT, if_pos this]
        rw [ih _ (fun w hw => hz w (List.mem_cons_of_mem _ hw)) (by rw [List.length_append, List.length_cons, List.length_nil]; omega), List.filter_cons_of_pos hT]
        simp
      | false =>
        simp only []
        rw [ih _ (fun w hw => hz w (List.mem_cons_of_mem _ hw)) (by omega), List.filter_cons_of_neg (by simp [hT])]
  rw [key xs [] (fun _ z => z) (by simpa using h3)]
  rfl
theorem ri_walkT {xs : List D} (h1 : RE f env S (.tup xs)) : walk f env S = .ok (valsI xs) S := by unfold walk; rw [h1]
theorem ri_walkL {xs : List D} (h1 : RE f env S (.lst xs)) : walk f env S = .ok (valsI xs) S := by unfold walk; rw [h1]
theorem ri_walkS {xs : List D} (h1 : RE f env S (.scr xs)) : walk f env S = .ok (valsI xs) S := by unfold walk; rw [h1]
theorem rng_lo {n : Nat} : rngI 0 n = valsI ((List.range n).map fun (i : Nat) => D.int (i : Int)) := by
  unfold rngI; congr 1; apply List.map_congr_left; intro i _; rw [Int.zero_add]
theorem big_of {i : Int} (h1 : -(1000000 : Int) ≤ i) (h2 : i ≤ 1000000) : big i = true := by unfold big; rw [Bool.and_eq_true, decide_eq_true_eq, decide_eq_true_eq]; omega
theorem ri_rngI {i : Int} {m : Nat} (e : i.toNat = m) (h1 : RE f env S (.int i)) (h2 : -(1000000 : Int) ≤ i) (h3 : i ≤ 1000000) : rng1 f env S = .ok (valsI ((List.range m).map fun (i : Nat) => D.int (i : Int))) S := by
  unfold rng1; rw [h1]
  show (if big i = true then Res.ok (rngI 0 i.toNat) S else .bad) = _
  rw [if_pos (big_of h2 h3), rng_lo, e]
theorem ri_rng {n : Nat} (h1 : RE f env S (.int (n : Int))) (h2 : n ≤ 100000) : rng1 f env S = .ok (valsI ((List.range n).map fun (i : Nat) => D.int (i : Int))) S :=
  ri_rngI (Int.toNat_natCast n) h1 (by omega) (by omega)
theorem ri_rng2 {i : Int} {n : Nat} {j : Int} (h1 : RE f env S (.int i)) (h2 : RE g env S (.int j)) (h3 : big i = true) (h4 : big j = true) : rng2 f g env S = .ok (valsI ((List.range (j - i).toNat).map fun (k : Nat) => D.int (i + (k : Int)))) S := by
  unfold rng2; rw [h1]; show ((g env S).bind fun b S2 => _) = _; rw [h2]
  show (if (big i && big j) = true then Res.ok (rngI i (j - i).toNat) S else .bad) = _
  have : (big i && big j) = true := by rw [h3, h4]; rfl
  rw [if_pos this]; rfl
theorem ri_zipT {xs ys : List D} (h1 : RE f env S (.tup xs)) (h2 : RE g env S (.tup ys)) : zipI f g env S = .ok (valsI (List.zipWith (fun x y => .tup [x, y]) xs ys)) S := by
  unfold zipI; rw [h1]; show ((g env S).bind fun b S2 => _) = _; rw [h2]
theorem ri_zipL {xs ys : List D} (h1 : RE f env S (.lst xs)) (h2 : RE g env S (.lst ys)) : zipI f g env S = .ok (valsI (List.zipWith (fun x y => .tup [x, y]) xs ys)) S := by
  unfold zipI; rw [h1]; show ((g env S).bind fun b S2 => _) = _; rw [h2]
theorem ri_zipLT {xs ys : List D} (h1 : RE f env S (.lst xs)) (h2 : RE g env S (.tup ys)) : zipI f g env S = .ok (valsI (List.zipWith (fun x y => .tup [x, y]) xs ys)) S := by
  unfold zipI; rw [h1]; show ((g env S).bind fun b S2 => _) = _; rw [h2]
theorem ri_zipTL {xs ys : List D} (h1 : RE f env S (.tup xs)) (h2 : RE g env S (.lst ys)) : zipI f g env S = .ok (valsI (List.zipWith (fun x y => .tup [x, y]) xs ys)) S := by
  unfold zipI; rw [h1]; show ((g env S).bind fun b S2 => _) = _; rw [h2]
theorem ri_enum {xs : List D} (h1 : RE f env S (.lst xs)) : enumI f env S = .ok (valsI (xs.mapIdx fun i x => .tup [.int i, x])) S := by
  unfold enumI; rw [h1]
theorem ri_enumT {xs : List D} (h1 : RE f env S (.tup xs)) : enumB f env S = .ok (valsI (xs.mapIdx fun i x => .tup [.int i, x])) S := by
  unfold enumB; rw [h1]
theorem ri_enumL {xs : List D} (h1 : RE f env S (.lst xs)) : enumB f env S = .ok (valsI (xs.mapIdx fun i x => .tup [.int i, x])) S := by
  unfold enumB; rw [h1]
theorem g_nm {i : Nat} : gNm i d env S = some (env.set i (some d), S) := rfl
theorem g_tp2 {i j : Nat} : gTp 2 (gCs (gNm i) (gCs (gNm j) gNl)) (.tup [a, b]) env S = some ((env.set i (some a)).set j (some b), S) := rfl
theorem g_tp3 {i j k : Nat} : gTp 3 (gCs (gNm i) (gCs (gNm j) (gCs (gNm k) gNl))) (.tup [a, b, c]) env S = some (((env.set i (some a)).set j (some b)).set k (some c), S) := rfl
end
/-! sides -/
theorem vw_k {S : Store} (x : Ki) : vw S (kD x) = kD x := vw_nice (nice_k x)
theorem vw_ow {S : Store} (x : Option Wo) : vw S (owD x) = owD x := vw_nice (nice_ow x)
theorem t_all {α : Type} {p : α → Bool} {xs : List α} : allD [.lst (xs.map fun z => .bl (p z))] = some (.bl (xs.all p)) := all_map p xs
theorem bools_any {α : Type} {p : α → Bool} {xs : List α} : anyD [.lst (xs.map fun z => .bl (p z))] = some (.bl (xs.any p)) := by
  show (bools (xs.map fun z => .bl (p z))).map (fun bs => D.bl (bs.any id)) = _
  rw [bools_map]; simp [List.any_map]
theorem tp_lst {xs : List D} : tupleD [.lst xs] = some (.tup xs) := rfl
theorem tp_tup {xs : List D} : tupleD [.tup xs] = some (.tup xs) := rfl
theorem l_tupM {α : Type} {e : α → D} {xs : List α} : lenD [.tup (xs.map e)] = some (.int (xs.length : Int)) := by show some (D.int ((xs.map e).length : Int)) = _; rw [List.length_map]
theorem l_lstM {α : Type} {e : α → D} {xs : List α} : lenD [.lst (xs.map e)] = some (.int (xs.length : Int)) := by show some (D.int ((xs.map e).length : Int)) = _; rw [List.length_map]
theorem l_tup {xs : List D} : lenD [.tup xs] = some (.int (xs.length : Int)) := rfl
theorem l_lst {xs : List D} : lenD [.lst xs] = some (.int (xs.length : Int)) := rfl
theorem l_scr {xs : List D} : lenD [.scr xs] = some (.int (xs.length : Int)) := rfl
theorem i_tupM {α : Type} {e : α → D} {xs : List α} {i : Nat} {z : α} (h : xs[i]? = some z) : ixD (.tup (xs.map e)) (.int (i : Int)) = some (e z) := ix_tup (at_int (by omega) (by rw [Int.toNat_natCast, List.getElem?_map, h]; rfl))
theorem i_lstM {α : Type} {e : α → D} {xs : List α} {i : Nat} {z : α} (h : xs[i]? = some z) : ixD (.lst (xs.map e)) (.int (i : Int)) = some (e z) := ix_lst (at_int (by omega) (by rw [Int.toNat_natCast, List.getElem?_map, h]; rfl))
theorem i_tupL {α : Type} {e : α → D} {xs : List α} {z : α} (h : xs.getLast? = some z) : ixD (.tup (xs.map e)) (.int (-1)) = some (e z) := ix_tup (at_last (by rw [List.getLast?_map, h]; rfl))
theorem i_lstL {α : Type} {e : α → D} {xs : List α} {z : α} (h : xs.getLast? = some z) : ixD (.lst (xs.map e)) (.int (-1)) = some (e z) := ix_lst (at_last (by rw [List.getLast?_map, h]; rfl))
theorem i_tup0 {x : D} {xs : List D} : ixD (.tup (x :: xs)) (.int 0) = some x := ix_head
theorem i_tup1 {x y : D} {xs : List D} : ixD (.tup (x :: y :: xs)) (.int 1) = some y := ix_tup (at_int (by decide) rfl)
theorem i_tup2 {x y z : D} {xs : List D} : ixD (.tup (x :: y :: z :: xs)) (.int 2) = some z := ix_tup (at_int (by decide) rfl)
theorem i_lst0 {x : D} {xs : List D} : ixD (.lst (x :: xs)) (.int 0) = some x := ix_lst (at_int (by decide) rfl)
theorem i_lst1 {x y : D} {xs : List D} : ixD (.lst (x :: y :: xs)) (.int 1) = some y := ix_lst (at_int (by decide) rfl)
theorem i_lst2 {x y z : D} {xs : List D} : ixD (.lst (x :: y :: z :: xs)) (.int 2) = some z := ix_lst (at_int (by decide) rfl)
theorem s_cutM {α : Type} {e : α → D} {xs : List α} {i j : Int} (h0 : 0 ≤ i) (h1 : 0 ≤ j) : sliceD (some i) (some j) (.tup (xs.map e)) = some (.tup (((xs.take j.toNat).drop i.toNat).map e)) := by rw [sl_cut h0 h1, List.map_drop, List.map_take]
theorem s_toM {α : Type} {e : α → D} {xs : List α} {i : Int} (h0 : 0 ≤ i) : sliceD none (some i) (.tup (xs.map e)) = some (.tup ((xs.take i.toNat).map e)) := by rw [sl_to h0, List.map_take]
theorem s_fromM {α : Type} {e : α → D} {xs : List α} {i : Int} (h0 : 0 ≤ i) : sliceD (some i) none (.tup (xs.map e)) = some (.tup ((xs.drop i.toNat).map e)) := by rw [sl_from h0, List.map_drop]
theorem a_tup {xs ys : List D} (h : xs.length + ys.length ≤ 100000) : addD (.tup xs) (.tup ys) = some (.tup (xs ++ ys)) := by
  show (if xs.length + ys.length ≤ sizeLine then some (D.tup (xs ++ ys)) else none) = _
  rw [if_pos (small_line h)]
theorem a_lst {xs ys : List D} (h : xs.length + ys.length ≤ 100000) : addD (.lst xs) (.lst ys) = some (.lst (xs ++ ys)) := by
  show (if xs.length + ys.length ≤ sizeLine then some (D.lst (xs ++ ys)) else none) = _
  rw [if_pos (small_line h)]
theorem a_tupM {α : Type} {e : α → D} {xs ys : List α} (h : xs.length + ys.length ≤ 100000) : addD (.tup (xs.map e)) (.tup (ys.map e)) = some (.tup ((xs ++ ys).map e)) := by rw [a_tup (by simpa using h), List.map_append]
theorem a_lstM {α : Type} {e : α → D} {xs ys : List α} (h : xs.length + ys.length ≤ 100000) : addD (.lst (xs.map e)) (.lst (ys.map e)) = some (.lst ((xs ++ ys).map e)) := by rw [a_lst (by simpa using h), List.map_append]
theorem w_b {w : Wo} : eqDD (wd w) (.str "blank") = some (.bl (decide (w = .b))) := eq_wd w .b
theorem w_g {w : Wo} : eqDD (wd w) (.str "good") = some (.bl (decide (w = .g))) := eq_wd w .g
theorem w_l {w : Wo} : eqDD (wd w) (.str "lost") = some (.bl (decide (w = .l))) := eq_wd w .l
theorem w_e {w : Wo} : eqDD (wd w) (.str "ended") = some (.bl (decide (w = .e))) := eq_wd w .e
theorem n_b {w : Wo} : neD (wd w) (.str "blank") = some (.bl (!decide (w = .b))) := ne_wd w .b
theorem n_g {w : Wo} : neD (wd w) (.str "good") = some (.bl (!decide (w = .g))) := ne_wd w .g
theorem n_l {w : Wo} : neD (wd w) (.str "lost") = some (.bl (!decide (w = .l))) := ne_wd w .l
theorem n_e {w : Wo} : neD (wd w) (.str "ended") = some (.bl (!decide (w = .e))) := ne_wd w .e
theorem c_neI {i j : Int} : neD (.int i) (.int j) = some (.bl (!decide (i = j))) := by
  show (if (lay 40 (.int i) && lay 40 (.int j)) = true then some (D.bl (!deq (.int i) (.int j))) else none) = _
  have : (lay 40 (.int i) && lay 40 (.int j)) = true := rfl
  rw [if_pos this, deq_int]
theorem ow_isN {w : Option Wo} : isDD (owD w) .non = some (.bl w.isNone) := by cases w with | none => rfl | some w => cases w <;> rfl
theorem ow_nisN {w : Option Wo} : nisDD (owD w) .non = some (.bl w.isSome) := by cases w with | none => rfl | some w => cases w <;> rfl
theorem c_max {i j : Int} : max2D [.int i, .int j] = some (.int (max i j)) := by
  show some (D.int (if j > i then j else i)) = _
  congr 2; split <;> omega
theorem c_min {i j : Int} : min2D [.int i, .int j] = some (.int (min i j)) := by
  show some (D.int (if j < i then j else i)) = _
  congr 2; split <;> omega
theorem c_modN {a b : Nat} (h : 0 < b) : modD (.int (a : Int)) (.int (b : Int)) = some (.int ((a % b : Nat) : Int)) := by rw [c_mod (by omega)]; rfl
theorem c_divN {a b : Nat} (h : 0 < b) (h2 : b < 1073741824) : fdivD (.int (a : Int)) (.int (b : Int)) = some (.int ((a / b : Nat) : Int)) := by rw [c_div (by omega) (by omega)]; rfl
theorem c_addN {a b : Nat} : addD (.int (a : Int)) (.int (b : Int)) = some (.int ((a + b : Nat) : Int)) := by rw [c_add, Int.natCast_add]
theorem c_addN1 {a : Nat} : addD (.int (a : Int)) (.int 1) = some (.int ((a + 1 : Nat) : Int)) := by rw [c_add]; rfl
theorem c_add1N {a : Nat} : addD (.int 1) (.int (a : Int)) = some (.int ((1 + a : Nat) : Int)) := by rw [c_add, Int.natCast_add]; rfl
theorem p_lt : ltD = cmpD fun i j => decide (i < j) := rfl
/-! statements; what must hold is kept shut -/
@[irreducible] def SS (r : SRes) (N : SV → Store → Prop) (R : D → Store → Prop) (B Q : SV → Store → Prop) : Prop := r.sat N R B Q
@[irreducible] def ES (r : Res D) (P : D → Store → Prop) : Prop := r.sat P
theorem ss_of {r : SRes} {N : SV → Store → Prop} {R : D → Store → Prop} {B Q : SV → Store → Prop} (h : r.sat N R B Q) : SS r N R B Q := by unfold SS; exact h
theorem ss_to {r : SRes} {N : SV → Store → Prop} {R : D → Store → Prop} {B Q : SV → Store → Prop} (h : SS r N R B Q) : r.sat N R B Q := by unfold SS at h; exact h
theorem es_of {r : Res D} {P : D → Store → Prop} (h : r.sat P) : ES r P := by unfold ES; exact h
theorem es_to {r : Res D} {P : D → Store → Prop} (h : ES r P) : r.sat P := by unfold ES at h; exact h
theorem es_mono {r : Res D} {P P' : D → Store → Prop} (h : r.sat P) (k : ∀ a S, P a S → P' a S) : ES r P' := es_of (h.mono k)
theorem ss_mono {r : SRes} {N N' : SV → Store → Prop} {R R' : D → Store → Prop} {B B' Q Q' : SV → Store → Prop} (h : SS r N R B Q) (k1 : ∀ a S, N a S → N' a S) (k2 : ∀ a S, R a S → R' a S) (k3 : ∀ a S, B a S → B' a S) (k4 : ∀ a S, Q a S → Q' a S) : SS r N' R' B' Q' := ss_of ((ss_to h).mono k1 k2 k3 k4)
section
variable {f g : EF} {t : TF} {a b : SF} {env : SV} {S : Store} {N : SV → Store → Prop} {R : D → Store → Prop} {B Q : SV → Store → Prop} {d d2 : D} {p : Bool}
theorem es_re {P : D → Store → Prop} (h : RE f env S d) (k : P d S) : ES (f env S) P := es_of (by rw [h]; exact k)
theorem es_call {φ : Fn} {x : AF} {ds : List D} {P : D → Store → Prop} (h : RA x env S ds) (k : ES (φ ds S) P) : ES (callP φ x env S) P := es_of (by rw [w_callP, h]; exact es_to k)
theorem es_if {P : D → Store → Prop} (h : RT t env S p) (k1 : p = true → ES (f env S) P) (k2 : p = false → ES (g env S) P) : ES (ifE t f g env S) P := es_of (by
  rw [w_ifE, h]; cases p with
  | true => exact es_to (k1 rfl)
  | false => exact es_to (k2 rfl))
/-- from what is drawn first to what is made of it -/
theorem es_bind {P : D → Store → Prop} (h : ES (f env S) fun d S1 => ES (g env S1) fun e S2 => P (.tup [d, e]) S2) : ES ((f env S).bind fun d S1 => (g env S1).bind fun e S2 => .ok (.tup [d, e]) S2) P := es_of (by
  rw [sat_bind]
  refine (es_to h).mono fun d S1 k => ?_
  rw [sat_bind]
  exact (es_to k).mono fun e S2 q => q)
theorem es_imp {r : Res D} {P P' : D → Store → Prop} (h : ES r P) (k : ∀ a S, P a S → P' a S) : ES r P' := es_of ((es_to h).mono k)
@[irreducible] def PB (go : D → D → Option D) (S : Store) (a b : D) (P : D → Store → Prop) : Prop := ∃ r, go (vw S a) (vw S b) = some r ∧ P r S
@[irreducible] def PU (go : D → Option D) (S : Store) (a : D) (P : D → Store → Prop) : Prop := ∃ r, go (vw S a) = some r ∧ P r S
@[irreducible] def PN (go : List D → Option D) (S : Store) (ds : List D) (P : D → Store → Prop) : Prop := ∃ r, go (ds.map (vw S)) = some r ∧ P r S
@[irreducible] def PT (S : Store) (a : D) (P : Bool → Store → Prop) : Prop := ∃ b, truD (vw S a) = some b ∧ P b S
theorem pb_of {go : D → D → Option D} {a b a' b' r : D} {P : D → Store → Prop} (h1 : vw S a = a') (h2 : vw S b = b') (h3 : go a' b' = some r) (k : P r S) : PB go S a b P := by unfold PB; subst h1; subst h2; exact ⟨r, h3, k⟩
theorem pu_of {go : D → Option D} {a a' r : D} {P : D → Store → Prop} (h1 : vw S a = a') (h3 : go a' = some r) (k : P r S) : PU go S a P := by unfold PU; subst h1; exact ⟨r, h3, k⟩
theorem pn_of1 {go : List D → Option D} {a a' r : D} {P : D → Store → Prop} (h1 : vw S a = a') (h3 : go [a'] = some r) (k : P r S) : PN go S [a] P := by unfold PN; subst h1; exact ⟨r, h3, k⟩
theorem pn_of2 {go : List D → Option D} {a b a' b' r : D} {P : D → Store → Prop} (h1 : vw S a = a') (h2 : vw S b = b') (h3 : go [a', b'] = some r) (k : P r S) : PN go S [a, b] P := by unfold PN; subst h1; subst h2; exact ⟨r, h3, k⟩
theorem pt_of {a a' : D} {b : Bool} {P : Bool → Store → Prop} (h1 : vw S a = a') (h3 : truD a' = some b) (k : P b S) : PT S a P := by unfold PT; subst h1; exact ⟨b, h3, k⟩
theorem es_pB {go : D → D → Option D} {P : D → Store → Prop} (h : ES (f env S) fun a S1 => ES (g env S1) fun b S2 => PB go S2 a b P) : ES (pB go f g env S) P := es_of (by
  unfold PB at h
  rw [w_pB]
  refine (es_to h).mono fun d S1 k => (es_to k).mono fun e S2 ⟨r, q, z⟩ => ?_
  rw [q]; exact z)
theorem es_pU {go : D → Option D} {P : D → Store → Prop} (h : ES (f env S) fun a S1 => PU go S1 a P) : ES (pU go f env S) P := es_of (by
  unfold PU at h
  rw [w_pU]
  refine (es_to h).mono fun d S1 ⟨r, q, z⟩ => ?_
  rw [q]; exact z)
@[irreducible] def TS (r : Res Bool) (P : Bool → Store → Prop) : Prop := r.sat P
@[irreducible] def AS (r : Res (List D)) (P : List D → Store → Prop) : Prop := r.sat P
theorem ts_of {r : Res Bool} {P : Bool → Store → Prop} (h : r.sat P) : TS r P := by unfold TS; exact h
theorem ts_to {r : Res Bool} {P : Bool → Store → Prop} (h : TS r P) : r.sat P := by unfold TS at h; exact h
theorem as_of {r : Res (List D)} {P : List D → Store → Prop} (h : r.sat P) : AS r P := by unfold AS; exact h
theorem as_to {r : Res (List D)} {P : List D → Store → Prop} (h : AS r P) : r.sat P := by unfold AS at h; exact h
theorem as_ra {x : AF} {ds : List D} {P : List D → Store → Prop} (h : RA x env S ds) (k : P ds S) : AS (x env S) P := as_of (by rw [h]; exact k)
theorem as_nil {P : List D → Store → Prop} (k : P [] S) : AS (nilA env S) P := as_of k
theorem as_cons {x : AF} {P : List D → Store → Prop} (h : ES (f env S) fun a S1 => AS (x env S1) fun ds S2 => P (a :: ds) S2) : AS (consA f x env S) P := as_of (by
  rw [w_consA]; exact (es_to h).mono fun _ _ z => as_to z)
theorem es_callS {φ : Fn} {x : AF} {P : D → Store → Prop} (h : AS (x env S) fun ds S1 => ES (φ ds S1) P) : ES (callP φ x env S) P := es_of (by
  rw [w_callP]; exact (as_to h).mono fun _ _ z => es_to z)
theorem es_callES {φ : Fn} {π : List Nat} {x : AF} {P : D → Store → Prop} (h : AS (x env S) fun ds S1 => ES (φ (permL π ds) S1) P) : ES (callE φ π x env S) P := es_of (by
  rw [w_callE]; exact (as_to h).mono fun _ _ z => es_to z)
theorem es_tupS {x : AF} {P : D → Store → Prop} (h : AS (x env S) fun ds S1 => ds.length ≤ 100000 ∧ P (.tup ds) S1) : ES (tupE x env S) P := es_of (by
  rw [w_tupE]; exact (as_to h).mono fun _ _ z => ⟨small_line z.1, z.2⟩)
theorem es_lstS {x : AF} {P : D → Store → Prop} (h : AS (x env S) fun ds S1 => ds.length ≤ 100000 ∧ P (.lst ds) S1) : ES (lstE x env S) P := es_of (by
  rw [w_lstE]; exact (as_to h).mono fun _ _ z => ⟨small_line z.1, z.2⟩)
theorem es_pNS {go : List D → Option D} {x : AF} {P : D → Store → Prop} (h : AS (x env S) fun ds S1 => PN go S1 ds P) : ES (pN go x env S) P := es_of (by
  unfold PN at h
  rw [w_pN]; exact (as_to h).mono fun ds S1 ⟨r, q, z⟩ => by rw [q]; exact z)
theorem ts_rt {P : Bool → Store → Prop} (h : RT t env S p) (k : P p S) : TS (t env S) P := ts_of (by rw [h]; exact k)
theorem ts_tst {P : Bool → Store → Prop} (h : ES (f env S) fun a S1 => PT S1 a P) : TS (tst f env S) P := ts_of (by
  unfold PT at h
  rw [w_tst]; exact (es_to h).mono fun a S1 ⟨b, q, z⟩ => by rw [q]; exact z)
theorem ts_not {P : Bool → Store → Prop} (h : TS (t env S) fun b S1 => P (!b) S1) : TS (notT t env S) P := ts_of (by rw [w_notT]; exact ts_to h)
theorem ts_and {u : TF} {P : Bool → Store → Prop} (h : TS (t env S) fun b S1 => (b = true → TS (u env S1) P) ∧ (b = false → P false S1)) : TS (andT t u env S) P := ts_of (by
  rw [w_andT]; exact (ts_to h).mono fun b S1 z => by
    cases b with
    | true => exact ts_to (z.1 rfl)
    | false => exact z.2 rfl)
theorem ts_or {u : TF} {P : Bool → Store → Prop} (h : TS (t env S) fun b S1 => (b = true → P true S1) ∧ (b = false → TS (u env S1) P)) : TS (orT t u env S) P := ts_of (by
  rw [w_orT]; exact (ts_to h).mono fun b S1 z => by
    cases b with
    | true => exact z.1 rfl
    | false => exact ts_to (z.2 rfl))
theorem es_ifS {P : D → Store → Prop} (h : TS (t env S) fun b S1 => (b = true → ES (f env S1) P) ∧ (b = false → ES (g env S1) P)) : ES (ifE t f g env S) P := es_of (by
  rw [w_ifE]; exact (ts_to h).mono fun b S1 z => by
    cases b with
    | true => exact es_to (z.1 rfl)
    | false => exact es_to (z.2 rfl))
theorem es_andS {P : D → Store → Prop} (h : ES (f env S) fun a S1 => PT S1 a fun b S2 => (b = true → ES (g env S2) P) ∧ (b = false → P a S2)) : ES (andE f g env S) P := es_of (by
  unfold PT at h
  rw [w_andE]; exact (es_to h).mono fun a S1 ⟨b, q, z1, z2⟩ => by
    rw [q]
    cases b with
    | true => exact es_to (z1 rfl)
    | false => exact z2 rfl)
@[irreducible] def OS (r : Res (Option Int)) (P : Option Int → Store → Prop) : Prop := r.sat P
theorem os_ro {o : OF} {i : Option Int} {P : Option Int → Store → Prop} (h : RO o env S i) (k : P i S) : OS (o env S) P := by unfold OS; rw [h]; exact k
theorem es_sliceS {lo hi : OF} {P : D → Store → Prop} (h : ES (f env S) fun a S1 => OS (lo env S1) fun l S2 => OS (hi env S2) fun m S3 => PU (sliceD l m) S3 a P) : ES (sliceE f lo hi env S) P := es_of (by
  unfold OS PU at h
  rw [w_sliceE]; exact (es_to h).mono fun a S1 h2 => h2.mono fun l S2 h3 => h3.mono fun m S3 ⟨r, q, z⟩ => by rw [q]; exact z)
theorem ss_ifS (h : TS (t env S) fun p S1 => (p = true → SS (a env S1) N R B Q) ∧ (p = false → SS (b env S1) N R B Q)) : SS (ifS t a b env S) N R B Q := ss_of (by
  rw [w_ifS]; exact (ts_to h).mono fun p S1 z => by
    cases p with
    | true => exact ss_to (z.1 rfl)
    | false => exact ss_to (z.2 rfl))
theorem ss_seq (h : SS (a env S) (fun e1 S1 => SS (b e1 S1) N R B Q) R B Q) : SS (seqS a b env S) N R B Q := ss_of (by rw [w_seqS]; exact (ss_to h).mono (fun _ _ z => ss_to z) (fun _ _ z => z) (fun _ _ z => z) (fun _ _ z => z))
theorem ss_setp {i : Nat} (h : RE f env S d) (k : N (env.set i (some d)) S) : SS (setS i f env S) N R B Q := ss_of (by rw [w_setS, h]; exact k)
theorem ss_set {i : Nat} (h : ES (f env S) fun d S1 => N (env.set i (some d)) S1) : SS (setS i f env S) N R B Q := ss_of (by rw [w_setS]; exact es_to h)
theorem ss_retp (h : RE f env S d) (k : R d S) : SS (retS f env S) N R B Q := ss_of (by rw [w_retS, h]; exact k)
theorem ss_ret (h : ES (f env S) R) : SS (retS f env S) N R B Q := ss_of (by rw [w_retS]; exact es_to h)
theorem ss_dropp (h : RE f env S d) (k : N env S) : SS (dropS f env S) N R B Q := ss_of (by rw [w_dropS, h]; exact k)
theorem ss_drop (h : ES (f env S) fun _ S1 => N env S1) : SS (dropS f env S) N R B Q := ss_of (by rw [w_dropS]; exact es_to h)
theorem ss_par2p {i j : Nat} (h : RE f env S d) (h2 : RE g env S d2) (k : N ((env.set i (some d)).set j (some d2)) S) : SS (par2 i j f g env S) N R B Q := ss_of (by rw [w_par2, h]; show (g env S).sat _; rw [h2]; exact k)
theorem ss_par2 {i j : Nat} (h : ES (f env S) fun d S1 => ES (g env S1) fun d2 S2 => N ((env.set i (some d)).set j (some d2)) S2) : SS (par2 i j f g env S) N R B Q := ss_of (by rw [w_par2]; exact (es_to h).mono fun _ _ z => es_to z)
theorem ss_if (h : RT t env S p) (k1 : p = true → SS (a env S) N R B Q) (k2 : p = false → SS (b env S) N R B Q) : SS (ifS t a b env S) N R B Q := ss_of (by
  rw [w_ifS, h]; cases p with
  | true => exact ss_to (k1 rfl)
  | false => exact ss_to (k2 rfl))
theorem ss_nx (k : N env S) : SS (nextS env S) N R B Q := ss_of k
theorem ss_retN (k : R .non S) : SS (Lt.retN env S) N R B Q := ss_of k
theorem ss_brk (k : B env S) : SS (brkS env S) N R B Q := ss_of k
theorem ss_cnt (k : Q env S) : SS (cntS env S) N R B Q := ss_of k
theorem ss_aug {i : Nat} {go : D → D → Option D} {x x' d' r : D} (e : env[i]? = some (some x)) (h : RE f env S d) (h1 : vw S x = x') (h2 : vw S d = d') (h3 : go x' d' = some r) (k : N (env.set i (some r)) S) : SS (augS i go f env S) N R B Q := ss_of (by
  rw [w_augS, e]; simp only []; rw [h]; show (match go (vw S x) (vw S d) with | some r => N (env.set i (some r)) S | none => False); rw [h1, h2, h3]; exact k)
theorem es_lstM {x : AF} {ds : List D} {P : D → Store → Prop} (h : RA x env S ds) (hl : ds.length ≤ 100000) (k : P (.ref S.length) (S ++ [.lst ds])) : ES (lstM x env S) P := es_of (by
  rw [w_lstM, h]; exact ⟨small_line hl, k⟩)
/-- a list by comprehension, the draws go on -/
theorem es_lcS {α : Type} {it : IF} {vs : List Nat} {gt : GF} {e : α → D} {xs : List α} {P : D → Store → Prop} (J : List α → List D → Store → Prop) (h1 : it env S = .ok (valsI (xs.map e)) S) (h0 : J [] [] S)
    (turn : ∀ pre z post acc S, xs = pre ++ z :: post → J pre acc S → ∃ env1, gt (e z) (wipeE env vs) S = some (env1, S) ∧ ES (f env1 S) fun y S2 => acc.length ≤ 100000 ∧ J (pre ++ [z]) (acc ++ [y]) S2)
    (last : ∀ acc S, J xs acc S → P (.lst acc) S) : ES (lcE (lcA it vs gt yesT f) env S) P := es_of (by
  rw [w_lcE, w_lcA, h1]
  show (lcL gt yesT f (valsI (xs.map e)) (wipeE env vs) (valsI (xs.map e)).fuel 0 [] S).sat fun ds S1 => P (.lst ds) S1
  rw [lcL_valsI]
  have key : ∀ (post pre : List α) (acc : List D) S, xs = pre ++ post → J pre acc S → (lcV gt yesT f (wipeE env vs) (post.map e) acc S).sat fun ds S1 => P (.lst ds) S1 := by
    intro post
    induction post with
    | nil => intro pre acc S h j; rw [List.append_nil] at h; subst h; exact last _ _ j
    | cons z post ih =>
      intro pre acc S h j
      obtain ⟨env1, g1, g2⟩ := turn pre z post acc S h j
      obtain ⟨y, S2, e1, hl, j2⟩ := (es_to g2).ex
      simp only [List.map_cons, lcV, g1, rt_yes, e1]
      rw [if_pos (by have := sizeLine_eq; omega)]
      exact ih (pre ++ [z]) _ _ (by rw [h]; simp) j2
  exact key xs [] [] S rfl h0)
/-! loops -/
theorem ss_for {α : Type} {it : IF} {gt : GF} {e : α → D} {xs : List α} (J : List α → SV → Store → Prop) (h1 : it env S = .ok (valsI (xs.map e)) S) (h0 : J [] env S)
    (turn : ∀ pre z post env S, xs = pre ++ z :: post → J pre env S → ∃ env1, gt (e z) env S = some (env1, S) ∧ SS (b env1 S) (J (pre ++ [z])) R N (J (pre ++ [z])))
    (last : ∀ env S, J xs env S → N env S) : SS (forS it gt b env S) N R B Q := ss_of (by
  rw [w_forS, h1]
  show (forL gt b (valsI (xs.map e)) (valsI (xs.map e)).fuel 0 env S).sat N R B Q
  rw [forL_valsI]
  have key : ∀ (post pre : List α) env S, xs = pre ++ post → J pre env S → (forV gt b (post.map e) env S).sat N R B Q := by
    intro post
    induction post with
    | nil => intro pre env S h j; rw [List.append_nil] at h; subst h; exact last _ _ j
    | cons z post ih =>
      intro pre env S h j
      obtain ⟨env1, g1, g2⟩ := turn pre z post env S h j
      rw [List.map_cons, w_forV, g1]
      have e2 : xs = (pre ++ [z]) ++ post := by rw [h]; simp
      exact (ss_to g2).mono (fun e1 S1 j1 => ih _ _ _ e2 j1) (fun _ _ z => z) (fun _ _ z => z) (fun e1 S1 j1 => ih _ _ _ e2 j1)
  exact key xs [] env S rfl h0)
theorem ss_rng {it : IF} {gt : GF} {n : Nat} (J : Nat → SV → Store → Prop) (h1 : it env S = .ok (valsI ((List.range n).map fun (i : Nat) => D.int (i : Int))) S) (h0 : J 0 env S)
    (turn : ∀ i env S, i < n → J i env S → ∃ env1, gt (.int (i : Int)) env S = some (env1, S) ∧ SS (b env1 S) (J (i + 1)) R N (J (i + 1)))
    (last : ∀ env S, J n env S → N env S) : SS (forS it gt b env S) N R B Q := by
  refine ss_for (xs := List.range n) (e := fun (i : Nat) => D.int (i : Int)) (fun pre => J pre.length) h1 h0 (fun pre z post env S h j => ?_) (fun env S j => last env S (by simpa using j))
  have hz : z = pre.length := by
    have := congrArg (·[pre.length]?) h
    simp at this
    have hl := congrArg List.length h
    simp at hl
    rw [List.getElem?_range (by omega)] at this
    simpa using this.symm
  subst hz
  have hl := congrArg List.length h
  simp at hl
  obtain ⟨env1, g1, g2⟩ := turn pre.length env S (by omega) j
  refine ⟨env1, g1, ?_⟩
  simpa using g2
end
theorem ss_forW {f : EF} {gt : GF} {b : SF} {env : SV} {S : Store} {N : SV → Store → Prop} {R : D → Store → Prop} {B Q : SV → Store → Prop} (h : ES (f env S) fun d S1 => SS (forS (walk (cst d)) gt b env S1) N R B Q) : SS (forS (walk f) gt b env S) N R B Q := by
  have h := es_to h
  cases e : f env S with
  | ok d S1 =>
    rw [e] at h
    have h2 : SS (forS (walk (cst d)) gt b env S1) N R B Q := h
    have : forS (walk f) gt b env S = forS (walk (cst d)) gt b env S1 := by unfold forS walk; rw [e]; rfl
    rw [this]; exact h2
  | exc c d S1 => rw [e] at h; exact False.elim h
  | bad => rw [e] at h; exact False.elim h
theorem ss_forR {f : EF} {gt : GF} {b : SF} {env : SV} {S : Store} {N : SV → Store → Prop} {R : D → Store → Prop} {B Q : SV → Store → Prop} (h : ES (f env S) fun d S1 => SS (forS (rng1 (cst d)) gt b env S1) N R B Q) : SS (forS (rng1 f) gt b env S) N R B Q := by
  have h := es_to h
  cases e : f env S with
  | ok d S1 =>
    rw [e] at h
    have h2 : SS (forS (rng1 (cst d)) gt b env S1) N R B Q := h
    have : forS (rng1 f) gt b env S = forS (rng1 (cst d)) gt b env S1 := by unfold forS rng1; rw [e]; rfl
    rw [this]; exact h2
  | exc c d S1 => rw [e] at h; exact False.elim h
  | bad => rw [e] at h; exact False.elim h
theorem re_of {n : Nat} {c : SF} {ds : List D} {S : Store} {v : D} (h : SS (c (ds.map some ++ List.replicate (n - ds.length) none) S) (fun _ S' => .non = v ∧ S' = S) (fun d S' => d = v ∧ S' = S) (fun _ _ => False) (fun _ _ => False)) : runB c n ds S = .ok v S := by
  apply eq_of_sat
  rw [w_run]
  exact ss_to h
theorem sat_run {n : Nat} {c : SF} {ds : List D} {S : Store} {P : D → Store → Prop} (h : SS (c (ds.map some ++ List.replicate (n - ds.length) none) S) (fun _ S' => P .non S') P (fun _ _ => False) (fun _ _ => False)) : (runB c n ds S).sat P := by
  rw [w_run]
  exact ss_to h
theorem es_run {n : Nat} {c : SF} {ds : List D} {S : Store} {P : D → Store → Prop} (h : SS (c (ds.map some ++ List.replicate (n - ds.length) none) S) (fun _ S' => P .non S') P (fun _ _ => False) (fun _ _ => False)) : ES (runB c n ds S) P := es_of (by
  rw [w_run]
  exact ss_to h)
/-- a list of one's own beside the draws -/
structure Lv (n m : Nat) (S0 S : Store) (xs : List D) : Prop where
  dr : Dr S n
  ko : Ko S0 S n
  cell : S[m]? = some (.lst xs)
  own : S0.length ≤ m
theorem Lv.new {n : Nat} {S0 : Store} (h : Dr S0 n) (xs : List D) : Lv n S0.length S0 (S0 ++ [.lst xs]) xs :=
  ⟨dr_app h _, ⟨fun j hj _ => List.getElem?_append_left hj, by simp⟩, by rw [List.getElem?_append_right (Nat.le_refl _), Nat.sub_self]; rfl, Nat.le_refl _⟩
theorem Lv.ne {n m : Nat} {S0 S : Store} {xs : List D} (l : Lv n m S0 S xs) (h : Dr S0 n) : m ≠ n := by have := h.lt; have := l.own; omega
theorem Lv.draw {n m : Nat} {S0 S S' : Store} {xs : List D} (h0 : Dr S0 n) (l : Lv n m S0 S xs) (h : Dr S' n) (k : Ko S S' n) : Lv n m S0 S' xs := by
  have hm := (List.getElem?_eq_some_iff.mp l.cell).1
  exact ⟨h, l.ko.trans k, by rw [k.1 m hm (l.ne h0)]; exact l.cell, l.own⟩
theorem Lv.app {n m : Nat} {S0 S : Store} {xs : List D} (h0 : Dr S0 n) (l : Lv n m S0 S xs) (d : D) : Lv n m S0 (S.set m (.lst (xs ++ [d]))) (xs ++ [d]) :=
  ⟨dr_set l.dr (l.ne h0) _, ⟨fun j hj hn => by rw [List.getElem?_set_ne (by have := l.own; omega)]; exact l.ko.1 j hj hn, by rw [List.length_set]; exact l.ko.2⟩, set_get l.cell, l.own⟩
/-- an own list is made longer -/
theorem es_app {f g : EF} {env : SV} {S : Store} {P : D → Store → Prop} {n : Nat} {xs : List D} (h1 : RE f env S (.ref n)) (hc : S[n]? = some (.lst xs)) (h2 : ES (g env S) fun d S2 => ∃ ys, S2[n]? = some (.lst ys) ∧ ys.length ≤ 100000 ∧ P .non (S2.set n (.lst (ys ++ [d])))) : ES (appE f g env S) P := es_of (by
  rw [w_appE, h1]
  show (match cellL S (.ref n) with | none => False | some _ => _)
  simp only [cell_of hc]
  refine (es_to h2).mono fun d S2 ⟨ys, c2, hl, hp⟩ => ?_
  simp only [cell_of c2]
  exact ⟨by have := sizeLine_eq; omega, hp⟩)
theorem es_appp {f g : EF} {env : SV} {S : Store} {P : D → Store → Prop} {n : Nat} {xs : List D} {d : D} (h1 : RE f env S (.ref n)) (hc : S[n]? = some (.lst xs)) (h2 : RE g env S d) (hl : xs.length ≤ 100000) (k : P .non (S.set n (.lst (xs ++ [d])))) : ES (appE f g env S) P :=
  es_app h1 hc (es_re h2 ⟨xs, hc, hl, k⟩)
end Lt
set_option maxRecDepth 100000
set_option maxHeartbeats 4000000
/-! Said, books, lists of the law's own. -/
namespace Lt
open PySem PySem.Spec PyProof.Rows L2
local macro_rules | `(tactic| array_get_dec) => `(tactic| first
  | ((with_reducible apply re_var) <;> rfl)
  | with_reducible exact re_cst
  | with_reducible exact ra_nil
  | with_reducible exact ro_no
  | with_reducible exact rt_yes
  | ((with_reducible apply ra_cons) <;> array_get_dec)
  | ((with_reducible apply ra_app) <;> array_get_dec)
  | ((with_reducible apply ro_so) <;> array_get_dec)
  | ((with_reducible apply re_pU) <;> array_get_dec)
  | ((with_reducible apply re_pB) <;> array_get_dec)
  | ((with_reducible apply re_pN1) <;> array_get_dec)
  | ((with_reducible apply re_pN2) <;> array_get_dec)
  | ((with_reducible apply re_tup) <;> array_get_dec)
  | ((with_reducible apply re_lst) <;> array_get_dec)
  | ((with_reducible apply re_slice) <;> array_get_dec)
  | ((with_reducible apply rt_tst) <;> array_get_dec)
  | ((with_reducible apply rt_not) <;> array_get_dec)
  | ((with_reducible apply rt_and) <;> array_get_dec)
  | ((with_reducible apply rt_or) <;> array_get_dec)
  | ((with_reducible apply re_and) <;> array_get_dec)
  | ((with_reducible apply re_or) <;> array_get_dec)
  | ((with_reducible apply re_not) <;> array_get_dec)
  | ((with_reducible apply re_ch) <;> array_get_dec)
  | ((with_reducible apply re_call) <;> array_get_dec)
  | ((with_reducible apply re_callE) <;> array_get_dec)
  | ((with_reducible apply ri_walkT) <;> array_get_dec) | ((with_reducible apply ri_walkL) <;> array_get_dec)
  | with_reducible exact v_non | with_reducible exact v_bl | with_reducible exact v_int | with_reducible exact v_str | with_reducible exact v_tup | with_reducible exact v_lst | with_reducible exact v_scr | with_reducible exact v_dic
  | with_reducible exact vw_wd _ | with_reducible exact vw_k _ | with_reducible exact vw_ow _
  | ((with_reducible apply v_ref) <;> (with_reducible assumption)) | ((with_reducible apply vw_nice) <;> (with_reducible assumption))
  | with_reducible exact t_bl | with_reducible exact t_int | with_reducible exact t_tup | with_reducible exact t_lst | with_reducible exact t_non
  | ((with_reducible apply c_modN) <;> omega) | with_reducible exact c_addN | with_reducible exact c_addN1 | with_reducible exact c_add1N
  | with_reducible exact c_lt | with_reducible exact c_le | with_reducible exact c_gt | with_reducible exact c_ge | with_reducible exact c_add | with_reducible exact c_sub | with_reducible exact c_neg | with_reducible exact c_eqI | with_reducible exact c_neI | with_reducible exact c_eqE | with_reducible exact c_isiT | with_reducible exact c_intI | with_reducible exact c_max | with_reducible exact c_min
  | ((with_reducible apply c_mod) <;> omega)
  | ((with_reducible apply c_div) <;> omega)
  | with_reducible exact w_b | with_reducible exact w_g | with_reducible exact w_l | with_reducible exact w_e | with_reducible exact n_b | with_reducible exact n_g | with_reducible exact n_l | with_reducible exact n_e
  | with_reducible exact eq_wd _ _ | with_reducible exact ne_wd _ _ | with_reducible exact eq_kw _ | with_reducible exact eq_kn _ | with_reducible exact ow_isN | with_reducible exact ow_nisN
  | with_reducible exact tp_lst | with_reducible exact tp_tup | with_reducible exact l_tupM | with_reducible exact l_lstM | with_reducible exact l_tup | with_reducible exact l_lst | with_reducible exact l_scr
  | ((with_reducible apply i_tupM) <;> (with_reducible assumption)) | ((with_reducible apply i_lstM) <;> (with_reducible assumption)) | ((with_reducible apply i_tupL) <;> (with_reducible assumption)) | ((with_reducible apply i_lstL) <;> (with_reducible assumption))
  | with_reducible exact i_tup0 | with_reducible exact i_tup1 | with_reducible exact i_tup2 | with_reducible exact i_lst0 | with_reducible exact i_lst1 | with_reducible exact i_lst2
  | ((with_reducible apply s_cutM) <;> omega) | ((with_reducible apply s_toM) <;> omega) | ((with_reducible apply s_fromM) <;> omega)
  | with_reducible exact t_all | with_reducible exact bools_any
  | ((with_reducible apply a_tupM) <;> (first | omega | (simp only [List.length_take, List.length_drop, List.length_append, List.length_map, List.length_cons, List.length_nil, List.length_replicate]; omega)))
  | ((with_reducible apply a_lstM) <;> (first | omega | (simp only [List.length_take, List.length_drop, List.length_append, List.length_map, List.length_cons, List.length_nil, List.length_replicate]; omega)))
  | ((with_reducible apply a_tup) <;> (first | omega | (simp only [List.length_take, List.length_drop, List.length_append, List.length_map, List.length_cons, List.length_nil, List.length_replicate]; omega)))
  | ((with_reducible apply a_lst) <;> (first | omega | (simp only [List.length_take, List.length_drop, List.length_append, List.length_map, List.length_cons, List.length_nil, List.length_replicate]; omega)))
  | ((with_reducible apply Nat.le_of_ble_eq_true) <;> rfl)
  | (intro _; array_get_dec)
  | (with_reducible assumption))
local macro_rules | `(tactic| sizeOf_list_dec) => `(tactic| try simp only [List.map_cons, List.map_nil, List.length_cons, List.length_nil, List.replicate, List.cons_append, List.nil_append, Nat.reduceSub, Nat.reduceAdd, Nat.sub_self, Nat.zero_add, List.set_cons_zero, List.set_cons_succ, wipeE])
local macro_rules | `(tactic| bv_omega) => `(tactic| first
  | (with_reducible apply ss_seq)
  | ((with_reducible apply ss_setp); (· array_get_dec); sizeOf_list_dec)
  | ((with_reducible apply ss_par2p); (· array_get_dec); (· array_get_dec); sizeOf_list_dec)
  | ((with_reducible apply ss_dropp); (· array_get_dec); sizeOf_list_dec)
  | ((with_reducible apply ss_retp); (· array_get_dec); try dsimp only)
  | ((with_reducible apply ss_if); (· array_get_dec))
  | ((with_reducible apply es_re); (· array_get_dec); sizeOf_list_dec)
  | ((with_reducible apply as_ra); (· array_get_dec); sizeOf_list_dec)
  | ((with_reducible apply ts_rt); (· array_get_dec); sizeOf_list_dec)
  | ((with_reducible apply os_ro); (· array_get_dec); sizeOf_list_dec)
  | ((with_reducible apply es_call); (· array_get_dec); sizeOf_list_dec)
  | (with_reducible apply ss_set) | (with_reducible apply ss_ret) | (with_reducible apply ss_drop) | (with_reducible apply ss_par2)
  | (with_reducible apply as_cons) | (with_reducible apply es_callS) | (with_reducible apply es_callES) | (with_reducible apply es_sliceS) | (with_reducible apply es_tupS) | (with_reducible apply es_lstS) | (with_reducible apply es_pB) | (with_reducible apply es_pU) | (with_reducible apply es_pNS)
  | (with_reducible apply ts_tst) | (with_reducible apply ts_not)
  | ((with_reducible apply pb_of); (· array_get_dec); (· array_get_dec); (· array_get_dec); sizeOf_list_dec)
  | ((with_reducible apply pu_of); (· array_get_dec); (· array_get_dec); sizeOf_list_dec)
  | ((with_reducible apply pn_of1); (· array_get_dec); (· array_get_dec); sizeOf_list_dec)
  | ((with_reducible apply pn_of2); (· array_get_dec); (· array_get_dec); (· array_get_dec); sizeOf_list_dec)
  | ((with_reducible apply pt_of); (· array_get_dec); (· array_get_dec); sizeOf_list_dec)
  | ((with_reducible apply as_nil); try dsimp only)
  | ((with_reducible apply ss_nx); sizeOf_list_dec))
local macro_rules | `(tactic| clean_wf) => `(tactic| first
  | ((with_reducible apply es_if); (· array_get_dec))
  | (with_reducible apply es_ifS) | (with_reducible apply es_andS) | (with_reducible apply ts_and) | (with_reducible apply ts_or) | (with_reducible apply ss_ifS))
/-! typed equality -/
structure EqE {α : Type} [DecidableEq α] (e : α → D) (n : Nat) : Prop where
  lay : ∀ k a, lay (n + k) (e a) = true
  de : ∀ a b, deq (e a) (e b) = decide (a = b)
theorem lay_up : ∀ {n : Nat} {d : D}, lay n d = true → lay (n + 1) d = true := by
  intro n
  induction n with
  | zero => intro d h; cases d <;> first | exact h | rfl | (simp [lay] at h)
  | succ n ih =>
    intro d h
    cases d with
    | tup xs => simp only [lay, List.all_eq_true] at h ⊢; exact fun x hx => ih (h x hx)
    | lst xs => simp only [lay, List.all_eq_true] at h ⊢; exact fun x hx => ih (h x hx)
    | _ => first | exact h | rfl | (simp [lay] at h)
theorem lay_add {n : Nat} {d : D} (h : lay n d = true) : ∀ k, lay (n + k) d = true
  | 0 => h
  | k + 1 => lay_up (lay_add h k)
theorem ee_wd : EqE wd 0 := ⟨fun k a => lay_add (n := 0) (by cases a <;> decide +kernel) k, deq_wd⟩
theorem ee_k : EqE kD 0 := ⟨fun k a => lay_add (n := 0) (by cases a <;> decide +kernel) k, fun a b => by cases a <;> cases b <;> decide +kernel⟩
theorem ee_int : EqE D.int 0 := ⟨fun k a => lay_add (n := 0) rfl k, fun a b => deq_int⟩
theorem ee_nat : EqE (fun n : Nat => D.int (n : Int)) 0 := ⟨fun k a => lay_add (n := 0) rfl k, fun a b => by rw [deq_int]; exact decide_eq_decide.mpr Int.ofNat_inj⟩
theorem ee_ow : EqE owD 0 := ⟨fun k a => lay_add (n := 0) (d := owD a) (by cases a with | none => rfl | some a => cases a <;> decide +kernel) k, fun a b => by rcases a with _ | a <;> rcases b with _ | b <;> first | rfl | (cases a <;> first | rfl | (cases b <;> decide +kernel)) | (cases b <;> rfl)⟩
section
variable {α β : Type} [DecidableEq α] [DecidableEq β] {e : α → D} {f : β → D} {n m : Nat}
theorem eqv_list (h : EqE e n) : ∀ xs ys : List α, PyData.eqvAll (pyL (xs.map e)) (pyL (ys.map e)) = decide (xs = ys)
  | [], [] => by simp [pyL, PyData.eqvAll]
  | [], _ :: _ => by simp [pyL, PyData.eqvAll]
  | _ :: _, [] => by simp [pyL, PyData.eqvAll]
  | x :: xs, y :: ys => by
    have h1 : PyData.eqv (py (e x)) (py (e y)) = decide (x = y) := h.de x y
    simp only [List.map_cons, pyL, PyData.eqvAll, h1, eqv_list h xs ys]
    simp
theorem ee_tup (h : EqE e n) : EqE (fun xs : List α => D.tup (xs.map e)) (n + 1) where
  lay k xs := by
    rw [show n + 1 + k = (n + k) + 1 by omega]
    simp only [Lt.lay, List.all_map, List.all_eq_true]
    exact fun x _ => h.lay k x
  de xs ys := by
    unfold deq
    simp only [py, PyData.eqv]
    exact eqv_list h xs ys
theorem ee_lst (h : EqE e n) : EqE (fun xs : List α => D.lst (xs.map e)) (n + 1) where
  lay k xs := by
    rw [show n + 1 + k = (n + k) + 1 by omega]
    simp only [Lt.lay, List.all_map, List.all_eq_true]
    exact fun x _ => h.lay k x
  de xs ys := by
    unfold deq
    simp only [py, PyData.eqv]
    exact eqv_list h xs ys
theorem ee_pair (h : EqE e n) (g : EqE f n) : EqE (fun p : α × β => D.tup [e p.1, f p.2]) (n + 1) where
  lay k p := by
    rw [show n + 1 + k = (n + k) + 1 by omega]
    simp only [Lt.lay, List.all_cons, List.all_nil, h.lay, g.lay]; rfl
  de p q := by
    unfold deq
    have h1 : PyData.eqv (py (e p.1)) (py (e q.1)) = decide (p.1 = q.1) := h.de _ _
    have h2 : PyData.eqv (py (f p.2)) (py (f q.2)) = decide (p.2 = q.2) := g.de _ _
    simp only [py, pyL, PyData.eqv, PyData.eqvAll, h1, h2]
    rw [Bool.eq_iff_iff]
    simp [Prod.ext_iff]
theorem EqE.up (h : EqE e n) : EqE e (n + 1) := ⟨fun k a => by rw [show n + 1 + k = n + (k + 1) by omega]; exact h.lay _ _, h.de⟩
theorem EqE.eq (h : EqE e n) (hn : n ≤ 39) (a b : α) : eqD (e a) (e b) = some (.bl (decide (a = b))) := by
  have : ∀ a, Lt.lay 40 (e a) = true := fun a => by have := h.lay (40 - n) a; rwa [show n + (40 - n) = 40 by omega] at this
  unfold eqD; rw [this, this, h.de]; rfl
theorem EqE.ne (h : EqE e n) (hn : n ≤ 39) (a b : α) : neD (e a) (e b) = some (.bl (!decide (a = b))) := by
  have : ∀ a, Lt.lay 40 (e a) = true := fun a => by have := h.lay (40 - n) a; rwa [show n + (40 - n) = 40 by omega] at this
  unfold neD; rw [this, this, h.de]; rfl
theorem eq_tupM (h : EqE e n) (hn : n ≤ 38) (xs ys : List α) : eqDD (.tup (xs.map e)) (.tup (ys.map e)) = some (.bl (decide (xs = ys))) := by
  show (if (ys.map e).isEmpty = true then some (D.bl (xs.map e).isEmpty) else eqD (.tup (xs.map e)) (.tup (ys.map e))) = _
  by_cases hy : ys = []
  · subst hy; cases xs <;> simp
  · rw [if_neg (by simpa using hy)]
    exact (ee_tup h).eq (by omega) xs ys
end
/-! what is said, told by the law -/
def LSaidOk (φ : Fn) : Prop := ∀ (ws : List Wo) (x : Ki) (day : Nat) (S : Store), x ≠ .n → day < ws.length → ws.length ≤ 1000 → φ [kD x, .tup (ws.map wd), .int (day : Int)] S = .ok (owD (said x ws day)) S
theorem near_all {ns : List Wo} {c l : Wo} (h0 : ns.head? = some c) (h1 : ns.getLast? = some l) : decide (ns = List.replicate ns.length c) = ns.all fun z => decide (z = l) := by
  rw [Bool.eq_iff_iff, decide_eq_true_eq, List.all_eq_true]
  constructor
  · intro h
    have hm : l ∈ List.replicate ns.length c := by rw [← h]; exact List.mem_of_getLast? h1
    have : l = c := List.eq_of_mem_replicate hm
    subst this
    intro z hz
    rw [h] at hz
    exact decide_eq_true (List.eq_of_mem_replicate hz)
  · intro h
    have hc : c = l := by simpa using h c (List.mem_of_head? h0)
    subst hc
    exact List.eq_replicate_iff.mpr ⟨rfl, fun b hb => by simpa using h b hb⟩
theorem mul_tup {xs : List D} {k : Int} (h0 : xs.isEmpty = false) (h1 : 2 ≤ k) (h2 : k ≤ 1000) (h3 : xs.length ≤ 1000) : mulDD (.tup xs) (.int k) = some (.tup (List.replicate k.toNat xs).flatten) := by
  unfold mulDD
  simp only []
  rw [if_pos ⟨Int.le_trans (by decide) h1, Int.lt_of_le_of_lt h2 (by decide)⟩, if_neg (by rw [h0]; simp; omega), if_neg (by omega), if_pos ⟨h2, h3⟩]
theorem mul_tup1 {xs : List D} : mulDD (.tup xs) (.int 1) = some (.tup xs) := by
  unfold mulDD
  simp only []
  rw [if_pos ⟨by decide, by decide⟩, if_pos (.inr trivial)]
theorem rep_mul {c : Wo} {n : Nat} (h : n ≤ 1000) (h1 : 1 ≤ n) : mulDD (.tup ([c].map wd)) (.int (n : Int)) = some (.tup ((List.replicate n c).map wd)) := by
  by_cases h2 : n = 1
  · subst h2; exact mul_tup1
  · rw [mul_tup rfl (by omega) (by omega) (by simp), Int.toNat_natCast, List.map_replicate]
    have : (List.replicate n ([c].map wd)).flatten = List.replicate n (wd c) := List.flatten_replicate_singleton
    rw [this]
theorem lsaid_ok : LSaidOk (runB bLSaid 4) := by
  intro ws x day S hn hd hl
  obtain ⟨c, hc⟩ : ∃ c, ws[day]? = some c := ⟨_, List.getElem?_eq_getElem hd⟩
  refine re_of ?_; sizeOf_list_dec
  bv_omega; bv_omega
  · intro hx
    have hx : x = .w := by simpa using hx
    subst hx
    have hs : said .w ws day = if c = .b then none else some c := by
      unfold said
      show over .w ((ws.take (day + 1)).drop (day - 0)) = _
      have : (ws.take (day + 1)).drop (day - 0) = [c] := by
        rw [Nat.sub_zero, List.drop_take, Nat.add_sub_cancel_left, List.take_one, List.head?_drop, hc]; rfl
      rw [this]; rfl
    rw [hs]
    refine ss_ret ?_
    clean_wf
    · intro hb; rw [if_pos (by simpa using hb)]; exact es_re (d := .non) (by array_get_dec) ⟨rfl, rfl⟩
    · intro hb; rw [if_neg (by simpa using hb)]; exact es_re (d := wd c) (by array_get_dec) ⟨rfl, rfl⟩
  · intro hx
    have hx : x ≠ .w := by simpa using hx
    bv_omega
    obtain ⟨m, hm, hk⟩ : ∃ m : Nat, spn x = m ∧ kD x = .int (m : Int) := by
      cases x with
      | w => exact absurd rfl hx
      | n => exact absurd rfl hn
      | a => exact ⟨1, rfl, rfl⟩
      | b => exact ⟨2, rfl, rfl⟩
    rw [hk]
    bv_omega; bv_omega
    have e1 : ((ws.take ((day + 1 : Nat) : Int).toNat).drop (max 0 ((day : Int) - m)).toNat) = (ws.take (day + 1)).drop (day - spn x) := by
      rw [show ((day + 1 : Nat) : Int).toNat = day + 1 by omega, show (max 0 ((day : Int) - m)).toNat = day - spn x by omega]
    rw [e1]
    generalize hns : (ws.take (day + 1)).drop (day - spn x) = ns
    have hlen : ns.length = day + 1 - (day - spn x) := by rw [← hns, List.length_drop, List.length_take]; omega
    obtain ⟨l, hlast⟩ : ∃ l, ns.getLast? = some l := by
      cases q : ns.getLast? with
      | none => rw [List.getLast?_eq_none_iff] at q; subst q; simp at hlen; omega
      | some l => exact ⟨l, rfl⟩
    have hlc : l = c := by
      have : ns.getLast? = ws[day]? := by
        rw [← hns, List.getLast?_eq_getElem?, List.length_drop, List.length_take, List.getElem?_drop, List.getElem?_take]
        rw [if_pos (by omega)]
        congr 1; omega
      rw [hlast, hc] at this; exact Option.some.inj this
    subst hlc
    obtain ⟨c0, hc0⟩ : ∃ c0, ns.head? = some c0 := by
      cases ns with
      | nil => simp at hlast
      | cons z zs => exact ⟨z, rfl⟩
    have ht : ns.take (1 : Int).toNat = [c0] := by
      show ns.take 1 = [c0]
      rw [List.take_one, hc0]; rfl
    have ho : said x ws day = if (ns.all fun z => decide (z = l)) = true then none else some l := by
      unfold said
      rw [hns]
      unfold over
      rw [hlast]
      cases x <;> first | exact absurd rfl hx | rfl
    have hm1 : mulDD (.tup ((ns.take (1 : Int).toNat).map wd)) (.int (ns.length : Int)) = some (.tup ((List.replicate ns.length c0).map wd)) := by rw [ht]; exact rep_mul (by omega) (by omega)
    have hq := eq_tupM ee_wd (by decide) ns (List.replicate ns.length c0)
    rw [near_all hc0 hlast] at hq
    rw [ho]
    refine ss_ret ?_
    clean_wf
    · intro hb; rw [if_pos hb]; exact es_re (d := .non) (by array_get_dec) ⟨rfl, rfl⟩
    · intro hb; rw [hb, if_neg (by decide)]; exact es_re (d := wd l) (by array_get_dec) ⟨rfl, rfl⟩
end Lt
set_option maxRecDepth 100000
set_option maxHeartbeats 4000000
/-! Books and lists of the law's own. -/
namespace Lt
open PySem PySem.Spec PyProof.Rows L2
local macro_rules | `(tactic| array_get_dec) => `(tactic| first
  | ((with_reducible apply re_var) <;> rfl)
  | with_reducible exact re_cst
  | with_reducible exact ra_nil
  | with_reducible exact ro_no
  | with_reducible exact rt_yes
  | ((with_reducible apply ra_cons) <;> array_get_dec)
  | ((with_reducible apply ra_app) <;> array_get_dec)
  | ((with_reducible apply ro_so) <;> array_get_dec)
  | ((with_reducible apply re_pU) <;> array_get_dec)
  | ((with_reducible apply re_pB) <;> array_get_dec)
  | ((with_reducible apply re_pN1) <;> array_get_dec)
  | ((with_reducible apply re_pN2) <;> array_get_dec)
  | ((with_reducible apply re_tup) <;> array_get_dec)
  | ((with_reducible apply re_lst) <;> array_get_dec)
  | ((with_reducible apply re_slice) <;> array_get_dec)
  | ((with_reducible apply rt_tst) <;> array_get_dec)
  | ((with_reducible apply rt_not) <;> array_get_dec)
  | ((with_reducible apply rt_and) <;> array_get_dec)
  | ((with_reducible apply rt_or) <;> array_get_dec)
  | ((with_reducible apply re_and) <;> array_get_dec)
  | ((with_reducible apply re_or) <;> array_get_dec)
  | ((with_reducible apply re_not) <;> array_get_dec)
  | ((with_reducible apply re_ch) <;> array_get_dec)
  | ((with_reducible apply re_call) <;> array_get_dec)
  | ((with_reducible apply re_callE) <;> array_get_dec)
  | ((with_reducible apply ri_walkT) <;> array_get_dec) | ((with_reducible apply ri_walkL) <;> array_get_dec)
  | with_reducible exact v_non | with_reducible exact v_bl | with_reducible exact v_int | with_reducible exact v_str | with_reducible exact v_tup | with_reducible exact v_lst | with_reducible exact v_scr | with_reducible exact v_dic
  | with_reducible exact vw_wd _ | with_reducible exact vw_k _ | with_reducible exact vw_ow _
  | ((with_reducible apply v_ref) <;> (with_reducible assumption)) | ((with_reducible apply vw_nice) <;> (with_reducible assumption))
  | with_reducible exact t_bl | with_reducible exact t_int | with_reducible exact t_tup | with_reducible exact t_lst | with_reducible exact t_non
  | ((with_reducible apply c_modN) <;> omega) | with_reducible exact c_addN | with_reducible exact c_addN1 | with_reducible exact c_add1N
  | with_reducible exact c_lt | with_reducible exact c_le | with_reducible exact c_gt | with_reducible exact c_ge | with_reducible exact c_add | with_reducible exact c_sub | with_reducible exact c_neg | with_reducible exact c_eqI | with_reducible exact c_neI | with_reducible exact c_eqE | with_reducible exact c_isiT | with_reducible exact c_intI | with_reducible exact c_max | with_reducible exact c_min
  | ((with_reducible apply c_mod) <;> omega)
  | ((with_reducible apply c_div) <;> omega)
  | with_reducible exact w_b | with_reducible exact w_g | with_reducible exact w_l | with_reducible exact w_e | with_reducible exact n_b | with_reducible exact n_g | with_reducible exact n_l | with_reducible exact n_e
  | with_reducible exact eq_wd _ _ | with_reducible exact ne_wd _ _ | with_reducible exact eq_kw _ | with_reducible exact eq_kn _ | with_reducible exact ow_isN | with_reducible exact ow_nisN
  | with_reducible exact tp_lst | with_reducible exact tp_tup | with_reducible exact l_tupM | with_reducible exact l_lstM | with_reducible exact l_tup | with_reducible exact l_lst | with_reducible exact l_scr
  | ((with_reducible apply i_tupM) <;> (with_reducible assumption)) | ((with_reducible apply i_lstM) <;> (with_reducible assumption)) | ((with_reducible apply i_tupL) <;> (with_reducible assumption)) | ((with_reducible apply i_lstL) <;> (with_reducible assumption))
  | with_reducible exact i_tup0 | with_reducible exact i_tup1 | with_reducible exact i_tup2 | with_reducible exact i_lst0 | with_reducible exact i_lst1 | with_reducible exact i_lst2
  | ((with_reducible apply s_cutM) <;> omega) | ((with_reducible apply s_toM) <;> omega) | ((with_reducible apply s_fromM) <;> omega)
  | with_reducible exact t_all | with_reducible exact bools_any
  | ((with_reducible apply a_tupM) <;> (first | omega | (simp only [List.length_take, List.length_drop, List.length_append, List.length_map, List.length_cons, List.length_nil, List.length_replicate]; omega)))
  | ((with_reducible apply a_lstM) <;> (first | omega | (simp only [List.length_take, List.length_drop, List.length_append, List.length_map, List.length_cons, List.length_nil, List.length_replicate]; omega)))
  | ((with_reducible apply a_tup) <;> (first | omega | (simp only [List.length_take, List.length_drop, List.length_append, List.length_map, List.length_cons, List.length_nil, List.length_replicate]; omega)))
  | ((with_reducible apply a_lst) <;> (first | omega | (simp only [List.length_take, List.length_drop, List.length_append, List.length_map, List.length_cons, List.length_nil, List.length_replicate]; omega)))
  | ((with_reducible apply Nat.le_of_ble_eq_true) <;> rfl)
  | (intro _; array_get_dec)
  | (with_reducible assumption))
local macro_rules | `(tactic| sizeOf_list_dec) => `(tactic| try simp only [List.map_cons, List.map_nil, List.length_cons, List.length_nil, List.replicate, List.cons_append, List.nil_append, Nat.reduceSub, Nat.reduceAdd, Nat.sub_self, Nat.zero_add, List.set_cons_zero, List.set_cons_succ, wipeE])
local macro_rules | `(tactic| bv_omega) => `(tactic| first
  | (with_reducible apply ss_seq)
  | ((with_reducible apply ss_setp); (· array_get_dec); sizeOf_list_dec)
  | ((with_reducible apply ss_par2p); (· array_get_dec); (· array_get_dec); sizeOf_list_dec)
  | ((with_reducible apply ss_dropp); (· array_get_dec); sizeOf_list_dec)
  | ((with_reducible apply ss_retp); (· array_get_dec); try dsimp only)
  | ((with_reducible apply ss_if); (· array_get_dec))
  | ((with_reducible apply es_re); (· array_get_dec); sizeOf_list_dec)
  | ((with_reducible apply as_ra); (· array_get_dec); sizeOf_list_dec)
  | ((with_reducible apply ts_rt); (· array_get_dec); sizeOf_list_dec)
  | ((with_reducible apply os_ro); (· array_get_dec); sizeOf_list_dec)
  | ((with_reducible apply es_call); (· array_get_dec); sizeOf_list_dec)
  | (with_reducible apply ss_set) | (with_reducible apply ss_ret) | (with_reducible apply ss_drop) | (with_reducible apply ss_par2)
  | (with_reducible apply as_cons) | (with_reducible apply es_callS) | (with_reducible apply es_callES) | (with_reducible apply es_sliceS) | (with_reducible apply es_tupS) | (with_reducible apply es_lstS) | (with_reducible apply es_pB) | (with_reducible apply es_pU) | (with_reducible apply es_pNS)
  | (with_reducible apply ts_tst) | (with_reducible apply ts_not)
  | ((with_reducible apply pb_of); (· array_get_dec); (· array_get_dec); (· array_get_dec); sizeOf_list_dec)
  | ((with_reducible apply pu_of); (· array_get_dec); (· array_get_dec); sizeOf_list_dec)
  | ((with_reducible apply pn_of1); (· array_get_dec); (· array_get_dec); sizeOf_list_dec)
  | ((with_reducible apply pn_of2); (· array_get_dec); (· array_get_dec); (· array_get_dec); sizeOf_list_dec)
  | ((with_reducible apply pt_of); (· array_get_dec); (· array_get_dec); sizeOf_list_dec)
  | ((with_reducible apply as_nil); try dsimp only)
  | ((with_reducible apply ss_nx); sizeOf_list_dec))
local macro_rules | `(tactic| clean_wf) => `(tactic| first
  | ((with_reducible apply es_if); (· array_get_dec))
  | (with_reducible apply es_ifS) | (with_reducible apply es_andS) | (with_reducible apply ts_and) | (with_reducible apply ts_or) | (with_reducible apply ss_ifS))
theorem Dr.app {S : Store} {n : Nat} (h : Dr S n) (c : Cell) : Dr (S ++ [c]) n := dr_app h c
theorem Ke.trans {S S1 S2 : Store} (h : Ke S S1) (k : Ke S1 S2) : Ke S S2 := ⟨fun j hj => (k.1 j (Nat.lt_of_lt_of_le hj h.2)).trans (h.1 j hj), Nat.le_trans h.2 k.2⟩
theorem Ke.app (S : Store) (c : Cell) : Ke S (S ++ [c]) := ⟨fun j hj => List.getElem?_append_left hj, by simp⟩
/-- a list of one's own, nothing else changed -/
structure Lo (m : Nat) (S0 S : Store) (xs : List D) : Prop where
  ke : Ke S0 S
  cell : S[m]? = some (.lst xs)
  own : S0.length ≤ m
theorem Lo.new (S0 : Store) (xs : List D) : Lo S0.length S0 (S0 ++ [.lst xs]) xs := ⟨Ke.app _ _, by rw [List.getElem?_append_right (Nat.le_refl _), Nat.sub_self]; rfl, Nat.le_refl _⟩
theorem Lo.app {m : Nat} {S0 S : Store} {xs : List D} (l : Lo m S0 S xs) (d : D) : Lo m S0 (S.set m (.lst (xs ++ [d]))) (xs ++ [d]) :=
  ⟨⟨fun j hj => by rw [List.getElem?_set_ne (by have := l.own; omega)]; exact l.ke.1 j hj, by rw [List.length_set]; exact l.ke.2⟩, set_get l.cell, l.own⟩
def LListOk (φ : Fn) : Prop := ∀ (p : List Ki) (bk : List (Nat × List Wo)) (day : Nat) (x : Ki) (S : Store), bk.length ≤ 40 → (∀ q ∈ bk, day < q.2.length ∧ q.2.length ≤ 1000) → p[day % p.length]? = some x → ES (φ [.tup (p.map kD), .tup (bk.map pD), .int (day : Int)] S) fun d S' => d = listK x bk day ∧ Ke S S'
theorem told_snoc (x : Ki) (bk : List (Nat × List Wo)) (q : Nat × List Wo) (day : Nat) : told x (bk ++ [q]) day = told x bk day ++ (match said x q.2 day with | some w => [(q.1, w)] | none => []) := by
  unfold told
  rw [List.filterMap_append]
  congr 1
  simp only [List.filterMap_cons, List.filterMap_nil]
  cases said x q.2 day <;> rfl
theorem told_len (x : Ki) (bk : List (Nat × List Wo)) (day : Nat) : (told x bk day).length ≤ bk.length := List.length_filterMap_le ..
theorem tup_cell {S : Store} {n : Nat} {xs : List D} (h : S[n]? = some (.lst xs)) {f : EF} {env : SV} (h1 : RE f env S (.ref n)) : RE (pN tupleD (consA f nilA)) env S (.tup xs) := by
  apply re_pN1 h1 (v_ref h); rfl
theorem llist_ok {φ : Fn} (hφ : LSaidOk φ) : LListOk (runB (bLList φ) 8) := by
  intro p bk day x S h0 hd hx
  have hp : 0 < p.length := by have := (List.getElem?_eq_some_iff.mp hx).1; omega
  with_reducible refine es_run ?_
  sizeOf_list_dec
  bv_omega
  refine ss_par2 (es_re (d := kD x) (by array_get_dec) (es_lstM (by array_get_dec) (Nat.zero_le _) ?_))
  sizeOf_list_dec
  bv_omega; bv_omega
  · intro hn
    have hn : x = .n := by simpa using hn
    bv_omega
    exact ⟨by unfold listK; rw [if_pos hn], Ke.app _ _⟩
  · intro hn
    have hn : x ≠ .n := by simpa using hn
    bv_omega; bv_omega
    refine ss_for (xs := bk) (e := pD) (fun pre e S' => (∃ a b c, e = [some (.tup (p.map kD)), some (.tup (bk.map pD)), some (.int (day : Int)), some (kD x), some (.ref S.length), a, b, c]) ∧ Lo S.length S S' ((told x pre day).map sD)) (ri_walkT (by array_get_dec)) ⟨⟨_, _, _, rfl⟩, Lo.new _ _⟩ (fun pre q post env S' e j => ?_) (fun env S' j => ?_)
    · obtain ⟨⟨a, b, c, rfl⟩, hl⟩ := j
      refine ⟨_, rfl, ?_⟩
      have hq := hd q (by rw [e]; simp)
      have hc := hl.cell
      sizeOf_list_dec
      bv_omega
      have hsd := hφ q.2 x day S' hn hq.1 hq.2
      bv_omega
      have ht := told_snoc x pre q day
      bv_omega
      · intro hs
        obtain ⟨w, hw⟩ := Option.isSome_iff_exists.mp hs
        refine ss_drop (es_appp (d := sD (q.1, w)) (by array_get_dec) hc ?_ ?_ ?_)
        · rw [hw]; exact re_tup (ds := [.int q.1, wd w]) (by array_get_dec) (by simp)
        · have := told_len x pre day; have := congrArg List.length e; simp at this ⊢; omega
        · refine ⟨⟨_, _, _, rfl⟩, ?_⟩
          rw [ht, hw, List.map_append]
          exact hl.app _
      · intro hs
        have hw : said x q.2 day = none := by simpa using hs
        bv_omega
        refine ⟨⟨_, _, _, rfl⟩, ?_⟩
        rw [ht, hw, List.append_nil]
        exact hl
    · obtain ⟨⟨a, b, c, rfl⟩, hl⟩ := j
      have hc := hl.cell
      refine ss_retp (re_tup (ra_cons (re_var rfl) (ra_cons (re_var rfl) (ra_cons (tup_cell hc (re_var rfl)) ra_nil))) (by simp)) ⟨?_, hl.ke⟩
      unfold listK; rw [if_neg hn]
/-! books are drawn -/
def lastOf {α : Type} : Nat → List (Nat × α) → Nat
  | l, [] => l
  | _, p :: r => lastOf p.1 r
theorem lastOf_snoc {α : Type} (q : Nat × α) : ∀ (l : Nat) (bk : List (Nat × α)), lastOf l (bk ++ [q]) = q.1
  | _, [] => rfl
  | _, p :: r => lastOf_snoc q p.1 r
theorem asc_snoc {α : Type} (q : Nat × α) (h2 : q.1 ≤ 999) : ∀ (l : Nat) (bk : List (Nat × α)), asc l bk → lastOf l bk < q.1 → asc l (bk ++ [q])
  | _, [], _, h => ⟨h, h2, trivial⟩
  | _, p :: r, ⟨h3, h4, h5⟩, h => ⟨h3, h4, asc_snoc q h2 p.1 r h5 h⟩
def LBookOk (φ : Fn) : Prop := ∀ {S : Store} {n many size : Nat}, Dr S n → many ≤ 40 → 1 ≤ size → size ≤ 61 → ES (φ [.ref n, .int (many : Int), .int (size : Int)] S) fun d S' => (∃ bk : List (Nat × List Wo), d = .tup (bk.map pD) ∧ GoodBk bk size ∧ bk.length = many) ∧ Dr S' n ∧ Ko S S' n
theorem lbook_ok {φ ψ : Fn} (hφ : TakeOk φ) (hψ : LineOk ψ) : LBookOk (runB (bLBook φ ψ) 6) := by
  intro S n many size h hm h1 h2
  with_reducible refine es_run ?_
  sizeOf_list_dec
  bv_omega
  refine ss_par2 (es_lstM (by array_get_dec) (Nat.zero_le _) (es_re re_cst ?_))
  sizeOf_list_dec
  bv_omega
  refine ss_rng (n := many) (fun i e S' => ∃ (bk : List (Nat × List Wo)) (num : Nat) (a : Option D), e = [some (.ref n), some (.int (many : Int)), some (.int (size : Int)), some (.ref S.length), some (.int (num : Int)), a] ∧ Lv n S.length S S' (bk.map pD) ∧ bk.length = i ∧ asc 0 bk ∧ lastOf 0 bk = num ∧ num ≤ 20 * i ∧ ∀ p ∈ bk, rowW p.2 = true ∧ p.2.length = size) (ri_rng (by array_get_dec) (by omega)) ⟨[], 0, none, rfl, Lv.new h _, rfl, trivial, rfl, by omega, fun p hp => nomatch hp⟩ (fun i env S' hi j => ?_) (fun env S' j => ?_)
  · obtain ⟨bk, num, a, rfl, hl, hb, hu, hlast, hn, hr⟩ := j
    refine ⟨_, rfl, ?_⟩
    sizeOf_list_dec
    have key : ∀ (c : Int), 0 < c → c ≤ 20 → ∀ S2, Lv n S.length S S2 (bk.map pD) → ES (φ [.ref n, .int c] S2) fun d S3 => ∃ r : Nat, d = .int (r : Int) ∧ r < 20 ∧ Lv n S.length S S3 (bk.map pD) := by
      intro c c0 c1 S2 l2
      refine es_mono (hφ l2.dr (by omega) (by omega)) fun d S3 ⟨⟨r, e, r0, r1⟩, hd, hk⟩ => ?_
      exact ⟨r.toNat, by rw [e, Int.toNat_of_nonneg r0], by omega, l2.draw h hd hk.o⟩
    repeat bv_omega
    clean_wf
    repeat bv_omega
    refine es_imp (key 3 (by decide) (by decide) _ hl) fun d S2 ⟨r, e, r1, l2⟩ => ?_
    subst e
    bv_omega; bv_omega; bv_omega
    constructor <;> intro _
    all_goals
      repeat bv_omega
      refine es_imp (key _ (by decide) (by decide) _ l2) fun d S3 ⟨r, e, r1, l3⟩ => ?_
      subst e
      bv_omega; bv_omega
      refine es_app (re_var rfl) l3.cell ?_
      repeat bv_omega
      refine es_mono (hψ l3.dr h1 h2) fun d S4 ⟨⟨ws, e, hw, hlen⟩, hd, hk⟩ => ?_
      subst e
      bv_omega
      have l4 := l3.draw h hd hk
      refine ⟨by simp, _, l4.cell, by simp; omega, ?_⟩
      have la := l4.app h (pD (num + 1 + r, ws))
      refine ⟨bk ++ [(num + 1 + r, ws)], num + 1 + r, _, rfl, ?_, by simp [hb], asc_snoc _ (by show num + 1 + r ≤ 999; omega) _ _ hu (by show lastOf 0 bk < num + 1 + r; omega), lastOf_snoc _ _ _, by omega, fun p hp => ?_⟩
      · rw [List.map_append]; exact la
      · rcases List.mem_append.mp hp with hp | hp
        · exact hr p hp
        · rw [List.mem_singleton] at hp; subst hp; exact ⟨hw, hlen⟩
  · obtain ⟨bk, num, a, rfl, hl, hb, hu, hlast, hn, hr⟩ := j
    refine ss_retp (tup_cell hl.cell (re_var rfl)) ⟨⟨bk, rfl, ⟨by omega, hu, hr, h2⟩, hb⟩, hl.dr, hl.ko⟩
end Lt
set_option maxRecDepth 100000
set_option maxHeartbeats 4000000
namespace Lt
open PySem PySem.Spec PyProof.Rows L2
local macro_rules | `(tactic| array_get_dec) => `(tactic| first
  | ((with_reducible apply re_var) <;> rfl)
  | with_reducible exact re_cst
  | with_reducible exact ra_nil
  | with_reducible exact ro_no
  | with_reducible exact rt_yes
  | ((with_reducible apply ra_cons) <;> array_get_dec)
  | ((with_reducible apply ra_app) <;> array_get_dec)
  | ((with_reducible apply ro_so) <;> array_get_dec)
  | ((with_reducible apply re_pU) <;> array_get_dec)
  | ((with_reducible apply re_pB) <;> array_get_dec)
  | ((with_reducible apply re_pN1) <;> array_get_dec)
  | ((with_reducible apply re_pN2) <;> array_get_dec)
  | ((with_reducible apply re_tup) <;> array_get_dec)
  | ((with_reducible apply re_lst) <;> array_get_dec)
  | ((with_reducible apply re_slice) <;> array_get_dec)
  | ((with_reducible apply rt_tst) <;> array_get_dec)
  | ((with_reducible apply rt_not) <;> array_get_dec)
  | ((with_reducible apply rt_and) <;> array_get_dec)
  | ((with_reducible apply rt_or) <;> array_get_dec)
  | ((with_reducible apply re_and) <;> array_get_dec)
  | ((with_reducible apply re_or) <;> array_get_dec)
  | ((with_reducible apply re_not) <;> array_get_dec)
  | ((with_reducible apply re_ch) <;> array_get_dec)
  | ((with_reducible apply re_call) <;> array_get_dec)
  | ((with_reducible apply re_callE) <;> array_get_dec)
  | ((with_reducible apply ri_walkT) <;> array_get_dec) | ((with_reducible apply ri_walkL) <;> array_get_dec)
  | with_reducible exact v_non | with_reducible exact v_bl | with_reducible exact v_int | with_reducible exact v_str | with_reducible exact v_tup | with_reducible exact v_lst | with_reducible exact v_scr | with_reducible exact v_dic
  | with_reducible exact vw_wd _ | with_reducible exact vw_k _ | with_reducible exact vw_ow _
  | ((with_reducible apply v_ref) <;> (with_reducible assumption)) | ((with_reducible apply vw_nice) <;> (with_reducible assumption))
  | with_reducible exact t_bl | with_reducible exact t_int | with_reducible exact t_tup | with_reducible exact t_lst | with_reducible exact t_non
  | ((with_reducible apply c_modN) <;> omega) | with_reducible exact c_addN | with_reducible exact c_addN1 | with_reducible exact c_add1N
  | with_reducible exact c_lt | with_reducible exact c_le | with_reducible exact c_gt | with_reducible exact c_ge | with_reducible exact c_add | with_reducible exact c_sub | with_reducible exact c_neg | with_reducible exact c_eqI | with_reducible exact c_neI | with_reducible exact c_eqE | with_reducible exact c_isiT | with_reducible exact c_intI | with_reducible exact c_max | with_reducible exact c_min
  | ((with_reducible apply c_mod) <;> omega)
  | ((with_reducible apply c_div) <;> omega)
  | with_reducible exact w_b | with_reducible exact w_g | with_reducible exact w_l | with_reducible exact w_e | with_reducible exact n_b | with_reducible exact n_g | with_reducible exact n_l | with_reducible exact n_e
  | with_reducible exact eq_wd _ _ | with_reducible exact ne_wd _ _ | with_reducible exact eq_kw _ | with_reducible exact eq_kn _ | with_reducible exact ow_isN | with_reducible exact ow_nisN
  | with_reducible exact tp_lst | with_reducible exact tp_tup | with_reducible exact l_tupM | with_reducible exact l_lstM | with_reducible exact l_tup | with_reducible exact l_lst | with_reducible exact l_scr
  | ((with_reducible apply i_tupM) <;> (with_reducible assumption)) | ((with_reducible apply i_lstM) <;> (with_reducible assumption)) | ((with_reducible apply i_tupL) <;> (with_reducible assumption)) | ((with_reducible apply i_lstL) <;> (with_reducible assumption))
  | with_reducible exact i_tup0 | with_reducible exact i_tup1 | with_reducible exact i_tup2 | with_reducible exact i_lst0 | with_reducible exact i_lst1 | with_reducible exact i_lst2
  | ((with_reducible apply s_cutM) <;> omega) | ((with_reducible apply s_toM) <;> omega) | ((with_reducible apply s_fromM) <;> omega)
  | with_reducible exact t_all | with_reducible exact bools_any
  | ((with_reducible apply a_tupM) <;> (first | omega | (simp only [List.length_take, List.length_drop, List.length_append, List.length_map, List.length_cons, List.length_nil, List.length_replicate]; omega)))
  | ((with_reducible apply a_lstM) <;> (first | omega | (simp only [List.length_take, List.length_drop, List.length_append, List.length_map, List.length_cons, List.length_nil, List.length_replicate]; omega)))
  | ((with_reducible apply a_tup) <;> (first | omega | (simp only [List.length_take, List.length_drop, List.length_append, List.length_map, List.length_cons, List.length_nil, List.length_replicate]; omega)))
  | ((with_reducible apply a_lst) <;> (first | omega | (simp only [List.length_take, List.length_drop, List.length_append, List.length_map, List.length_cons, List.length_nil, List.length_replicate]; omega)))
  | ((with_reducible apply Nat.le_of_ble_eq_true) <;> rfl)
  | (intro _; array_get_dec)
  | (with_reducible assumption))
local macro_rules | `(tactic| sizeOf_list_dec) => `(tactic| try simp only [List.map_cons, List.map_nil, List.length_cons, List.length_nil, List.replicate, List.cons_append, List.nil_append, Nat.reduceSub, Nat.reduceAdd, Nat.sub_self, Nat.zero_add, List.set_cons_zero, List.set_cons_succ, wipeE])
local macro_rules | `(tactic| bv_omega) => `(tactic| first
  | (with_reducible apply ss_seq)
  | ((with_reducible apply ss_setp); (· array_get_dec); sizeOf_list_dec)
  | ((with_reducible apply ss_par2p); (· array_get_dec); (· array_get_dec); sizeOf_list_dec)
  | ((with_reducible apply ss_dropp); (· array_get_dec); sizeOf_list_dec)
  | ((with_reducible apply ss_retp); (· array_get_dec); try dsimp only)
  | ((with_reducible apply ss_if); (· array_get_dec))
  | ((with_reducible apply es_re); (· array_get_dec); sizeOf_list_dec)
  | ((with_reducible apply as_ra); (· array_get_dec); sizeOf_list_dec)
  | ((with_reducible apply ts_rt); (· array_get_dec); sizeOf_list_dec)
  | ((with_reducible apply os_ro); (· array_get_dec); sizeOf_list_dec)
  | ((with_reducible apply es_call); (· array_get_dec); sizeOf_list_dec)
  | (with_reducible apply ss_set) | (with_reducible apply ss_ret) | (with_reducible apply ss_drop) | (with_reducible apply ss_par2)
  | (with_reducible apply as_cons) | (with_reducible apply es_callS) | (with_reducible apply es_callES) | (with_reducible apply es_sliceS) | (with_reducible apply es_tupS) | (with_reducible apply es_lstS) | (with_reducible apply es_pB) | (with_reducible apply es_pU) | (with_reducible apply es_pNS)
  | (with_reducible apply ts_tst) | (with_reducible apply ts_not)
  | ((with_reducible apply pb_of); (· array_get_dec); (· array_get_dec); (· array_get_dec); sizeOf_list_dec)
  | ((with_reducible apply pu_of); (· array_get_dec); (· array_get_dec); sizeOf_list_dec)
  | ((with_reducible apply pn_of1); (· array_get_dec); (· array_get_dec); sizeOf_list_dec)
  | ((with_reducible apply pn_of2); (· array_get_dec); (· array_get_dec); (· array_get_dec); sizeOf_list_dec)
  | ((with_reducible apply pt_of); (· array_get_dec); (· array_get_dec); sizeOf_list_dec)
  | ((with_reducible apply as_nil); try dsimp only)
  | ((with_reducible apply ss_nx); sizeOf_list_dec))
local macro_rules | `(tactic| clean_wf) => `(tactic| first
  | ((with_reducible apply es_if); (· array_get_dec))
  | (with_reducible apply es_ifS) | (with_reducible apply es_andS) | (with_reducible apply ts_and) | (with_reducible apply ts_or) | (with_reducible apply ss_ifS))
abbrev bLEarly (φ ψ : Fn) : SF :=
  seqS (forS (rng1 (cst (.int 6))) (gNm 3) (seqS (setS 4 (pB addD (sliceE (callP φ (consA (var 0) (consA (pN lenD (consA (var 1) nilA)) nilA))) noP (soP (var 2))) (sliceE (var 1) (soP (var 2)) noP))) (ifS (tst (pN allD (consA (lcE (lcA (rng1 (pB subD (pN lenD (consA (var 4) nilA)) (cst (.int 1)))) [5] (gNm 5) yesT (pB inD (pB ixD (var 4) (pB addD (var 5) (cst (.int 1)))) (callP ψ (consA (pB ixD (var 4) (var 5)) nilA))))) nilA))) (retS (var 4)) nextS))) (retS (var 1))
theorem adj_drop : ∀ (ws : List Wo) (i : Nat), adj ws = true → adj (ws.drop i) = true
  | _, 0, h => h
  | [], _ + 1, _ => rfl
  | [_], i + 1, _ => by simp [adj]
  | a :: c :: r, i + 1, h => by
    simp only [adj, Bool.and_eq_true] at h
    exact adj_drop (c :: r) i h.2
theorem adj_take : ∀ (ws : List Wo) (i : Nat), adj ws = true → adj (ws.take i) = true
  | _, 0, _ => rfl
  | [], _ + 1, _ => rfl
  | [_], i + 1, _ => by simp [adj]
  | a :: c :: r, 1, h => rfl
  | a :: c :: r, i + 2, h => by
    simp only [adj, Bool.and_eq_true] at h
    have := adj_take (c :: r) (i + 1) h.2
    show (stp a c && adj ((c :: r).take (i + 1))) = true
    rw [h.1, this]; rfl
theorem row_adj {ws : List Wo} (h : rowW ws = true) : adj ws = true := by
  cases ws with
  | nil => cases h
  | cons w r =>
    simp only [rowW, Bool.and_eq_true] at h
    exact h.2
theorem stp_b {a : Wo} (h : stp a .b = true) : a = .b := by cases a <;> first | rfl | cases h
theorem all_b : ∀ {ws : List Wo}, adj ws = true → ws.getLast? = some .b → (ws.all fun c => decide (c = .b)) = true
  | [a], _, h => by have : a = .b := by simpa using h
                    simp [this]
  | a :: c :: r, ha, h => by
    simp only [adj, Bool.and_eq_true] at ha
    have ih := all_b (ws := c :: r) ha.2 (by simpa using h)
    have hc : c = .b := by
      rw [List.all_cons, Bool.and_eq_true] at ih
      simpa using ih.1
    subst hc
    rw [List.all_cons, ih, stp_b ha.1]
    rfl
  | [], _, h => by cases h
theorem over_nb {ws : List Wo} {x : Ki} (h : adj ws = true) : over x ws ≠ some .b := by
  unfold over
  cases q : ws.getLast? with
  | none => simp
  | some l =>
    cases x with
    | w => by_cases hb : l = .b <;> simp [hb]
    | _ =>
      simp only []
      by_cases hb : l = .b
      · subst hb
        rw [if_pos (all_b h q)]
        simp
      · split
        · simp
        · intro z; cases z; exact hb rfl
theorem said_nb {ws : List Wo} {x : Ki} {day : Nat} (h : rowW ws = true) : said x ws day ≠ some .b := over_nb (adj_drop _ _ (adj_take _ _ (row_adj h)))
theorem asc_mono {α : Type} : ∀ {l : List (Nat × α)} {m n : Nat}, n ≤ m → asc m l → asc n l
  | [], _, _, _, _ => trivial
  | p :: r, m, n, h, ha => ⟨by have := ha.1; omega, ha.2.1, ha.2.2⟩
theorem asc_told (x : Ki) (day : Nat) : ∀ {bk : List (Nat × List Wo)} {m : Nat}, asc m bk → asc m (told x bk day)
  | [], _, _ => trivial
  | q :: r, m, h => by
    unfold told
    rw [List.filterMap_cons]
    have ih := asc_told x day (bk := r) (m := q.1) h.2.2
    cases hs : said x q.2 day with
    | none => exact asc_mono (by have := h.1; omega) ih
    | some w => exact ⟨h.1, h.2.1, ih⟩
theorem told_good {bk : List (Nat × List Wo)} {z day : Nat} {x : Ki} (h : GoodBk bk z) (hd : day < z) (hx : x ≠ .n) : GoodTd day x (told x bk day) := by
  have := h.z1
  refine ⟨by omega, hx, Nat.le_trans (List.length_filterMap_le ..) h.len, asc_told x day h.up, fun p hp => ?_⟩
  obtain ⟨q, hq, e⟩ := List.mem_filterMap.mp hp
  cases hs : said x q.2 day with
  | none => rw [hs] at e; cases e
  | some w =>
    rw [hs] at e; cases e
    intro z
    have := said_nb (x := x) (day := day) (h.rows q hq).1
    simp only at z
    rw [hs, z] at this
    exact this rfl
theorem row_take {ws : List Wo} {i : Nat} (h : rowW ws = true) (hi : 1 ≤ i) : rowW (ws.take i) = true := by
  cases ws with
  | nil => cases h
  | cons w r =>
    obtain ⟨j, rfl⟩ : ∃ j, i = j + 1 := ⟨i - 1, by omega⟩
    simp only [rowW, Bool.and_eq_true] at h
    show (decide (w = .b) && adj (w :: r.take j)) = true
    rw [h.1]
    exact adj_take (w :: r) (j + 1) h.2
theorem stp_in (a c : Wo) : inD (wd c) (.tup ((aft a).map wd)) = some (.bl (stp a c)) := by
  cases a <;> cases c <;> kernel_rfl
def atW (ws : List Wo) (i : Nat) : Bool := match ws[i]?, ws[i + 1]? with
  | some a, some c => stp a c
  | _, _ => false
theorem adj_at : ∀ ws : List Wo, ((List.range (ws.length - 1)).all fun i => atW ws i) = adj ws
  | [] => rfl
  | [_] => rfl
  | a :: c :: r => by
    have ih := adj_at (c :: r)
    simp only [List.length_cons, Nat.add_sub_cancel] at ih ⊢
    rw [List.range_succ_eq_map, List.all_cons, List.all_map]
    have e : ((List.range r.length).all ((fun i => atW (a :: c :: r) i) ∘ Nat.succ)) = (List.range r.length).all fun i => atW (c :: r) i := by
      congr 1
    rw [e, ih]
    rfl

theorem asc_le {α : Type} : ∀ {l : List (Nat × α)} {m : Nat}, asc m l → ∀ p ∈ l, m < p.1 ∧ p.1 ≤ 999
  | q :: r, m, h, p, hp => by
    rcases List.mem_cons.mp hp with rfl | hp
    · exact ⟨h.1, h.2.1⟩
    · have := asc_le h.2.2 p hp; have := h.1; omega
def LEarlyOk (φ : Fn) : Prop := ∀ {S : Store} {n first : Nat} {ws : List Wo}, Dr S n → rowW ws = true → ws.length ≤ 61 → first ≤ ws.length → ES (φ [.ref n, .tup (ws.map wd), .int (first : Int)] S) fun d S' => (∃ os : List Wo, d = .tup (os.map wd) ∧ rowW os = true ∧ os.length = ws.length ∧ os.drop first = ws.drop first) ∧ Dr S' n ∧ Ko S S' n
theorem row_len {ws : List Wo} (h : rowW ws = true) : 1 ≤ ws.length := by
  cases ws with
  | nil => cases h
  | cons a r => simp
theorem row_of_adj {os ws vs : List Wo} {i : Nat} (hv : rowW vs = true) (hw : rowW ws = true) (e : os = vs.take i ++ ws.drop i) (ha : adj os = true) : rowW os = true := by
  cases i with
  | zero => simp at e; subst e; exact hw
  | succ i =>
    cases vs with
    | nil => cases hv
    | cons v r =>
      simp only [rowW, Bool.and_eq_true] at hv
      subst e
      show (decide (v = .b) && adj (v :: (r.take i ++ ws.drop (i + 1)))) = true
      rw [hv.1]
      exact ha
theorem learly_ok {φ ψ : Fn} (hφ : LineOk φ) (hψ : AfterOk ψ) : LEarlyOk (runB (bLEarly φ ψ) 6) := by
  intro S n first ws h hr hl hf
  have h1 := row_len hr
  with_reducible refine es_run ?_
  sizeOf_list_dec
  bv_omega
  refine ss_rng (n := 6) (fun i e S' => (∃ a b c, e = [some (.ref n), some (.tup (ws.map wd)), some (.int (first : Int)), a, b, c]) ∧ Dr S' n ∧ Ko S S' n) (ri_rng (n := 6) re_cst (by decide)) ⟨⟨_, _, _, rfl⟩, h, Ko.refl _ _⟩ (fun i env S' hi j => ?_) (fun env S' j => ?_)
  · obtain ⟨⟨a, b, c, rfl⟩, hd, hk⟩ := j
    refine ⟨_, rfl, ?_⟩
    sizeOf_list_dec
    repeat bv_omega
    refine es_mono (hφ hd h1 hl) fun d S2 ⟨⟨vs, e, hv, hvl⟩, hd2, hk2⟩ => ?_
    subst e
    have hk3 := hk.trans hk2
    repeat bv_omega
    simp only [Int.toNat_natCast]
    generalize ho : vs.take first ++ ws.drop first = os
    have hol : os.length = ws.length := by rw [← ho, List.length_append, List.length_take, List.length_drop]; omega
    have ht : RE (pN allD (consA (lcE (lcA (rng1 (pB subD (pN lenD (consA (var 4) nilA)) (cst (.int 1)))) [5] (gNm 5) yesT (pB inD (pB ixD (var 4) (pB addD (var 5) (cst (.int 1)))) (callP ψ (consA (pB ixD (var 4) (var 5)) nilA))))) nilA)) [some (.ref n), some (.tup (ws.map wd)), some (.int (first : Int)), some (.int (i : Int)), some (.tup (os.map wd)), c] S2 (.bl (adj os)) := by
      rw [← adj_at]
      refine re_pN1 (re_lcv (xs := List.range (os.length - 1)) (e := fun (i : Nat) => D.int (i : Int)) (H := fun i => .bl (atW os i)) (ri_rngI (i := (os.length : Int) - 1) (by omega) (by array_get_dec) (by omega) (by omega)) (fun z hz => ⟨_, rfl, ?_⟩) (by simp; omega)) v_lst t_all
      sizeOf_list_dec
      have hz : z < os.length - 1 := List.mem_range.mp hz
      have h1 := List.getElem?_eq_getElem (show z < os.length by omega)
      have h2 := List.getElem?_eq_getElem (show z + 1 < os.length by omega)
      have e : atW os z = stp os[z] os[z + 1] := by unfold atW; rw [h1, h2]
      rw [e]
      have ha := hψ os[z] S2
      exact re_pB (by array_get_dec) (by array_get_dec) (by array_get_dec) (by array_get_dec) (stp_in _ _)
    bv_omega
    · intro ha
      bv_omega
      exact ⟨⟨os, rfl, row_of_adj hv hr ho.symm ha, hol, by rw [← ho, List.drop_append, List.drop_take, List.length_take]; simp; omega⟩, hd2, hk3⟩
    · intro ha
      bv_omega
      exact ⟨⟨_, _, _, rfl⟩, hd2, hk3⟩
  · obtain ⟨⟨a, b, c, rfl⟩, hd, hk⟩ := j
    bv_omega
    exact ⟨⟨ws, rfl, hr, rfl, rfl⟩, hd, hk⟩

end Lt
set_option maxRecDepth 100000
set_option maxHeartbeats 4000000
namespace Lt
open PySem PySem.Spec PyProof.Rows L2
local macro_rules | `(tactic| array_get_dec) => `(tactic| first
  | ((with_reducible apply re_var) <;> rfl)
  | with_reducible exact re_cst
  | with_reducible exact ra_nil
  | with_reducible exact ro_no
  | with_reducible exact rt_yes
  | ((with_reducible apply ra_cons) <;> array_get_dec)
  | ((with_reducible apply ra_app) <;> array_get_dec)
  | ((with_reducible apply ro_so) <;> array_get_dec)
  | ((with_reducible apply re_pU) <;> array_get_dec)
  | ((with_reducible apply re_pB) <;> array_get_dec)
  | ((with_reducible apply re_pN1) <;> array_get_dec)
  | ((with_reducible apply re_pN2) <;> array_get_dec)
  | ((with_reducible apply re_tup) <;> array_get_dec)
  | ((with_reducible apply re_lst) <;> array_get_dec)
  | ((with_reducible apply re_slice) <;> array_get_dec)
  | ((with_reducible apply rt_tst) <;> array_get_dec)
  | ((with_reducible apply rt_not) <;> array_get_dec)
  | ((with_reducible apply rt_and) <;> array_get_dec)
  | ((with_reducible apply rt_or) <;> array_get_dec)
  | ((with_reducible apply re_and) <;> array_get_dec)
  | ((with_reducible apply re_or) <;> array_get_dec)
  | ((with_reducible apply re_not) <;> array_get_dec)
  | ((with_reducible apply re_ch) <;> array_get_dec)
  | ((with_reducible apply re_call) <;> array_get_dec)
  | ((with_reducible apply re_callE) <;> array_get_dec)
  | ((with_reducible apply ri_walkT) <;> array_get_dec) | ((with_reducible apply ri_walkL) <;> array_get_dec)
  | with_reducible exact v_non | with_reducible exact v_bl | with_reducible exact v_int | with_reducible exact v_str | with_reducible exact v_tup | with_reducible exact v_lst | with_reducible exact v_scr | with_reducible exact v_dic
  | with_reducible exact vw_wd _ | with_reducible exact vw_k _ | with_reducible exact vw_ow _
  | ((with_reducible apply v_ref) <;> (with_reducible assumption)) | ((with_reducible apply vw_nice) <;> (with_reducible assumption))
  | with_reducible exact t_bl | with_reducible exact t_int | with_reducible exact t_tup | with_reducible exact t_lst | with_reducible exact t_non
  | ((with_reducible apply c_modN) <;> omega) | with_reducible exact c_addN | with_reducible exact c_addN1 | with_reducible exact c_add1N
  | with_reducible exact c_lt | with_reducible exact c_le | with_reducible exact c_gt | with_reducible exact c_ge | with_reducible exact c_add | with_reducible exact c_sub | with_reducible exact c_neg | with_reducible exact c_eqI | with_reducible exact c_neI | with_reducible exact c_eqE | with_reducible exact c_isiT | with_reducible exact c_intI | with_reducible exact c_max | with_reducible exact c_min
  | ((with_reducible apply c_mod) <;> omega)
  | ((with_reducible apply c_div) <;> omega)
  | with_reducible exact w_b | with_reducible exact w_g | with_reducible exact w_l | with_reducible exact w_e | with_reducible exact n_b | with_reducible exact n_g | with_reducible exact n_l | with_reducible exact n_e
  | with_reducible exact eq_wd _ _ | with_reducible exact ne_wd _ _ | with_reducible exact eq_kw _ | with_reducible exact eq_kn _ | with_reducible exact ow_isN | with_reducible exact ow_nisN
  | with_reducible exact tp_lst | with_reducible exact tp_tup | with_reducible exact l_tupM | with_reducible exact l_lstM | with_reducible exact l_tup | with_reducible exact l_lst | with_reducible exact l_scr
  | ((with_reducible apply i_tupM) <;> (with_reducible assumption)) | ((with_reducible apply i_lstM) <;> (with_reducible assumption)) | ((with_reducible apply i_tupL) <;> (with_reducible assumption)) | ((with_reducible apply i_lstL) <;> (with_reducible assumption))
  | with_reducible exact i_tup0 | with_reducible exact i_tup1 | with_reducible exact i_tup2 | with_reducible exact i_lst0 | with_reducible exact i_lst1 | with_reducible exact i_lst2
  | ((with_reducible apply s_cutM) <;> omega) | ((with_reducible apply s_toM) <;> omega) | ((with_reducible apply s_fromM) <;> omega)
  | with_reducible exact t_all | with_reducible exact bools_any
  | ((with_reducible apply a_tupM) <;> (first | omega | (simp only [List.length_take, List.length_drop, List.length_append, List.length_map, List.length_cons, List.length_nil, List.length_replicate]; omega)))
  | ((with_reducible apply a_lstM) <;> (first | omega | (simp only [List.length_take, List.length_drop, List.length_append, List.length_map, List.length_cons, List.length_nil, List.length_replicate]; omega)))
  | ((with_reducible apply a_tup) <;> (first | omega | (simp only [List.length_take, List.length_drop, List.length_append, List.length_map, List.length_cons, List.length_nil, List.length_replicate]; omega)))
  | ((with_reducible apply a_lst) <;> (first | omega | (simp only [List.length_take, List.length_drop, List.length_append, List.length_map, List.length_cons, List.length_nil, List.length_replicate]; omega)))
  | ((with_reducible apply Nat.le_of_ble_eq_true) <;> rfl)
  | (intro _; array_get_dec)
  | (with_reducible assumption))
local macro_rules | `(tactic| sizeOf_list_dec) => `(tactic| try simp only [List.map_cons, List.map_nil, List.length_cons, List.length_nil, List.replicate, List.cons_append, List.nil_append, Nat.reduceSub, Nat.reduceAdd, Nat.sub_self, Nat.zero_add, List.set_cons_zero, List.set_cons_succ, wipeE])
local macro_rules | `(tactic| bv_omega) => `(tactic| first
  | (with_reducible apply ss_seq)
  | ((with_reducible apply ss_setp); (· array_get_dec); sizeOf_list_dec)
  | ((with_reducible apply ss_par2p); (· array_get_dec); (· array_get_dec); sizeOf_list_dec)
  | ((with_reducible apply ss_dropp); (· array_get_dec); sizeOf_list_dec)
  | ((with_reducible apply ss_retp); (· array_get_dec); try dsimp only)
  | ((with_reducible apply ss_if); (· array_get_dec))
  | ((with_reducible apply es_re); (· array_get_dec); sizeOf_list_dec)
  | ((with_reducible apply as_ra); (· array_get_dec); sizeOf_list_dec)
  | ((with_reducible apply ts_rt); (· array_get_dec); sizeOf_list_dec)
  | ((with_reducible apply os_ro); (· array_get_dec); sizeOf_list_dec)
  | ((with_reducible apply es_call); (· array_get_dec); sizeOf_list_dec)
  | (with_reducible apply ss_set) | (with_reducible apply ss_ret) | (with_reducible apply ss_drop) | (with_reducible apply ss_par2)
  | (with_reducible apply as_cons) | (with_reducible apply es_callS) | (with_reducible apply es_callES) | (with_reducible apply es_sliceS) | (with_reducible apply es_tupS) | (with_reducible apply es_lstS) | (with_reducible apply es_pB) | (with_reducible apply es_pU) | (with_reducible apply es_pNS)
  | (with_reducible apply ts_tst) | (with_reducible apply ts_not)
  | ((with_reducible apply pb_of); (· array_get_dec); (· array_get_dec); (· array_get_dec); sizeOf_list_dec)
  | ((with_reducible apply pu_of); (· array_get_dec); (· array_get_dec); sizeOf_list_dec)
  | ((with_reducible apply pn_of1); (· array_get_dec); (· array_get_dec); sizeOf_list_dec)
  | ((with_reducible apply pn_of2); (· array_get_dec); (· array_get_dec); (· array_get_dec); sizeOf_list_dec)
  | ((with_reducible apply pt_of); (· array_get_dec); (· array_get_dec); sizeOf_list_dec)
  | ((with_reducible apply as_nil); try dsimp only)
  | ((with_reducible apply ss_nx); sizeOf_list_dec))
local macro_rules | `(tactic| clean_wf) => `(tactic| first
  | ((with_reducible apply es_if); (· array_get_dec))
  | (with_reducible apply es_ifS) | (with_reducible apply es_andS) | (with_reducible apply ts_and) | (with_reducible apply ts_or) | (with_reducible apply ss_ifS))
/-! shown things -/
theorem toNat_mod (a b : Nat) : ((a : Int) % (b : Int)).toNat = a % b := by
  have : (a : Int) % (b : Int) = ((a % b : Nat) : Int) := (Int.natCast_emod a b).symm
  rw [this]
  exact Int.toNat_natCast _
theorem sum_le {α : Type} {f : α → Nat} {c : Nat} : ∀ {xs : List α}, (∀ x ∈ xs, f x ≤ c) → (xs.map f).sum ≤ xs.length * c
  | [], _ => by simp
  | x :: xs, h => by
    have := sum_le (fun y hy => h y (List.mem_cons_of_mem _ hy) : ∀ y ∈ xs, f y ≤ c)
    have := h x List.mem_cons_self
    rw [List.map_cons, List.sum_cons, List.length_cons, Nat.succ_mul]
    omega
theorem lf_wd (w : Wo) : lf (wd w) = true := by cases w <;> decide +kernel
theorem lf_kD (w : Ki) : lf (kD w) = true := by cases w <;> decide +kernel
theorem tm_lf {n : Nat} {d : D} (h : lf d = true) : tm n d = true := by cases n <;> cases d <;> first | exact h | cases h
theorem wt_lf {n : Nat} {d : D} (h : lf d = true) : wt n d = 40 := by cases n <;> cases d <;> first | rfl | cases h
theorem lf_int {i : Nat} (h : i < 1000) : lf (.int (i : Int)) = true := by
  simp only [lf, Bool.and_eq_true, decide_eq_true_eq]; omega
theorem tm_sD {p : Nat × Wo} (h : p.1 < 1000) : tm 1 (sD p) = true ∧ wt 1 (sD p) = 82 := by
  constructor
  · simp only [sD, tm, List.all_cons, List.all_nil, tm_lf (lf_int h), tm_lf (lf_wd p.2), lf_int h, lf_wd, Bool.and_self]
  · simp only [sD, wt, List.map_cons, List.map_nil, List.sum_cons, List.sum_nil, wt_lf (lf_int h), wt_lf (lf_wd p.2)]
    first | done | rfl | simp [wt_lf (lf_wd p.2)]
theorem tm_told {ps : List (Nat × Wo)} (h : ∀ p ∈ ps, p.1 < 1000) (hl : ps.length ≤ 40) : tm 2 (.tup (ps.map sD)) = true ∧ wt 2 (.tup (ps.map sD)) ≤ 3320 := by
  constructor
  · simp only [tm, List.all_map, List.all_eq_true]
    exact fun p hp => (tm_sD (h p hp)).1
  · simp only [wt, List.map_map]
    have := sum_le (f := (fun x => wt 1 x + 1) ∘ sD) (c := 83) (xs := ps) fun p hp => by
      show wt 1 (sD p) + 1 ≤ 83
      rw [(tm_sD (h p hp)).2]
      exact Nat.le_refl _
    omega
theorem tm_listK {x : Ki} {bk : List (Nat × List Wo)} {z day : Nat} (hg : GoodBk bk z) (hd : day < 1000) : tm 3 (listK x bk day) = true ∧ wt 3 (listK x bk day) ≤ 3500 := by
  unfold listK
  split
  · exact ⟨rfl, by decide⟩
  · have hp : ∀ p ∈ told x bk day, p.1 < 1000 := fun p hp => by
      have := asc_le (asc_told x day hg.up) p hp
      omega
    obtain ⟨h1, h2⟩ := tm_told hp (Nat.le_trans (told_len x bk day) hg.len)
    constructor
    · simp only [tm, List.all_cons, List.all_nil] at h1 ⊢
      simp only [lf_int hd, tm_lf (lf_kD x), h1, Bool.and_self]
    · simp only [wt, List.map_cons, List.map_nil, List.sum_cons, List.sum_nil, wt_lf (n := 2) (lf_int hd), wt_lf (n := 2) (lf_kD x)] at h2 ⊢
      omega
theorem tm_two {n : Nat} {d : D} (h : tm n d = true) : tm (n + 1) (.lst [d, d]) = true := by show [d, d].all (tm n) = true; simp [h]
theorem wt_two {n : Nat} {d : D} (h : wt n d ≤ 3500) : wt (n + 1) (.lst [d, d]) ≤ 1000000 := by
  show ([d, d].map fun x => wt n x + 1).sum ≤ 1000000
  simp only [List.map_cons, List.map_nil, List.sum_cons, List.sum_nil]; omega
theorem listK_of {x : Ki} {bk : List (Nat × List Wo)} {day : Nat} (h : x ≠ .n) : listK x bk day = .tup [.int (day : Int), kD x, .tup ((told x bk day).map sD)] := by unfold listK; rw [if_neg h]
theorem listK_n {bk : List (Nat × List Wo)} {day : Nat} : listK .n bk day = .non := by unfold listK; rw [if_pos rfl]
theorem nice_listK {x : Ki} {bk : List (Nat × List Wo)} {day : Nat} : nice (listK x bk day) = true := by unfold listK; split <;> rfl
theorem ne_kn (x : Ki) : neD (kD x) (.str "none") = some (.bl (!decide (x = .n))) := by cases x <;> kernel_rfl
theorem is_listK {x : Ki} {bk : List (Nat × List Wo)} {day : Nat} : isDD (listK x bk day) .non = some (.bl (decide (x = .n))) ∧ nisDD (listK x bk day) .non = some (.bl (!decide (x = .n))) := by
  by_cases h : x = .n
  · subst h; rw [listK_n]; exact ⟨rfl, rfl⟩
  · rw [listK_of h, decide_eq_false h]; exact ⟨rfl, rfl⟩
theorem said_drop {x : Ki} {os ws : List Wo} {day : Nat} (h : os.drop (day - spn x) = ws.drop (day - spn x)) : said x os day = said x ws day := by
  unfold said
  rw [List.drop_take, List.drop_take, h]
theorem told_map {x : Ki} {day : Nat} (f : Nat × List Wo → Nat × List Wo) (h1 : ∀ q, (f q).1 = q.1) : ∀ {bk : List (Nat × List Wo)}, (∀ q ∈ bk, said x (f q).2 day = said x q.2 day) → told x (bk.map f) day = told x bk day
  | [], _ => rfl
  | q :: r, h => by
    have ih := told_map f h1 (fun p hp => h p (List.mem_cons_of_mem _ hp) : ∀ p ∈ r, _)
    unfold told at ih ⊢
    rw [List.map_cons, List.filterMap_cons, List.filterMap_cons, ih, h q List.mem_cons_self, h1]
/-- two books by pairs -/
def Alike (x : Ki) (day : Nat) (b c : List (Nat × List Wo)) : Prop := b.length = c.length ∧ ∀ (i : Nat) (q r : Nat × List Wo), b[i]? = some q → c[i]? = some r → q.1 = r.1 ∧ said x q.2 day = said x r.2 day
theorem told_alike {x : Ki} {day : Nat} : ∀ {b c : List (Nat × List Wo)}, Alike x day b c → told x b day = told x c day
  | [], [], _ => rfl
  | [], _ :: _, h => by cases h.1
  | _ :: _, [], h => by cases h.1
  | q :: b, r :: c, h => by
    have ih := told_alike (b := b) (c := c) ⟨by simpa using h.1, fun i q r h1 h2 => h.2 (i + 1) q r (by simpa using h1) (by simpa using h2)⟩
    obtain ⟨e1, e2⟩ := h.2 0 q r rfl rfl
    unfold told at ih ⊢
    rw [List.filterMap_cons, List.filterMap_cons, ih, e1, e2]
theorem asc_nums : ∀ {b c : List (Nat × List Wo)} {m : Nat}, b.map (·.1) = c.map (·.1) → asc m c → asc m b
  | [], _, _, _, _ => trivial
  | q :: b, [], _, e, _ => by cases e
  | q :: b, r :: c, m, e, h => by
    simp only [List.map_cons, List.cons.injEq] at e
    exact ⟨by rw [e.1]; exact h.1, by rw [e.1]; exact h.2.1, asc_nums e.2 (by rw [e.1]; exact h.2.2)⟩
theorem Ko.dr {S S' : Store} {n : Nat} (k : Ko S S' n) : S.length ≤ S'.length := k.2

end Lt
set_option maxRecDepth 100000
set_option maxHeartbeats 4000000
namespace K06
open PySem PySem.Spec PyProof.Rows L2 Lt
abbrev prog : Program := PySem.Challenge.pw_latelists_k06_whole_lists_of_all_days
def top (i : Nat) : Stmt := prog.main.body.getD i (.Pass ⟨0, 0, 0, 0⟩)
abbrev k_MOST_DAY : D := (.int 60)
abbrev k_MOST_ENDS : D := (.int 61)
abbrev k_MOST_KINDS : D := (.int 4)
abbrev k_MOST_NUMBER : D := (.int 999)
abbrev k_MOST_NUMBERS : D := (.int 40)
abbrev k_MOST_SPAN : D := (.int 2)
abbrev k_WORDS : D := (.tup [(.str "blank"), (.str "good"), (.str "lost"), (.str "ended")])
abbrev t_BEHIND : List (Str × D) := [("blank", (.tup [(.str "blank"), (.str "good"), (.str "ended")])), ("good", (.tup [(.str "good"), (.str "lost"), (.str "ended")])), ("lost", (.tup [(.str "good"), (.str "lost"), (.str "ended")])), ("ended", (.tup [(.str "ended")]))]
/-- 0 is_whole, slots 0:value -/
def b0 (Φ : Nat → Fn) : SF :=
  retS (andE (pU (isiD .int) (var 0)) (notE (pU (isiD .bool) (var 0))))
abbrev f0 : FnS := ⟨"is_whole", ["value"], ["value"], b0⟩
/-- 1 is_between, slots 0:value 1:low 2:high -/
def b1 (Φ : Nat → Fn) : SF :=
  retS (andE (callP (Φ 0) (consA (var 0) nilA)) (chE leD leD (var 1) (var 0) (var 2)))
abbrev f1 : FnS := ⟨"is_between", ["value", "low", "high"], ["value", "low", "high"], b1⟩
/-- 2 is_text, slots 0:value -/
def b2 (Φ : Nat → Fn) : SF :=
  retS (pU (isiD .str) (var 0))
abbrev f2 : FnS := ⟨"is_text", ["value"], ["value"], b2⟩
/-- 3 is_word, slots 0:value -/
def b3 (Φ : Nat → Fn) : SF :=
  retS (andE (callP (Φ 2) (consA (var 0) nilA)) (pB inD (var 0) (cst k_WORDS)))
abbrev f3 : FnS := ⟨"is_word", ["value"], ["value"], b3⟩
/-- 4 is_tuple_of, slots 0:value 1:many -/
def b4 (Φ : Nat → Fn) : SF :=
  retS (andE (pU (isiD .tup) (var 0)) (pB eqDD (pN lenD (consA (var 0) nilA)) (var 1)))
abbrev f4 : FnS := ⟨"is_tuple_of", ["value", "many"], ["value", "many"], b4⟩
/-- 5 is_pair, slots 0:value -/
def b5 (Φ : Nat → Fn) : SF :=
  retS (callP (Φ 4) (consA (var 0) (consA (cst (.int 2)) nilA)))
abbrev f5 : FnS := ⟨"is_pair", ["value"], ["value"], b5⟩
/-- 6 steps, slots 0:one 1:other -/
def b6 (Φ : Nat → Fn) : SF :=
  retS (pB inD (var 1) (kixE t_BEHIND (var 0)))
abbrev f6 : FnS := ⟨"steps", ["one", "other"], ["one", "other"], b6⟩
/-- 7 goes_on, slots 0:value 1:word 2:one 3:other -/
def b7 (Φ : Nat → Fn) : SF :=
  seqS (ifS (orT (notT (tst (pU (isiD .tup) (var 0)))) (orT (tst (pB eqDD (var 0) (tupE nilA))) (notT (tst (pN allD (consA (lcE (lcA (walk (var 0)) [1] (gNm 1) yesT (callP (Φ 3) (consA (var 1) nilA)))) nilA)))))) (retS (cst (.bl false))) nextS) (retS (andE (pB eqDD (pB ixD (var 0) (cst (.int 0))) (cst (.str "blank"))) (pN allD (consA (lcE (lcA (zipI (var 0) (sliceE (var 0) (soP (cst (.int 1))) noP)) [2, 3] (gTp 2 (gCs (gNm 2) (gCs (gNm 3) gNl))) yesT (callP (Φ 6) (consA (var 2) (consA (var 3) nilA))))) nilA))))
abbrev f7 : FnS := ⟨"goes_on", ["value"], ["value", "word", "one", "other"], b7⟩
/-- 8 is_row_of, slots 0:value -/
def b8 (Φ : Nat → Fn) : SF :=
  retS (andE (pU (isiD .tup) (var 0)) (andE (pB leD (pN lenD (consA (var 0) nilA)) (cst k_MOST_ENDS)) (callP (Φ 7) (consA (var 0) nilA))))
abbrev f8 : FnS := ⟨"is_row_of", ["value"], ["value"], b8⟩
/-- 9 is_kind, slots 0:value -/
def b9 (Φ : Nat → Fn) : SF :=
  retS (ifE (tst (callP (Φ 2) (consA (var 0) nilA))) (pB inD (var 0) (tupE (consA (cst (.str "whole")) (consA (cst (.str "none")) nilA)))) (callP (Φ 1) (consA (var 0) (consA (cst (.int 1)) (consA (cst k_MOST_SPAN) nilA)))))
abbrev f9 : FnS := ⟨"is_kind", ["value"], ["value"], b9⟩
/-- 10 is_schedule_of, slots 0:value 1:kind -/
def b10 (Φ : Nat → Fn) : SF :=
  retS (andE (pU (isiD .tup) (var 0)) (andE (chE leD leD (cst (.int 1)) (pN lenD (consA (var 0) nilA)) (cst k_MOST_KINDS)) (pN allD (consA (lcE (lcA (walk (var 0)) [1] (gNm 1) yesT (callP (Φ 9) (consA (var 1) nilA)))) nilA))))
abbrev f10 : FnS := ⟨"is_schedule_of", ["value"], ["value", "kind"], b10⟩
/-- 11 kind_of, slots 0:schedule 1:day -/
def b11 (Φ : Nat → Fn) : SF :=
  retS (pB ixD (var 0) (pB modD (var 1) (pN lenD (consA (var 0) nilA))))
abbrev f11 : FnS := ⟨"kind_of", ["schedule", "day"], ["schedule", "day"], b11⟩
/-- 12 is_book_of, slots 0:value 1:last 2:pair -/
def b12 (Φ : Nat → Fn) : SF :=
  seqS (ifS (orT (notT (tst (pU (isiD .tup) (var 0)))) (tst (pB gtD (pN lenD (consA (var 0) nilA)) (cst k_MOST_NUMBERS)))) (retS (cst (.bl false))) nextS) (seqS (setS 1 (cst (.int 0))) (seqS (forS (walk (var 0)) (gNm 2) (seqS (ifS (orT (notT (tst (callP (Φ 5) (consA (var 2) nilA)))) (orT (notT (tst (callP (Φ 1) (consA (pB ixD (var 2) (cst (.int 0))) (consA (pB addD (var 1) (cst (.int 1))) (consA (cst k_MOST_NUMBER) nilA)))))) (notT (tst (callP (Φ 8) (consA (pB ixD (var 2) (cst (.int 1))) nilA)))))) (retS (cst (.bl false))) nextS) (setS 1 (pB ixD (var 2) (cst (.int 0)))))) (retS (pN allD (consA (lcE (lcA (walk (var 0)) [2] (gNm 2) yesT (pB eqDD (pN lenD (consA (pB ixD (var 2) (cst (.int 1))) nilA)) (pN lenD (consA (pB ixD (pB ixD (var 0) (cst (.int 0))) (cst (.int 1))) nilA))))) nilA)))))
abbrev f12 : FnS := ⟨"is_book_of", ["value"], ["value", "last", "pair"], b12⟩
/-- 13 said_over, slots 0:words 1:kind 2:word 3:each -/
def b13 (Φ : Nat → Fn) : SF :=
  seqS (setS 2 (pB ixD (var 0) (pU negD (cst (.int 1))))) (seqS (ifS (tst (pB eqDD (var 1) (cst (.str "whole")))) (retS (ifE (tst (pB eqDD (var 2) (cst (.str "blank")))) (cst .non) (var 2))) nextS) (retS (ifE (tst (pN allD (consA (lcE (lcA (walk (var 0)) [3] (gNm 3) yesT (pB eqDD (var 3) (var 2)))) nilA))) (cst .non) (var 2))))
abbrev f13 : FnS := ⟨"said_over", ["words", "kind"], ["words", "kind", "word", "each"], b13⟩
/-- 14 said_of, slots 0:row 1:kind 2:day 3:span -/
def b14 (Φ : Nat → Fn) : SF :=
  seqS (setS 3 (ifE (tst (pB eqDD (var 1) (cst (.str "whole")))) (cst (.int 0)) (var 1))) (retS (callP (Φ 13) (consA (sliceE (var 0) (soP (pN max2D (consA (cst (.int 0)) (consA (pB subD (var 2) (var 3)) nilA)))) (soP (pB addD (var 2) (cst (.int 1))))) (consA (var 1) nilA))))
abbrev f14 : FnS := ⟨"said_of", ["row", "kind", "day"], ["row", "kind", "day", "span"], b14⟩
/-- 15 list_by, slots 0:schedule 1:book 2:day 3:kind 4:said 5:number 6:row 7:pair -/
def b15 (Φ : Nat → Fn) : SF :=
  seqS (setS 3 (callP (Φ 11) (consA (var 0) (consA (var 2) nilA)))) (seqS (ifS (tst (pB eqDD (var 3) (cst (.str "none")))) (retS (cst .non)) nextS) (seqS (setS 4 (lcE (lcA (walk (var 1)) [5, 6] (gTp 2 (gCs (gNm 5) (gCs (gNm 6) gNl))) yesT (tupE (consA (var 5) (consA (callP (Φ 14) (consA (var 6) (consA (var 3) (consA (var 2) nilA)))) nilA)))))) (retS (tupE (consA (var 2) (consA (var 3) (consA (pN tupleD (consA (lcE (lcA (walk (var 4)) [7] (gNm 7) (tst (pB nisDD (pB ixD (var 7) (cst (.int 1))) (cst .non))) (var 7))) nilA)) nilA)))))))
abbrev f15 : FnS := ⟨"list_by", ["schedule", "book", "day"], ["schedule", "book", "day", "kind", "said", "number", "row", "pair"], b15⟩
/-- 16 is_list_of, slots 0:value 1:last 2:pair -/
def b16 (Φ : Nat → Fn) : SF :=
  seqS (ifS (orT (notT (tst (callP (Φ 4) (consA (var 0) (consA (cst (.int 3)) nilA))))) (orT (notT (tst (callP (Φ 1) (consA (pB ixD (var 0) (cst (.int 0))) (consA (cst (.int 0)) (consA (cst k_MOST_DAY) nilA)))))) (notT (tst (callP (Φ 9) (consA (pB ixD (var 0) (cst (.int 1))) nilA)))))) (retS (cst (.bl false))) nextS) (seqS (ifS (orT (tst (pB eqDD (pB ixD (var 0) (cst (.int 1))) (cst (.str "none")))) (orT (notT (tst (pU (isiD .tup) (pB ixD (var 0) (cst (.int 2)))))) (tst (pB gtD (pN lenD (consA (pB ixD (var 0) (cst (.int 2))) nilA)) (cst k_MOST_NUMBERS))))) (retS (cst (.bl false))) nextS) (seqS (setS 1 (cst (.int 0))) (seqS (forS (walk (pB ixD (var 0) (cst (.int 2)))) (gNm 2) (seqS (ifS (orT (notT (tst (callP (Φ 5) (consA (var 2) nilA)))) (orT (notT (tst (callP (Φ 1) (consA (pB ixD (var 2) (cst (.int 0))) (consA (pB addD (var 1) (cst (.int 1))) (consA (cst k_MOST_NUMBER) nilA)))))) (notT (tst (callP (Φ 3) (consA (pB ixD (var 2) (cst (.int 1))) nilA)))))) (retS (cst (.bl false))) nextS) (seqS (ifS (tst (pB eqDD (pB ixD (var 2) (cst (.int 1))) (cst (.str "blank")))) (retS (cst (.bl false))) nextS) (setS 1 (pB ixD (var 2) (cst (.int 0))))))) (retS (cst (.bl true))))))
abbrev f16 : FnS := ⟨"is_list_of", ["value"], ["value", "last", "pair"], b16⟩
/-- 17 check_day, slots 0:day -/
def b17 (Φ : Nat → Fn) : SF :=
  ifS (notT (tst (callP (Φ 1) (consA (var 0) (consA (cst (.int 0)) (consA (cst k_MOST_DAY) nilA)))))) badS nextS
abbrev f17 : FnS := ⟨"check_day", ["day"], ["day"], b17⟩
/-- 18 check_schedule, slots 0:schedule -/
def b18 (Φ : Nat → Fn) : SF :=
  ifS (notT (tst (callP (Φ 10) (consA (var 0) nilA)))) badS nextS
abbrev f18 : FnS := ⟨"check_schedule", ["schedule"], ["schedule"], b18⟩
/-- 19 check_book, slots 0:book -/
def b19 (Φ : Nat → Fn) : SF :=
  ifS (notT (tst (callP (Φ 12) (consA (var 0) nilA)))) badS nextS
abbrev f19 : FnS := ⟨"check_book", ["book"], ["book"], b19⟩
/-- 20 is_list, slots 0:value -/
def b20 (Φ : Nat → Fn) : SF :=
  retS (callP (Φ 16) (consA (var 0) nilA))
abbrev f20 : FnS := ⟨"is_list", ["value"], ["value"], b20⟩
/-- 21 kind_on, slots 0:schedule 1:day -/
def b21 (Φ : Nat → Fn) : SF :=
  seqS (dropS (callP (Φ 18) (consA (var 0) nilA))) (seqS (dropS (callP (Φ 17) (consA (var 1) nilA))) (retS (callP (Φ 11) (consA (var 0) (consA (var 1) nilA)))))
abbrev f21 : FnS := ⟨"kind_on", ["schedule", "day"], ["schedule", "day"], b21⟩
/-- 22 list_of, slots 0:schedule 1:book 2:day -/
def b22 (Φ : Nat → Fn) : SF :=
  seqS (dropS (callP (Φ 18) (consA (var 0) nilA))) (seqS (dropS (callP (Φ 19) (consA (var 1) nilA))) (seqS (dropS (callP (Φ 17) (consA (var 2) nilA))) (seqS (ifS (andT (tst (pB neD (var 1) (tupE nilA))) (tst (pB geD (var 2) (pN lenD (consA (pB ixD (pB ixD (var 1) (cst (.int 0))) (cst (.int 1))) nilA))))) badS nextS) (retS (callP (Φ 15) (consA (var 0) (consA (var 1) (consA (var 2) nilA))))))))
abbrev f22 : FnS := ⟨"list_of", ["schedule", "book", "day"], ["schedule", "book", "day"], b22⟩
/-- 23 _law_purse, slots 0:cells 1:at 2:cell 3:seed 4:other -/
def b23 (Φ : Nat → Fn) : SF :=
  seqS (setS 2 (ifE (tst (pB ltD (var 1) (pN lenD (consA (var 0) nilA)))) (pB ixD (var 0) (var 1)) (cst (.int 0)))) (seqS (setS 3 (pB modD (pN intD (consA (pB addD (pB addD (pB mulDD (var 2) (cst (.int 69621))) (pB mulDD (var 1) (cst (.int 40692)))) (cst (.int 10007))) nilA)) (cst (.int 2147483549)))) (seqS (forS (walk (ifE (tst (pB geD (var 1) (pN lenD (consA (var 0) nilA)))) (sliceE (var 0) noP (soP (cst (.int 4)))) (lstE nilA))) (gNm 4) (setS 3 (pB modD (pN intD (consA (pB addD (pB mulDD (var 3) (cst (.int 45991))) (var 4)) nilA)) (cst (.int 2147483549))))) (retS (lstM (consA (ifE (tst (pB geD (pN absD (consA (var 2) nilA)) (pB powD (cst (.int 10)) (cst (.int 18))))) (pN absD (consA (var 2) nilA)) (cst (.int 0))) (consA (var 3) (consA (cst (.int 0)) nilA)))))))
abbrev f23 : FnS := ⟨"_law_purse", ["cells", "at"], ["cells", "at", "cell", "seed", "other"], b23⟩
/-- 24 _law_take, slots 0:draws 1:many 2:figures 3:seed 4:turn -/
def b24 (Φ : Nat → Fn) : SF :=
  seqS (asgS (var 0) (gTp 3 (gCs (gNm 2) (gCs (gNm 3) (gCs (gNm 4) gNl))))) (seqS (asgS (pB modD (pN intD (consA (pB addD (pB addD (pB mulDD (var 3) (pB addD (cst (.int 50027)) (pB mulDD (cst (.int 6)) (var 4)))) (pB mulDD (cst (.int 12347)) (var 4))) (cst (.int 12358))) nilA)) (cst (.int 2147483549))) (gSb (var 0) (cst (.int 1)))) (seqS (asgS (pB addD (var 4) (cst (.int 1))) (gSb (var 0) (cst (.int 2)))) (seqS (ifS (tst (pB gtD (var 2) (cst (.int 0)))) (seqS (asgS (pB fdivD (pN intD (consA (var 2) nilA)) (var 1)) (gSb (var 0) (cst (.int 0)))) (retS (pB modD (pN intD (consA (var 2) nilA)) (var 1)))) nextS) (retS (pB modD (pN intD (consA (pB fdivD (pB ixD (var 0) (cst (.int 1))) (cst (.int 128))) nilA)) (var 1))))))
abbrev f24 : FnS := ⟨"_law_take", ["draws", "many"], ["draws", "many", "figures", "seed", "turn"], b24⟩
/-- 25 _law_pick, slots 0:draws 1:some -/
def b25 (Φ : Nat → Fn) : SF :=
  retS (pB ixD (var 1) (callP (Φ 24) (consA (var 0) (consA (pN lenD (consA (var 1) nilA)) nilA))))
abbrev f25 : FnS := ⟨"_law_pick", ["draws", "some"], ["draws", "some"], b25⟩
/-- 26 _law_same, slots 0:told 1:due -/
def b26 (Φ : Nat → Fn) : SF :=
  retS (pB eqDD (pN reprD (consA (var 0) nilA)) (pN reprD (consA (var 1) nilA)))
abbrev f26 : FnS := ⟨"_law_same", ["told", "due"], ["told", "due"], b26⟩
/-- 27 _law_after, slots 0:word 1:some -/
def b27 (Φ : Nat → Fn) : SF :=
  seqS (setS 1 (dicE [(cst (.str "blank"), tupE (consA (cst (.str "blank")) (consA (cst (.str "good")) (consA (cst (.str "ended")) nilA)))), (cst (.str "good"), tupE (consA (cst (.str "good")) (consA (cst (.str "lost")) (consA (cst (.str "ended")) nilA)))), (cst (.str "lost"), tupE (consA (cst (.str "good")) (consA (cst (.str "lost")) (consA (cst (.str "ended")) nilA))))])) (retS (get2E (var 1) (var 0) (tupE (consA (cst (.str "ended")) nilA))))
abbrev f27 : FnS := ⟨"_law_after", ["word"], ["word", "some"], b27⟩
/-- 28 _law_line, slots 0:draws 1:size 2:found 3:turn 4:way 5:word -/
def b28 (Φ : Nat → Fn) : SF :=
  seqS (setS 2 (lstM (consA (cst (.str "blank")) nilA))) (seqS (forS (rng1 (pB subD (var 1) (cst (.int 1)))) (gNm 3) (seqS (par2 4 5 (callP (Φ 24) (consA (var 0) (consA (ifE (tst (pB ltD (var 1) (cst (.int 10)))) (cst (.int 5)) (cst (.int 12))) nilA))) (pB ixD (var 2) (pU negD (cst (.int 1))))) (seqS (ifS (tst (chE ltD ltD (cst (.int 1)) (var 4) (cst (.int 5)))) (setS 5 (callP (Φ 25) (consA (var 0) (consA (callP (Φ 27) (consA (var 5) nilA)) nilA)))) nextS) (seqS (ifS (andT (tst (pB eqDD (var 5) (cst (.str "ended")))) (andT (tst (pB neD (pB ixD (var 2) (pU negD (cst (.int 1)))) (cst (.str "ended")))) (andT (tst (pB gtD (var 1) (cst (.int 9)))) (tst (pB gtD (callP (Φ 24) (consA (var 0) (consA (cst (.int 4)) nilA))) (cst (.int 0))))))) (setS 5 (pB ixD (var 2) (pU negD (cst (.int 1))))) nextS) (dropS (appE (var 2) (var 5))))))) (retS (pN tupleD (consA (var 2) nilA))))
abbrev f28 : FnS := ⟨"_law_line", ["draws", "size"], ["draws", "size", "found", "turn", "way", "word"], b28⟩
/-- 29 _law_plan, slots 0:draws 1:found 2:turn -/
def b29 (Φ : Nat → Fn) : SF :=
  seqS (setS 1 (lstM nilA)) (seqS (forS (rng1 (pB addD (cst (.int 1)) (callP (Φ 24) (consA (var 0) (consA (cst (.int 4)) nilA))))) (gNm 2) (dropS (appE (var 1) (callP (Φ 25) (consA (var 0) (consA (tupE (consA (cst (.str "whole")) (consA (cst (.int 1)) (consA (cst (.int 2)) (consA (cst (.str "none")) (consA (cst (.int 1)) (consA (cst (.int 2)) nilA))))))) nilA)))))) (retS (pN tupleD (consA (var 1) nilA))))
abbrev f29 : FnS := ⟨"_law_plan", ["draws"], ["draws", "found", "turn"], b29⟩
/-- 30 _law_said, slots 0:kind 1:line 2:day 3:near -/
def b30 (Φ : Nat → Fn) : SF :=
  seqS (ifS (tst (pB eqDD (var 0) (cst (.str "whole")))) (retS (ifE (tst (pB eqDD (pB ixD (var 1) (var 2)) (cst (.str "blank")))) (cst .non) (pB ixD (var 1) (var 2)))) nextS) (seqS (setS 3 (sliceE (var 1) (soP (pN max2D (consA (cst (.int 0)) (consA (pB subD (var 2) (var 0)) nilA)))) (soP (pB addD (var 2) (cst (.int 1)))))) (retS (ifE (tst (pB eqDD (var 3) (pB mulDD (sliceE (var 3) noP (soP (cst (.int 1)))) (pN lenD (consA (var 3) nilA))))) (cst .non) (pB ixD (var 1) (var 2)))))
abbrev f30 : FnS := ⟨"_law_said", ["kind", "line", "day"], ["kind", "line", "day", "near"], b30⟩
/-- 31 _law_book, slots 0:draws 1:many 2:size 3:found 4:number 5:turn -/
def b31 (Φ : Nat → Fn) : SF :=
  seqS (par2 3 4 (lstM nilA) (cst (.int 0))) (seqS (forS (rng1 (var 1)) (gNm 5) (seqS (setS 4 (pB addD (pB addD (var 4) (cst (.int 1))) (callP (Φ 24) (consA (var 0) (consA (ifE (tst (pB gtD (callP (Φ 24) (consA (var 0) (consA (cst (.int 3)) nilA))) (cst (.int 0)))) (cst (.int 3)) (cst (.int 20))) nilA))))) (dropS (appE (var 3) (tupE (consA (var 4) (consA (callP (Φ 28) (consA (var 0) (consA (var 2) nilA))) nilA))))))) (retS (pN tupleD (consA (var 3) nilA))))
abbrev f31 : FnS := ⟨"_law_book", ["draws", "many", "size"], ["draws", "many", "size", "found", "number", "turn"], b31⟩
/-- 32 _law_list, slots 0:plan 1:book 2:day 3:kind 4:found 5:number 6:line 7:word -/
def b32 (Φ : Nat → Fn) : SF :=
  seqS (par2 3 4 (pB ixD (var 0) (pB modD (pN intD (consA (var 2) nilA)) (pN lenD (consA (var 0) nilA)))) (lstM nilA)) (seqS (ifS (tst (pB eqDD (var 3) (cst (.str "none")))) (retS (cst .non)) nextS) (seqS (forS (walk (var 1)) (gTp 2 (gCs (gNm 5) (gCs (gNm 6) gNl))) (seqS (setS 7 (callP (Φ 30) (consA (var 3) (consA (var 6) (consA (var 2) nilA))))) (ifS (tst (pB nisDD (var 7) (cst .non))) (dropS (appE (var 4) (tupE (consA (var 5) (consA (var 7) nilA))))) nextS))) (retS (tupE (consA (var 2) (consA (var 3) (consA (pN tupleD (consA (var 4) nilA)) nilA)))))))
abbrev f32 : FnS := ⟨"_law_list", ["plan", "book", "day"], ["plan", "book", "day", "kind", "found", "number", "line", "word"], b32⟩
/-- 33 _law_earlier, slots 0:draws 1:line 2:first 3:turn 4:other 5:at -/
def b33 (Φ : Nat → Fn) : SF :=
  seqS (forS (rng1 (cst (.int 6))) (gNm 3) (seqS (setS 4 (pB addD (sliceE (callP (Φ 28) (consA (var 0) (consA (pN lenD (consA (var 1) nilA)) nilA))) noP (soP (var 2))) (sliceE (var 1) (soP (var 2)) noP))) (ifS (tst (pN allD (consA (lcE (lcA (rng1 (pB subD (pN lenD (consA (var 4) nilA)) (cst (.int 1)))) [5] (gNm 5) yesT (pB inD (pB ixD (var 4) (pB addD (var 5) (cst (.int 1)))) (callP (Φ 27) (consA (pB ixD (var 4) (var 5)) nilA))))) nilA))) (retS (var 4)) nextS))) (retS (var 1))
abbrev f33 : FnS := ⟨"_law_earlier", ["draws", "line", "first"], ["draws", "line", "first", "turn", "other", "at"], b33⟩
/-- 34 _law_are_near, slots 0:draws 1:plan 2:book 3:day 4:kind 5:told 6:first 7:other 8:shorter 9:found 10:pair 11:number 12:line -/
def b34 (Φ : Nat → Fn) : SF :=
  seqS (par2 4 5 (pB ixD (var 1) (pB modD (pN intD (consA (var 3) nilA)) (pN lenD (consA (var 1) nilA)))) (callP (Φ 22) (consA (var 1) (consA (var 2) (consA (var 3) nilA))))) (seqS (ifS (orT (tst (pB eqDD (var 4) (cst (.str "none")))) (tst (pB eqDD (var 2) (tupE nilA)))) (retS (orE (pB isDD (var 5) (cst .non)) (pB neD (var 4) (cst (.str "none"))))) nextS) (seqS (setS 6 (ifE (tst (pB eqDD (var 4) (cst (.str "whole")))) (var 3) (pN max2D (consA (cst (.int 0)) (consA (pB subD (var 3) (var 4)) nilA))))) (seqS (setS 7 (pN tupleD (consA (lcE (lcA (walk (var 2)) [11, 12] (gTp 2 (gCs (gNm 11) (gCs (gNm 12) gNl))) yesT (tupE (consA (var 11) (consA (callP (Φ 33) (consA (var 0) (consA (var 12) (consA (var 6) nilA)))) nilA))))) nilA))) (seqS (setS 8 (pN tupleD (consA (lcE (lcA (walk (var 2)) [11, 12] (gTp 2 (gCs (gNm 11) (gCs (gNm 12) gNl))) yesT (tupE (consA (var 11) (consA (sliceE (var 12) noP (soP (pB addD (var 3) (cst (.int 1))))) nilA))))) nilA))) (seqS (ifS (notT (tst (callP (Φ 26) (consA (lstE (consA (callP (Φ 22) (consA (var 1) (consA (var 7) (consA (var 3) nilA)))) (consA (callP (Φ 22) (consA (var 1) (consA (var 8) (consA (var 3) nilA)))) nilA))) (consA (lstE (consA (var 5) (consA (var 5) nilA))) nilA))))) (retS (cst (.bl false))) nextS) (seqS (setS 9 (tupE nilA)) (seqS (forS (walk (var 2)) (gNm 10) (setS 9 (pB addD (var 9) (pB ixD (callE (Φ 22) [2, 0, 1] (consA (tupE (consA (var 10) nilA)) (consA (var 3) (consA (var 1) nilA)))) (cst (.int 2)))))) (retS (callP (Φ 26) (consA (var 9) (consA (pB ixD (var 5) (cst (.int 2))) nilA)))))))))))
abbrev f34 : FnS := ⟨"_law_are_near", ["draws", "plan", "book", "day"], ["draws", "plan", "book", "day", "kind", "told", "first", "other", "shorter", "found", "pair", "number", "line"], b34⟩
/-- 35 _law_right, slots 0:draws 1:plan 2:is_great 3:size 4:book 5:day 6:due 7:kind 8:told -/
def b35 (Φ : Nat → Fn) : SF :=
  seqS (par2 1 2 (callP (Φ 29) (consA (var 0) nilA)) (pB eqDD (callP (Φ 24) (consA (var 0) (consA (cst (.int 6)) nilA))) (cst (.int 0)))) (seqS (setS 3 (ifE (tst (var 2)) (cst (.int 61)) (pB addD (cst (.int 1)) (callP (Φ 24) (consA (var 0) (consA (cst (.int 9)) nilA)))))) (seqS (setS 4 (callP (Φ 31) (consA (var 0) (consA (ifE (tst (var 2)) (cst (.int 40)) (callP (Φ 24) (consA (var 0) (consA (cst (.int 6)) nilA)))) (consA (var 3) nilA))))) (seqS (forS (rng1 (var 3)) (gNm 5) (seqS (par2 6 7 (callP (Φ 32) (consA (var 1) (consA (var 4) (consA (var 5) nilA)))) (pB ixD (var 1) (pB modD (pN intD (consA (var 5) nilA)) (pN lenD (consA (var 1) nilA))))) (seqS (ifS (notT (tst (callP (Φ 26) (consA (lstE (consA (callP (Φ 21) (consA (var 1) (consA (var 5) nilA))) (consA (callE (Φ 21) [1, 0] (consA (var 5) (consA (var 1) nilA))) nilA))) (consA (lstE (consA (var 7) (consA (var 7) nilA))) nilA))))) (retS (cst (.bl false))) nextS) (seqS (setS 8 (callP (Φ 22) (consA (var 1) (consA (var 4) (consA (var 5) nilA))))) (ifS (notT (tst (callP (Φ 26) (consA (lstE (consA (var 8) (consA (callP (Φ 20) (consA (var 8) nilA)) nilA))) (consA (lstE (consA (var 6) (consA (pB nisDD (var 6) (cst .non)) nilA))) nilA))))) (retS (cst (.bl false))) nextS))))) (seqS (forS (walk (lstE (consA (cst (.int 0)) (consA (pB subD (var 3) (cst (.int 1))) (consA (callP (Φ 24) (consA (var 0) (consA (var 3) nilA))) (consA (callP (Φ 24) (consA (var 0) (consA (var 3) nilA))) nilA)))))) (gNm 5) (ifS (notT (tst (callP (Φ 34) (consA (var 0) (consA (var 1) (consA (var 4) (consA (var 5) nilA))))))) (retS (cst (.bl false))) nextS)) (seqS (setS 5 (callP (Φ 24) (consA (var 0) (consA (cst (.int 61)) nilA)))) (seqS (setS 7 (pB ixD (var 1) (pB modD (pN intD (consA (var 5) nilA)) (pN lenD (consA (var 1) nilA))))) (retS (callP (Φ 26) (consA (callP (Φ 22) (consA (var 1) (consA (tupE nilA) (consA (var 5) nilA)))) (consA (ifE (tst (pB eqDD (var 7) (cst (.str "none")))) (cst .non) (tupE (consA (var 5) (consA (var 7) (consA (tupE nilA) nilA))))) nilA))))))))))
abbrev f35 : FnS := ⟨"_law_right", ["draws"], ["draws", "plan", "is_great", "size", "book", "day", "due", "kind", "told"], b35⟩
/-- 36 law, slots 0:cells 1:at -/
def b36 (Φ : Nat → Fn) : SF :=
  retS (pN allD (consA (lcE (lcA (rng1 (pN max2D (consA (cst (.int 2)) (consA (pN min2D (consA (pN lenD (consA (var 0) nilA)) (consA (cst (.int 3)) nilA))) nilA)))) [1] (gNm 1) yesT (callP (Φ 35) (consA (callP (Φ 23) (consA (var 0) (consA (var 1) nilA))) nilA)))) nilA))
abbrev f36 : FnS := ⟨"law", ["cells"], ["cells", "at"], b36⟩
def L : Lw where
  fs := [f0, f1, f2, f3, f4, f5, f6, f7, f8, f9, f10, f11, f12, f13, f14, f15, f16, f17, f18, f19, f20, f21, f22, f23, f24, f25, f26, f27, f28, f29, f30, f31, f32, f33, f34, f35, f36]
  bis := ["abs", "all", "bool", "int", "isinstance", "len", "max", "min", "range", "repr", "str", "tuple", "zip"]
  ks := [("MOST_DAY", k_MOST_DAY), ("MOST_ENDS", k_MOST_ENDS), ("MOST_KINDS", k_MOST_KINDS), ("MOST_NUMBER", k_MOST_NUMBER), ("MOST_NUMBERS", k_MOST_NUMBERS), ("MOST_SPAN", k_MOST_SPAN), ("WORDS", k_WORDS)]
  kd := [("BEHIND", t_BEHIND)]
  mu := [(119, 11), (136, 12), (146, 12), (156, 21), (162, 47)]
  wh := 0
  fuel := 60
def ix : List Nat := [9, 10, 11, 12, 13, 14, 18, 19, 20, 25, 26, 27, 28, 29, 30, 31, 32, 34, 35, 36, 38, 39, 40, 42, 43, 44, 45, 46, 47, 48, 49, 50, 51, 52, 53, 54, 55]
def sts (i : Nat) : Stmt := top (ix.getD i 0)
theorem c0 (Φ : Nat → Fn) : (comp Φ L.fuel).Ss (L.ct f0 (defScope (sts 0))) (defBody (sts 0)) = some (b0 Φ) := by kernel_rfl
theorem c1 (Φ : Nat → Fn) : (comp Φ L.fuel).Ss (L.ct f1 (defScope (sts 1))) (defBody (sts 1)) = some (b1 Φ) := by kernel_rfl
theorem c2 (Φ : Nat → Fn) : (comp Φ L.fuel).Ss (L.ct f2 (defScope (sts 2))) (defBody (sts 2)) = some (b2 Φ) := by kernel_rfl
theorem c3 (Φ : Nat → Fn) : (comp Φ L.fuel).Ss (L.ct f3 (defScope (sts 3))) (defBody (sts 3)) = some (b3 Φ) := by kernel_rfl
theorem c4 (Φ : Nat → Fn) : (comp Φ L.fuel).Ss (L.ct f4 (defScope (sts 4))) (defBody (sts 4)) = some (b4 Φ) := by kernel_rfl
theorem c5 (Φ : Nat → Fn) : (comp Φ L.fuel).Ss (L.ct f5 (defScope (sts 5))) (defBody (sts 5)) = some (b5 Φ) := by kernel_rfl
theorem c6 (Φ : Nat → Fn) : (comp Φ L.fuel).Ss (L.ct f6 (defScope (sts 6))) (defBody (sts 6)) = some (b6 Φ) := by kernel_rfl
theorem c7 (Φ : Nat → Fn) : (comp Φ L.fuel).Ss (L.ct f7 (defScope (sts 7))) (defBody (sts 7)) = some (b7 Φ) := by kernel_rfl
theorem c8 (Φ : Nat → Fn) : (comp Φ L.fuel).Ss (L.ct f8 (defScope (sts 8))) (defBody (sts 8)) = some (b8 Φ) := by kernel_rfl
theorem c9 (Φ : Nat → Fn) : (comp Φ L.fuel).Ss (L.ct f9 (defScope (sts 9))) (defBody (sts 9)) = some (b9 Φ) := by kernel_rfl
theorem c10 (Φ : Nat → Fn) : (comp Φ L.fuel).Ss (L.ct f10 (defScope (sts 10))) (defBody (sts 10)) = some (b10 Φ) := by kernel_rfl
theorem c11 (Φ : Nat → Fn) : (comp Φ L.fuel).Ss (L.ct f11 (defScope (sts 11))) (defBody (sts 11)) = some (b11 Φ) := by kernel_rfl
theorem c12 (Φ : Nat → Fn) : (comp Φ L.fuel).Ss (L.ct f12 (defScope (sts 12))) (defBody (sts 12)) = some (b12 Φ) := by kernel_rfl
theorem c13 (Φ : Nat → Fn) : (comp Φ L.fuel).Ss (L.ct f13 (defScope (sts 13))) (defBody (sts 13)) = some (b13 Φ) := by kernel_rfl
theorem c14 (Φ : Nat → Fn) : (comp Φ L.fuel).Ss (L.ct f14 (defScope (sts 14))) (defBody (sts 14)) = some (b14 Φ) := by kernel_rfl
theorem c15 (Φ : Nat → Fn) : (comp Φ L.fuel).Ss (L.ct f15 (defScope (sts 15))) (defBody (sts 15)) = some (b15 Φ) := by kernel_rfl
theorem c16 (Φ : Nat → Fn) : (comp Φ L.fuel).Ss (L.ct f16 (defScope (sts 16))) (defBody (sts 16)) = some (b16 Φ) := by kernel_rfl
theorem c17 (Φ : Nat → Fn) : (comp Φ L.fuel).Ss (L.ct f17 (defScope (sts 17))) (defBody (sts 17)) = some (b17 Φ) := by kernel_rfl
theorem c18 (Φ : Nat → Fn) : (comp Φ L.fuel).Ss (L.ct f18 (defScope (sts 18))) (defBody (sts 18)) = some (b18 Φ) := by kernel_rfl
theorem c19 (Φ : Nat → Fn) : (comp Φ L.fuel).Ss (L.ct f19 (defScope (sts 19))) (defBody (sts 19)) = some (b19 Φ) := by kernel_rfl
theorem c20 (Φ : Nat → Fn) : (comp Φ L.fuel).Ss (L.ct f20 (defScope (sts 20))) (defBody (sts 20)) = some (b20 Φ) := by kernel_rfl
theorem c21 (Φ : Nat → Fn) : (comp Φ L.fuel).Ss (L.ct f21 (defScope (sts 21))) (defBody (sts 21)) = some (b21 Φ) := by kernel_rfl
theorem c22 (Φ : Nat → Fn) : (comp Φ L.fuel).Ss (L.ct f22 (defScope (sts 22))) (defBody (sts 22)) = some (b22 Φ) := by kernel_rfl
theorem c23 (Φ : Nat → Fn) : (comp Φ L.fuel).Ss (L.ct f23 (defScope (sts 23))) (defBody (sts 23)) = some (b23 Φ) := by kernel_rfl
theorem c24 (Φ : Nat → Fn) : (comp Φ L.fuel).Ss (L.ct f24 (defScope (sts 24))) (defBody (sts 24)) = some (b24 Φ) := by kernel_rfl
theorem c25 (Φ : Nat → Fn) : (comp Φ L.fuel).Ss (L.ct f25 (defScope (sts 25))) (defBody (sts 25)) = some (b25 Φ) := by kernel_rfl
theorem c26 (Φ : Nat → Fn) : (comp Φ L.fuel).Ss (L.ct f26 (defScope (sts 26))) (defBody (sts 26)) = some (b26 Φ) := by kernel_rfl
theorem c27 (Φ : Nat → Fn) : (comp Φ L.fuel).Ss (L.ct f27 (defScope (sts 27))) (defBody (sts 27)) = some (b27 Φ) := by kernel_rfl
theorem c28 (Φ : Nat → Fn) : (comp Φ L.fuel).Ss (L.ct f28 (defScope (sts 28))) (defBody (sts 28)) = some (b28 Φ) := by kernel_rfl
theorem c29 (Φ : Nat → Fn) : (comp Φ L.fuel).Ss (L.ct f29 (defScope (sts 29))) (defBody (sts 29)) = some (b29 Φ) := by kernel_rfl
theorem c30 (Φ : Nat → Fn) : (comp Φ L.fuel).Ss (L.ct f30 (defScope (sts 30))) (defBody (sts 30)) = some (b30 Φ) := by kernel_rfl
theorem c31 (Φ : Nat → Fn) : (comp Φ L.fuel).Ss (L.ct f31 (defScope (sts 31))) (defBody (sts 31)) = some (b31 Φ) := by kernel_rfl
theorem c32 (Φ : Nat → Fn) : (comp Φ L.fuel).Ss (L.ct f32 (defScope (sts 32))) (defBody (sts 32)) = some (b32 Φ) := by kernel_rfl
theorem c33 (Φ : Nat → Fn) : (comp Φ L.fuel).Ss (L.ct f33 (defScope (sts 33))) (defBody (sts 33)) = some (b33 Φ) := by kernel_rfl
theorem c34 (Φ : Nat → Fn) : (comp Φ L.fuel).Ss (L.ct f34 (defScope (sts 34))) (defBody (sts 34)) = some (b34 Φ) := by kernel_rfl
theorem c35 (Φ : Nat → Fn) : (comp Φ L.fuel).Ss (L.ct f35 (defScope (sts 35))) (defBody (sts 35)) = some (b35 Φ) := by kernel_rfl
theorem c36 (Φ : Nat → Fn) : (comp Φ L.fuel).Ss (L.ct f36 (defScope (sts 36))) (defBody (sts 36)) = some (b36 Φ) := by kernel_rfl
theorem made : Made L sts := by
  refine ⟨fun i f h => ?_, fun Φ i f h => ?_⟩
  · match i, h with
    | 0, h => cases h; kernel_rfl
    | 1, h => cases h; kernel_rfl
    | 2, h => cases h; kernel_rfl
    | 3, h => cases h; kernel_rfl
    | 4, h => cases h; kernel_rfl
    | 5, h => cases h; kernel_rfl
    | 6, h => cases h; kernel_rfl
    | 7, h => cases h; kernel_rfl
    | 8, h => cases h; kernel_rfl
    | 9, h => cases h; kernel_rfl
    | 10, h => cases h; kernel_rfl
    | 11, h => cases h; kernel_rfl
    | 12, h => cases h; kernel_rfl
    | 13, h => cases h; kernel_rfl
    | 14, h => cases h; kernel_rfl
    | 15, h => cases h; kernel_rfl
    | 16, h => cases h; kernel_rfl
    | 17, h => cases h; kernel_rfl
    | 18, h => cases h; kernel_rfl
    | 19, h => cases h; kernel_rfl
    | 20, h => cases h; kernel_rfl
    | 21, h => cases h; kernel_rfl
    | 22, h => cases h; kernel_rfl
    | 23, h => cases h; kernel_rfl
    | 24, h => cases h; kernel_rfl
    | 25, h => cases h; kernel_rfl
    | 26, h => cases h; kernel_rfl
    | 27, h => cases h; kernel_rfl
    | 28, h => cases h; kernel_rfl
    | 29, h => cases h; kernel_rfl
    | 30, h => cases h; kernel_rfl
    | 31, h => cases h; kernel_rfl
    | 32, h => cases h; kernel_rfl
    | 33, h => cases h; kernel_rfl
    | 34, h => cases h; kernel_rfl
    | 35, h => cases h; kernel_rfl
    | 36, h => cases h; kernel_rfl
    | n + 37, h => cases h
  · match i, h with
    | 0, h => cases h; exact c0 Φ
    | 1, h => cases h; exact c1 Φ
    | 2, h => cases h; exact c2 Φ
    | 3, h => cases h; exact c3 Φ
    | 4, h => cases h; exact c4 Φ
    | 5, h => cases h; exact c5 Φ
    | 6, h => cases h; exact c6 Φ
    | 7, h => cases h; exact c7 Φ
    | 8, h => cases h; exact c8 Φ
    | 9, h => cases h; exact c9 Φ
    | 10, h => cases h; exact c10 Φ
    | 11, h => cases h; exact c11 Φ
    | 12, h => cases h; exact c12 Φ
    | 13, h => cases h; exact c13 Φ
    | 14, h => cases h; exact c14 Φ
    | 15, h => cases h; exact c15 Φ
    | 16, h => cases h; exact c16 Φ
    | 17, h => cases h; exact c17 Φ
    | 18, h => cases h; exact c18 Φ
    | 19, h => cases h; exact c19 Φ
    | 20, h => cases h; exact c20 Φ
    | 21, h => cases h; exact c21 Φ
    | 22, h => cases h; exact c22 Φ
    | 23, h => cases h; exact c23 Φ
    | 24, h => cases h; exact c24 Φ
    | 25, h => cases h; exact c25 Φ
    | 26, h => cases h; exact c26 Φ
    | 27, h => cases h; exact c27 Φ
    | 28, h => cases h; exact c28 Φ
    | 29, h => cases h; exact c29 Φ
    | 30, h => cases h; exact c30 Φ
    | 31, h => cases h; exact c31 Φ
    | 32, h => cases h; exact c32 Φ
    | 33, h => cases h; exact c33 Φ
    | 34, h => cases h; exact c34 Φ
    | 35, h => cases h; exact c35 Φ
    | 36, h => cases h; exact c36 Φ
    | n + 37, h => cases h
def names : List Str := ["WORDS", "MOST_DAY", "MOST_NUMBER", "MOST_ENDS", "MOST_KINDS", "MOST_SPAN", "MOST_NUMBERS", "BEHIND", "OfficeError", "InvalidSchedule", "InvalidBook", "InvalidDay"]
end K06
set_option maxRecDepth 100000
set_option maxHeartbeats 0
namespace K06
open PySem PySem.Spec PyProof.Rows L2 Lt
abbrev R : PySem.W.OpenRow := PySem.W.OpenLaw.row PySem.Challenge.rw_latelists_k06_whole_lists_of_all_days
abbrev qv : Program := PySem.W.view R.prog [55]
def loose : List Str := names ++ (L.fs.map (·.name)).dropLast
theorem run0 (w : World) : HandSHeadRun.RunEq R qv (L.hk sts) (L.ob sts) 6000 loose (w.withFollow "special-get-raises" false) := by
  intro os
  kernel_rfl
theorem run1 (w : World) : HandSHeadRun.RunEq R qv (L.hk sts) (L.ob sts) 6000 loose (w.withFollow "special-get-raises" true) := by
  intro os
  kernel_rfl
theorem run (w : World) : HandSHeadRun.RunEq R qv (L.hk sts) (L.ob sts) 6000 loose w :=
  PySem.W.byRow2 "special-get-raises" (P := HandSHeadRun.RunEq R qv (L.hk sts) (L.ob sts) 6000 loose) run0 run1 w
end K06
set_option maxRecDepth 100000
set_option maxHeartbeats 4000000
namespace K06
open PySem PySem.Spec PyProof.Rows L2 Lt
local macro_rules | `(tactic| array_get_dec) => `(tactic| first
  | ((with_reducible apply re_var) <;> rfl)
  | with_reducible exact re_cst
  | with_reducible exact ra_nil
  | with_reducible exact ro_no
  | with_reducible exact rt_yes
  | ((with_reducible apply ra_cons) <;> array_get_dec)
  | ((with_reducible apply ra_app) <;> array_get_dec)
  | ((with_reducible apply ro_so) <;> array_get_dec)
  | ((with_reducible apply re_pU) <;> array_get_dec)
  | ((with_reducible apply re_pB) <;> array_get_dec)
  | ((with_reducible apply re_pN1) <;> array_get_dec)
  | ((with_reducible apply re_pN2) <;> array_get_dec)
  | ((with_reducible apply re_tup) <;> array_get_dec)
  | ((with_reducible apply re_lst) <;> array_get_dec)
  | ((with_reducible apply re_slice) <;> array_get_dec)
  | ((with_reducible apply rt_tst) <;> array_get_dec)
  | ((with_reducible apply rt_not) <;> array_get_dec)
  | ((with_reducible apply rt_and) <;> array_get_dec)
  | ((with_reducible apply rt_or) <;> array_get_dec)
  | ((with_reducible apply re_and) <;> array_get_dec)
  | ((with_reducible apply re_or) <;> array_get_dec)
  | ((with_reducible apply re_not) <;> array_get_dec)
  | ((with_reducible apply re_ch) <;> array_get_dec)
  | ((with_reducible apply re_call) <;> array_get_dec)
  | ((with_reducible apply re_callE) <;> array_get_dec)
  | ((with_reducible apply ri_walkT) <;> array_get_dec) | ((with_reducible apply ri_walkL) <;> array_get_dec)
  | with_reducible exact v_non | with_reducible exact v_bl | with_reducible exact v_int | with_reducible exact v_str | with_reducible exact v_tup | with_reducible exact v_lst | with_reducible exact v_scr | with_reducible exact v_dic
  | with_reducible exact vw_wd _ | with_reducible exact vw_k _ | with_reducible exact vw_ow _
  | ((with_reducible apply v_ref) <;> (with_reducible assumption)) | ((with_reducible apply vw_nice) <;> (with_reducible assumption))
  | with_reducible exact t_bl | with_reducible exact t_int | with_reducible exact t_tup | with_reducible exact t_lst | with_reducible exact t_non
  | ((with_reducible apply c_modN) <;> omega) | with_reducible exact c_addN | with_reducible exact c_addN1 | with_reducible exact c_add1N
  | with_reducible exact c_lt | with_reducible exact c_le | with_reducible exact c_gt | with_reducible exact c_ge | with_reducible exact c_add | with_reducible exact c_sub | with_reducible exact c_neg | with_reducible exact c_eqI | with_reducible exact c_neI | with_reducible exact c_eqE | with_reducible exact c_isiT | with_reducible exact c_intI | with_reducible exact c_max | with_reducible exact c_min
  | ((with_reducible apply c_mod) <;> omega)
  | ((with_reducible apply c_div) <;> omega)
  | with_reducible exact w_b | with_reducible exact w_g | with_reducible exact w_l | with_reducible exact w_e | with_reducible exact n_b | with_reducible exact n_g | with_reducible exact n_l | with_reducible exact n_e
  | with_reducible exact eq_wd _ _ | with_reducible exact ne_wd _ _ | with_reducible exact eq_kw _ | with_reducible exact eq_kn _ | with_reducible exact ow_isN | with_reducible exact ow_nisN
  | with_reducible exact tp_lst | with_reducible exact tp_tup | with_reducible exact l_tupM | with_reducible exact l_lstM | with_reducible exact l_tup | with_reducible exact l_lst | with_reducible exact l_scr
  | ((with_reducible apply i_tupM) <;> (with_reducible assumption)) | ((with_reducible apply i_lstM) <;> (with_reducible assumption)) | ((with_reducible apply i_tupL) <;> (with_reducible assumption)) | ((with_reducible apply i_lstL) <;> (with_reducible assumption))
  | with_reducible exact i_tup0 | with_reducible exact i_tup1 | with_reducible exact i_tup2 | with_reducible exact i_lst0 | with_reducible exact i_lst1 | with_reducible exact i_lst2
  | ((with_reducible apply s_cutM) <;> omega) | ((with_reducible apply s_toM) <;> omega) | ((with_reducible apply s_fromM) <;> omega)
  | with_reducible exact t_all | with_reducible exact bools_any
  | ((with_reducible apply a_tupM) <;> (first | omega | (simp only [List.length_take, List.length_drop, List.length_append, List.length_map, List.length_cons, List.length_nil, List.length_replicate]; omega)))
  | ((with_reducible apply a_lstM) <;> (first | omega | (simp only [List.length_take, List.length_drop, List.length_append, List.length_map, List.length_cons, List.length_nil, List.length_replicate]; omega)))
  | ((with_reducible apply Nat.le_of_ble_eq_true) <;> rfl)
  | (intro _; array_get_dec)
  | (with_reducible assumption))
local macro_rules | `(tactic| sizeOf_list_dec) => `(tactic| try simp only [List.map_cons, List.map_nil, List.length_cons, List.length_nil, List.replicate, List.cons_append, List.nil_append, Nat.reduceSub, Nat.reduceAdd, Nat.sub_self, Nat.zero_add, List.set_cons_zero, List.set_cons_succ, wipeE])
local macro_rules | `(tactic| bv_omega) => `(tactic| first
  | (with_reducible apply ss_seq)
  | ((with_reducible apply ss_setp); (· array_get_dec); sizeOf_list_dec)
  | ((with_reducible apply ss_par2p); (· array_get_dec); (· array_get_dec); sizeOf_list_dec)
  | ((with_reducible apply ss_dropp); (· array_get_dec); sizeOf_list_dec)
  | ((with_reducible apply ss_retp); (· array_get_dec); try dsimp only)
  | ((with_reducible apply ss_if); (· array_get_dec))
  | ((with_reducible apply es_re); (· array_get_dec); sizeOf_list_dec)
  | ((with_reducible apply as_ra); (· array_get_dec); sizeOf_list_dec)
  | ((with_reducible apply ts_rt); (· array_get_dec); sizeOf_list_dec)
  | ((with_reducible apply os_ro); (· array_get_dec); sizeOf_list_dec)
  | ((with_reducible apply es_call); (· array_get_dec); sizeOf_list_dec)
  | (with_reducible apply ss_set) | (with_reducible apply ss_ret) | (with_reducible apply ss_drop) | (with_reducible apply ss_par2)
  | (with_reducible apply as_cons) | (with_reducible apply es_callS) | (with_reducible apply es_callES) | (with_reducible apply es_sliceS) | (with_reducible apply es_tupS) | (with_reducible apply es_lstS) | (with_reducible apply es_pB) | (with_reducible apply es_pU) | (with_reducible apply es_pNS)
  | (with_reducible apply ts_tst) | (with_reducible apply ts_not)
  | ((with_reducible apply pb_of); (· array_get_dec); (· array_get_dec); (· array_get_dec); sizeOf_list_dec)
  | ((with_reducible apply pu_of); (· array_get_dec); (· array_get_dec); sizeOf_list_dec)
  | ((with_reducible apply pn_of1); (· array_get_dec); (· array_get_dec); sizeOf_list_dec)
  | ((with_reducible apply pn_of2); (· array_get_dec); (· array_get_dec); (· array_get_dec); sizeOf_list_dec)
  | ((with_reducible apply pt_of); (· array_get_dec); (· array_get_dec); sizeOf_list_dec)
  | ((with_reducible apply as_nil); try dsimp only)
  | ((with_reducible apply ss_nx); sizeOf_list_dec))
local macro_rules | `(tactic| eq_refl) => `(tactic| first
  | ((with_reducible apply es_if); (· array_get_dec))
  | (with_reducible apply es_ifS) | (with_reducible apply es_andS) | (with_reducible apply ts_and) | (with_reducible apply ts_or) | (with_reducible apply ss_ifS))
abbrev Φ (k : Nat) : Nat → Fn := den L.fs k
theorem c_is_whole (k : Nat) : WholeOk (Φ (k + 1) 0) := @whole_ok 
theorem c_is_between (k : Nat) : BetweenOk (Φ (k + 2) 1) := @between_ok _ (@c_is_whole k)
theorem c_is_text (k : Nat) : TextOk (Φ (k + 1) 2) := @text_ok 
theorem c_is_word (k : Nat) : WordOk (Φ (k + 2) 3) := @word_ok _ (@c_is_text k)
theorem c_is_tuple_of (k : Nat) : TupOfOk (Φ (k + 1) 4) := @tupof_ok 
theorem c_is_pair (k : Nat) : PairOk (Φ (k + 2) 5) := @pair_ok _ (@c_is_tuple_of k)
theorem c_steps (k : Nat) : StepsOk (Φ (k + 1) 6) := @steps_ok 
theorem c_goes_on (k : Nat) : GoesOk (Φ (k + 3) 7) := @goes_ok _ _ (@c_is_word k) (@c_steps (k + 1))
theorem c_is_row_of (k : Nat) : RowOfOk (Φ (k + 4) 8) := @rowof_ok _ (@c_goes_on k)
theorem c_is_kind (k : Nat) : KindOk (Φ (k + 3) 9) := @kind_ok _ _ (@c_is_text (k + 1)) (@c_is_between k)
theorem c_is_schedule_of (k : Nat) : SchedOk (Φ (k + 4) 10) := @sched_ok _ (@c_is_kind k)
theorem c_kind_of (k : Nat) : KindOfOk (Φ (k + 1) 11) := @kindof_ok 
theorem c_is_book_of (k : Nat) : BookOk (Φ (k + 5) 12) := @book_ok _ _ _ (@c_is_pair (k + 2)) (@c_is_between (k + 2)) (@c_is_row_of k)
theorem c_said_over (k : Nat) : OverOk (Φ (k + 1) 13) := @over_ok 
theorem c_said_of (k : Nat) : SaidOk (Φ (k + 2) 14) := @said_ok _ (@c_said_over k)
theorem c_list_by (k : Nat) : ListByOk (Φ (k + 3) 15) := @listby_ok _ _ (@c_kind_of (k + 1)) (@c_said_of k)
theorem c_is_list_of (k : Nat) : IsListOk (Φ (k + 4) 16) := @islist_ok _ _ _ _ _ (@c_is_tuple_of (k + 2)) (@c_is_between (k + 1)) (@c_is_kind k) (@c_is_pair (k + 1)) (@c_is_word (k + 1))
theorem c__law_purse (k : Nat) : PurseOk (Φ (k + 1) 23) := @purse_ok 
theorem c__law_take (k : Nat) : TakeOk (Φ (k + 1) 24) := @take_ok 
theorem c__law_pick (k : Nat) : PickOk (Φ (k + 2) 25) := @pick_ok _ (@c__law_take k)
theorem c__law_same (k : Nat) : SameOk (Φ (k + 1) 26) := @same_ok 
theorem c__law_after (k : Nat) : AfterOk (Φ (k + 1) 27) := @after_ok 
theorem c__law_line (k : Nat) : LineOk (Φ (k + 3) 28) := @line_ok _ _ _ (@c__law_take (k + 1)) (@c__law_pick k) (@c__law_after (k + 1))
theorem c__law_plan (k : Nat) : PlanOk (Φ (k + 3) 29) := @plan_ok _ _ (@c__law_take (k + 1)) (@c__law_pick k)
theorem c__law_said (k : Nat) : LSaidOk (Φ (k + 1) 30) := @lsaid_ok 
theorem c__law_book (k : Nat) : LBookOk (Φ (k + 4) 31) := @lbook_ok _ _ (@c__law_take (k + 2)) (@c__law_line k)
theorem c__law_list (k : Nat) : LListOk (Φ (k + 2) 32) := @llist_ok _ (@c__law_said k)
theorem c__law_earlier (k : Nat) : LEarlyOk (Φ (k + 4) 33) := @learly_ok _ _ (@c__law_line k) (@c__law_after (k + 2))
theorem p_kind (k : Nat) {p : List Ki} {day : Nat} {x : Ki} (h1 : 1 ≤ p.length) (h2 : p.length ≤ 4) (hd : day ≤ 60) (hx : p[day % p.length]? = some x) (S : Store) : Φ (k + 6) 21 [.tup (p.map kD), .int (day : Int)] S = .ok (kD x) S := by
  have a1' : CkOk (Φ (k + 5) 18) (.tup (p.map kD)) := ck_pass (ψ := Φ (k + 4) 10) rfl (fun S => c_is_schedule_of k p S h1 h2)
  have a1 := a1' S
  have a2' : CkOk (Φ (k + 5) 17) (.int (day : Int)) := ckday_ok (c_is_between (k + 2)) hd
  have a2 := a2' S
  have a3 := c_kind_of (k + 4) p day x S (by omega) (by rw [toNat_mod]; exact hx)
  show runB (b21 (Φ (k + 5))) 2 _ S = _
  with_reducible refine re_of ?_
  sizeOf_list_dec
  unfold b21
  repeat bv_omega
  exact ⟨rfl, rfl⟩
theorem p_list (k : Nat) {p : List Ki} {bk : List (Nat × List Wo)} {z day : Nat} {x : Ki} (h1 : 1 ≤ p.length) (h2 : p.length ≤ 4) (hg : GoodBk bk z) (hd : day < z) (hx : p[day % p.length]? = some x) (S : Store) :
    Φ (k + 7) 22 [.tup (p.map kD), .tup (bk.map pD), .int (day : Int)] S = .ok (listK x bk day) S := by
  have hz := hg.z1
  exact listof_ok (φ := Φ (k + 6) 18) (ψ := Φ (k + 6) 19) (χ := Φ (k + 6) 17) (ω := Φ (k + 6) 15) (ck_pass (ψ := Φ (k + 5) 10) rfl fun S => c_is_schedule_of (k + 1) p S h1 h2) (ck_pass (ψ := Φ (k + 5) 12) rfl fun S => c_is_book_of k bk z S hg) (ckday_ok (c_is_between (k + 3)) (by omega)) (c_list_by (k + 3)) hg hd hx S

end K06
set_option maxRecDepth 100000
set_option maxHeartbeats 4000000
namespace K06
open PySem PySem.Spec PyProof.Rows L2 Lt
local macro_rules | `(tactic| array_get_dec) => `(tactic| first
  | ((with_reducible apply re_var) <;> rfl)
  | with_reducible exact re_cst
  | with_reducible exact ra_nil
  | with_reducible exact ro_no
  | with_reducible exact rt_yes
  | ((with_reducible apply ra_cons) <;> array_get_dec)
  | ((with_reducible apply ra_app) <;> array_get_dec)
  | ((with_reducible apply ro_so) <;> array_get_dec)
  | ((with_reducible apply re_pU) <;> array_get_dec)
  | ((with_reducible apply re_pB) <;> array_get_dec)
  | ((with_reducible apply re_pN1) <;> array_get_dec)
  | ((with_reducible apply re_pN2) <;> array_get_dec)
  | ((with_reducible apply re_tup) <;> array_get_dec)
  | ((with_reducible apply re_lst) <;> array_get_dec)
  | ((with_reducible apply re_slice) <;> array_get_dec)
  | ((with_reducible apply rt_tst) <;> array_get_dec)
  | ((with_reducible apply rt_not) <;> array_get_dec)
  | ((with_reducible apply rt_and) <;> array_get_dec)
  | ((with_reducible apply rt_or) <;> array_get_dec)
  | ((with_reducible apply re_and) <;> array_get_dec)
  | ((with_reducible apply re_or) <;> array_get_dec)
  | ((with_reducible apply re_not) <;> array_get_dec)
  | ((with_reducible apply re_ch) <;> array_get_dec)
  | ((with_reducible apply re_call) <;> array_get_dec)
  | ((with_reducible apply re_callE) <;> array_get_dec)
  | ((with_reducible apply ri_walkT) <;> array_get_dec) | ((with_reducible apply ri_walkL) <;> array_get_dec)
  | with_reducible exact v_non | with_reducible exact v_bl | with_reducible exact v_int | with_reducible exact v_str | with_reducible exact v_tup | with_reducible exact v_lst | with_reducible exact v_scr | with_reducible exact v_dic
  | with_reducible exact vw_wd _ | with_reducible exact vw_k _ | with_reducible exact vw_ow _
  | ((with_reducible apply v_ref) <;> (with_reducible assumption)) | ((with_reducible apply vw_nice) <;> (with_reducible assumption))
  | with_reducible exact t_bl | with_reducible exact t_int | with_reducible exact t_tup | with_reducible exact t_lst | with_reducible exact t_non
  | ((with_reducible apply c_modN) <;> omega) | with_reducible exact c_addN | with_reducible exact c_addN1 | with_reducible exact c_add1N
  | with_reducible exact c_lt | with_reducible exact c_le | with_reducible exact c_gt | with_reducible exact c_ge | with_reducible exact c_add | with_reducible exact c_sub | with_reducible exact c_neg | with_reducible exact c_eqI | with_reducible exact c_neI | with_reducible exact c_eqE | with_reducible exact c_isiT | with_reducible exact c_intI | with_reducible exact c_max | with_reducible exact c_min
  | ((with_reducible apply c_mod) <;> omega)
  | ((with_reducible apply c_div) <;> omega)
  | with_reducible exact w_b | with_reducible exact w_g | with_reducible exact w_l | with_reducible exact w_e | with_reducible exact n_b | with_reducible exact n_g | with_reducible exact n_l | with_reducible exact n_e
  | with_reducible exact eq_wd _ _ | with_reducible exact ne_wd _ _ | with_reducible exact eq_kw _ | with_reducible exact eq_kn _ | with_reducible exact ow_isN | with_reducible exact ow_nisN
  | with_reducible exact tp_lst | with_reducible exact tp_tup | with_reducible exact l_tupM | with_reducible exact l_lstM | with_reducible exact l_tup | with_reducible exact l_lst | with_reducible exact l_scr
  | ((with_reducible apply i_tupM) <;> (with_reducible assumption)) | ((with_reducible apply i_lstM) <;> (with_reducible assumption)) | ((with_reducible apply i_tupL) <;> (with_reducible assumption)) | ((with_reducible apply i_lstL) <;> (with_reducible assumption))
  | with_reducible exact i_tup0 | with_reducible exact i_tup1 | with_reducible exact i_tup2 | with_reducible exact i_lst0 | with_reducible exact i_lst1 | with_reducible exact i_lst2
  | ((with_reducible apply s_cutM) <;> omega) | ((with_reducible apply s_toM) <;> omega) | ((with_reducible apply s_fromM) <;> omega)
  | with_reducible exact t_all | with_reducible exact bools_any
  | ((with_reducible apply a_tupM) <;> (first | omega | (simp only [List.length_take, List.length_drop, List.length_append, List.length_map, List.length_cons, List.length_nil, List.length_replicate]; omega)))
  | ((with_reducible apply a_lstM) <;> (first | omega | (simp only [List.length_take, List.length_drop, List.length_append, List.length_map, List.length_cons, List.length_nil, List.length_replicate]; omega)))
  | ((with_reducible apply Nat.le_of_ble_eq_true) <;> rfl)
  | (intro _; array_get_dec)
  | (with_reducible assumption))
local macro_rules | `(tactic| sizeOf_list_dec) => `(tactic| try simp only [List.map_cons, List.map_nil, List.length_cons, List.length_nil, List.replicate, List.cons_append, List.nil_append, Nat.reduceSub, Nat.reduceAdd, Nat.sub_self, Nat.zero_add, List.set_cons_zero, List.set_cons_succ, wipeE])
local macro_rules | `(tactic| bv_omega) => `(tactic| first
  | (with_reducible apply ss_seq)
  | ((with_reducible apply ss_setp); (· array_get_dec); sizeOf_list_dec)
  | ((with_reducible apply ss_par2p); (· array_get_dec); (· array_get_dec); sizeOf_list_dec)
  | ((with_reducible apply ss_dropp); (· array_get_dec); sizeOf_list_dec)
  | ((with_reducible apply ss_retp); (· array_get_dec); try dsimp only)
  | ((with_reducible apply ss_if); (· array_get_dec))
  | ((with_reducible apply es_re); (· array_get_dec); sizeOf_list_dec)
  | ((with_reducible apply as_ra); (· array_get_dec); sizeOf_list_dec)
  | ((with_reducible apply ts_rt); (· array_get_dec); sizeOf_list_dec)
  | ((with_reducible apply os_ro); (· array_get_dec); sizeOf_list_dec)
  | ((with_reducible apply es_call); (· array_get_dec); sizeOf_list_dec)
  | (with_reducible apply ss_set) | (with_reducible apply ss_ret) | (with_reducible apply ss_drop) | (with_reducible apply ss_par2)
  | (with_reducible apply as_cons) | (with_reducible apply es_callS) | (with_reducible apply es_callES) | (with_reducible apply es_sliceS) | (with_reducible apply es_tupS) | (with_reducible apply es_lstS) | (with_reducible apply es_pB) | (with_reducible apply es_pU) | (with_reducible apply es_pNS)
  | (with_reducible apply ts_tst) | (with_reducible apply ts_not)
  | ((with_reducible apply pb_of); (· array_get_dec); (· array_get_dec); (· array_get_dec); sizeOf_list_dec)
  | ((with_reducible apply pu_of); (· array_get_dec); (· array_get_dec); sizeOf_list_dec)
  | ((with_reducible apply pn_of1); (· array_get_dec); (· array_get_dec); sizeOf_list_dec)
  | ((with_reducible apply pn_of2); (· array_get_dec); (· array_get_dec); (· array_get_dec); sizeOf_list_dec)
  | ((with_reducible apply pt_of); (· array_get_dec); (· array_get_dec); sizeOf_list_dec)
  | ((with_reducible apply as_nil); try dsimp only)
  | ((with_reducible apply ss_nx); sizeOf_list_dec))
local macro_rules | `(tactic| eq_refl) => `(tactic| first
  | ((with_reducible apply es_if); (· array_get_dec))
  | (with_reducible apply es_ifS) | (with_reducible apply es_andS) | (with_reducible apply ts_and) | (with_reducible apply ts_or) | (with_reducible apply ss_ifS))
theorem p_near (k : Nat) {S : Store} {n z day : Nat} {p : List Ki} {bk : List (Nat × List Wo)} {x : Ki} (h : Dr S n) (h1 : 1 ≤ p.length) (h2 : p.length ≤ 4) (hg : GoodBk bk z) (hz : 1 ≤ z) (hd : day < z) (hx : p[day % p.length]? = some x) :
    ES (Φ (k + 8) 34 [.ref n, .tup (p.map kD), .tup (bk.map pD), .int (day : Int)] S) fun d S' => d = .bl true ∧ Dr S' n := by
  have hz2 := hg.z1
  have hlen := hg.len
  have hlist := fun (b : List (Nat × List Wo)) (z' : Nat) (hb : GoodBk b z') (hd' : day < z') (S : Store) => p_list k (p := p) h1 h2 hb hd' hx S
  have l1 := hlist bk z hg hd S
  have hsame := fun (m : Nat) (e : D) (hm : m ≤ 40) (ht : tm m e = true) (hw : wt m e ≤ 1000000) (hn : nice e = true) (S : Store) => same_tm (φ := Φ (k + 7) 26) (@c__law_same (k + 6)) hm ht hw hn S
  have hear : LEarlyOk (Φ (k + 7) 33) := @c__law_earlier (k + 3)
  show ES (runB (b34 (Φ (k + 7))) 13 _ S) _
  with_reducible refine es_run ?_
  sizeOf_list_dec
  unfold b34
  repeat bv_omega
  · intro hc
    have e : RE (orE (pB isDD (var 5) (cst .non)) (pB neD (var 4) (cst (.str "none")))) [some (.ref n), some (.tup (p.map kD)), some (.tup (bk.map pD)), some (.int (day : Int)), some (kD x), some (listK x bk day), none, none, none, none, none, none, none] S (.bl (decide (x = .n) || !decide (x = .n))) :=
      re_or (re_pB (re_var rfl) re_cst (vw_nice nice_listK) v_non is_listK.1) (fun _ => re_pB (re_var rfl) re_cst (vw_k _) v_str (ne_kn x))
    refine ss_retp e ⟨by simp, h⟩
  · intro hc
    have hn : x ≠ .n := by rintro rfl; simp at hc
    have hbk : bk ≠ [] := by rintro rfl; simp at hc
    bv_omega
    bv_omega
    have ef : RE (ifE (tst (pB eqDD (var 4) (cst (.str "whole")))) (var 3) (pN max2D (consA (cst (.int 0)) (consA (pB subD (var 3) (var 4)) nilA)))) [some (.ref n), some (.tup (p.map kD)), some (.tup (bk.map pD)), some (.int (day : Int)), some (kD x), some (listK x bk day), none, none, none, none, none, none, none] S (.int ((day - spn x : Nat) : Int)) := by
      have hif := re_if (t := tst (pB eqDD (var 4) (cst (.str "whole")))) (f := var 3) (g := pN max2D (consA (cst (.int 0)) (consA (pB subD (var 3) (var 4)) nilA))) (env := [some (.ref n), some (.tup (p.map kD)), some (.tup (bk.map pD)), some (.int (day : Int)), some (kD x), some (listK x bk day), none, none, none, none, none, none, none]) (S := S) (p := decide (x = .w)) (a := .int (day : Int)) (b := .int ((day - spn x : Nat) : Int)) (by array_get_dec) (fun _ => by array_get_dec) (fun hw => by
        have hw : x ≠ .w := by simpa using hw
        have e1 : (max 0 ((day : Int) - (spn x : Int))) = ((day - spn x : Nat) : Int) := by omega
        rw [← e1]
        obtain hk : kD x = .int (spn x : Int) := by cases x <;> first | exact absurd rfl hn | exact absurd rfl hw | rfl
        rw [hk]
        array_get_dec)
      have he : (if decide (x = .w) = true then D.int (day : Int) else .int ((day - spn x : Nat) : Int)) = .int ((day - spn x : Nat) : Int) := by
        by_cases hw : x = .w
        · subst hw; rfl
        · rw [decide_eq_false hw]; rfl
      rw [he] at hif
      exact hif
    apply ss_setp ef
    sizeOf_list_dec
    bv_omega
    -- the other book
    refine ss_set (es_pNS (as_cons (es_lcS (xs := bk) (e := pD) (fun pre acc S' => Dr S' n ∧ ∃ os : List (Nat × List Wo), acc = os.map pD ∧ os.map (·.1) = pre.map (·.1) ∧ (∀ q ∈ os, rowW q.2 = true ∧ q.2.length = z) ∧ told x os day = told x pre day) (ri_walkT (re_var rfl)) ⟨h, [], rfl, rfl, fun q hq => (nomatch hq), rfl⟩ (fun pre q post acc S' e j => ?_) (fun acc S' j => ?_))))
    · obtain ⟨hdr, os, rfl, ho1, ho2, ho3⟩ := j
      refine ⟨_, rfl, ?_⟩
      sizeOf_list_dec
      obtain ⟨g1, g2⟩ := hg.rows q (by rw [e]; simp)
      repeat bv_omega
      refine es_imp (hear hdr g1 (by omega) (by omega)) fun d S2 ⟨⟨os', e', r1, r2, r3⟩, hd2, hk2⟩ => ?_
      subst e'
      bv_omega
      refine ⟨by simp, ?_, hd2, os ++ [(q.1, os')], by rw [List.map_append]; rfl, by simp [ho1], fun r hr => ?_, ?_⟩
      · have := congrArg List.length ho1; have := congrArg List.length e; simp at *; omega
      · rcases List.mem_append.mp hr with hr | hr
        · exact ho2 r hr
        · rw [List.mem_singleton] at hr; subst hr; exact ⟨r1, r2.trans g2⟩
      · rw [told_snoc, told_snoc, ho3, said_drop r3]
    · obtain ⟨hdr, os, rfl, ho1, ho2, ho3⟩ := j
      have hol : os.length = bk.length := by simpa using congrArg List.length ho1
      have hgo : GoodBk os z := ⟨by omega, asc_nums ho1 hg.up, ho2, hz2⟩
      bv_omega; bv_omega; bv_omega
      -- the shorter one
      have es : RE (lcE (lcA (walk (var 2)) [11, 12] (gTp 2 (gCs (gNm 11) (gCs (gNm 12) gNl))) yesT (tupE (consA (var 11) (consA (sliceE (var 12) noP (soP (pB addD (var 3) (cst (.int 1))))) nilA))))) [some (.ref n), some (.tup (p.map kD)), some (.tup (bk.map pD)), some (.int (day : Int)), some (kD x), some (listK x bk day), some (.int ((day - spn x : Nat) : Int)), some (.tup (os.map pD)), none, none, none, none, none] S' (.lst (bk.map fun q => .tup [.int (q.1 : Int), .tup ((q.2.take ((day + 1 : Nat) : Int).toNat).map wd)])) :=
        re_lcv (xs := bk) (e := pD) (H := fun q => .tup [.int (q.1 : Int), .tup ((q.2.take ((day + 1 : Nat) : Int).toNat).map wd)]) (ri_walkT (re_var rfl)) (fun q hq => ⟨_, rfl, by sizeOf_list_dec; array_get_dec⟩) (by omega)
      have e3 : (bk.map fun q => D.tup [.int (q.1 : Int), .tup ((q.2.take ((day + 1 : Nat) : Int).toNat).map wd)]) = (bk.map fun q => (q.1, q.2.take (day + 1))).map pD := by
        rw [List.map_map]; rfl
      rw [e3] at es
      have hgs : GoodBk (bk.map fun q => (q.1, q.2.take (day + 1))) (day + 1) := by
        refine ⟨by rw [List.length_map]; omega, asc_nums (by rw [List.map_map]; rfl) hg.up, fun r hr => ?_, by omega⟩
        obtain ⟨q, hq, rfl⟩ := List.mem_map.mp hr
        obtain ⟨g1, g2⟩ := hg.rows q hq
        exact ⟨row_take g1 (by omega), by simp; omega⟩
      have ets : told x (bk.map fun q => (q.1, q.2.take (day + 1))) day = told x bk day := told_map (fun q => (q.1, q.2.take (day + 1))) (fun q => rfl) fun q hq => by
        unfold said; rw [List.take_take, Nat.min_self]
      refine ss_setp (re_pN1 es v_lst rfl) ?_
      sizeOf_list_dec
      have l2 := hlist os z hgo hd S'
      have l3 := hlist _ _ hgs (Nat.lt_succ_self day) S'
      have k2 : listK x os day = listK x bk day := by rw [listK_of hn, listK_of hn, ho3]
      have k3 : listK x (bk.map fun q => (q.1, q.2.take (day + 1))) day = listK x bk day := by rw [listK_of hn, listK_of hn, ets]
      rw [k2] at l2
      rw [k3] at l3
      obtain ⟨t1, t2⟩ := tm_listK (x := x) hg (show day < 1000 by omega)
      have q1 := hsame 4 (.lst [listK x bk day, listK x bk day]) (by decide) (tm_two t1) (wt_two t2) rfl S'
      repeat bv_omega
      · intro hq; cases hq
      · intro _
        bv_omega; bv_omega; bv_omega; bv_omega
        refine ss_for (xs := bk) (e := pD) (fun pre e S'' => S'' = S' ∧ ∃ a b c, e = [some (.ref n), some (.tup (p.map kD)), some (.tup (bk.map pD)), some (.int (day : Int)), some (kD x), some (listK x bk day), some (.int ((day - spn x : Nat) : Int)), some (.tup (os.map pD)), some (.tup ((bk.map fun q => (q.1, q.2.take (day + 1))).map pD)), some (.tup ((told x pre day).map sD)), a, b, c]) (ri_walkT (re_var rfl)) ⟨rfl, _, _, _, rfl⟩ (fun pre q post env S'' e j => ?_) (fun env S'' j => ?_)
        · obtain ⟨rfl, a, b, c, rfl⟩ := j
          refine ⟨_, rfl, ?_⟩
          sizeOf_list_dec
          obtain ⟨g1, g2⟩ := hg.rows q (by rw [e]; simp)
          have hq : GoodBk [q] z := ⟨by simp, ⟨(asc_le hg.up q (by rw [e]; simp)).1, (asc_le hg.up q (by rw [e]; simp)).2, trivial⟩, fun r hr => by rw [List.mem_singleton] at hr; subst hr; exact ⟨g1, g2⟩, hz2⟩
          have lq : Φ (k + 7) 22 (permL [2, 0, 1] [.tup [pD q], .int (day : Int), .tup (p.map kD)]) S'' = .ok (.tup [.int (day : Int), kD x, .tup ((told x [q] day).map sD)]) S'' := by
            have := hlist [q] z hq hd S''
            rw [listK_of hn] at this
            exact this
          have u1 := told_len x pre day
          have u2 := told_len x [q] day
          have u3 := congrArg List.length e
          simp only [List.length_append, List.length_cons, List.length_nil] at u2 u3
          bv_omega
          exact ⟨by trivial, _, _, _, by rw [show told x (pre ++ [q]) day = told x pre day ++ told x [q] day from List.filterMap_append]⟩
        · obtain ⟨rfl, a, b, c, rfl⟩ := j
          have v1 : nice (listK x bk day) = true := nice_listK
          have v2 : ixD (listK x bk day) (.int 2) = some (.tup ((told x bk day).map sD)) := by rw [listK_of hn]; exact i_tup2
          obtain ⟨w1, w2⟩ := tm_told (ps := told x bk day) (fun r hr => by have := asc_le (asc_told x day hg.up) r hr; omega) (Nat.le_trans (told_len x bk day) hlen)
          have q2 := hsame 2 _ (by decide) w1 (by omega) rfl S''
          bv_omega
          exact ⟨by trivial, hdr⟩

def takeN (k : Nat) {S : Store} {n : Nat} (m : Nat) (h : Dr S n) (h0 : 0 < m) (h1 : m < 1000000) : ES (Φ (k + 1) 24 [.ref n, .int (m : Int)] S) fun d S' => ∃ r : Nat, d = .int (r : Int) ∧ r < m ∧ Dr S' n ∧ Kp S S' n :=
  es_mono (@c__law_take k S n m h (by omega) (by omega)) fun d S' ⟨⟨r, e, r0, r1⟩, hd, hk⟩ => ⟨r.toNat, by rw [e, Int.toNat_of_nonneg r0], by omega, hd, hk⟩
theorem p_right (k : Nat) {S : Store} {n : Nat} (h : Dr S n) : (Φ (k + 9) 35 [.ref n] S).sat fun d _ => d = .bl true := by
  have hsame := fun (m : Nat) (e : D) (hm : m ≤ 40) (ht : tm m e = true) (hw : wt m e ≤ 1000000) (hn : nice e = true) (S : Store) => same_tm (φ := Φ (k + 8) 26) (@c__law_same (k + 7)) hm ht hw hn S
  have hbook : LBookOk (Φ (k + 8) 31) := @c__law_book (k + 4)
  have hllist : LListOk (Φ (k + 8) 32) := @c__law_list (k + 6)
  have hplan : PlanOk (Φ (k + 8) 29) := @c__law_plan (k + 5)
  show (runB (b35 (Φ (k + 8))) 9 _ S).sat _
  with_reducible refine sat_run ?_
  sizeOf_list_dec
  unfold b35
  repeat bv_omega
  refine es_mono (hplan h) fun d S1 ⟨⟨p, e, h1, h2⟩, hd1, _⟩ => ?_
  subst e
  repeat bv_omega
  refine es_imp (takeN (k + 7) 6 hd1 (by decide) (by decide)) fun d S2 ⟨r, e, _, hd2, _⟩ => ?_
  subst e
  repeat bv_omega
  generalize decide ((r : Int) = 0) = g
  have hs : ES (ifE (tst (var 2)) (cst (.int 61)) (pB addD (cst (.int 1)) (callP (Φ (k + 8) 24) (consA (var 0) (consA (cst (.int 9)) nilA)))) [some (.ref n), some (.tup (p.map kD)), some (.bl g), none, none, none, none, none, none] S2) fun d S3 => ∃ z : Nat, d = .int (z : Int) ∧ 1 ≤ z ∧ z ≤ 61 ∧ Dr S3 n := by
    eq_refl
    · intro _; bv_omega; exact ⟨61, rfl, by decide, by decide, hd2⟩
    · intro _
      repeat bv_omega
      refine es_imp (takeN (k + 7) 9 hd2 (by decide) (by decide)) fun d S3 ⟨r, e, hr, hd3, _⟩ => ?_
      subst e
      bv_omega
      exact ⟨1 + r, rfl, by omega, by omega, hd3⟩
  refine es_imp hs fun d S3 ⟨z, e, z1, z2, hd3⟩ => ?_
  subst e
  sizeOf_list_dec
  repeat bv_omega
  have hm : ES (ifE (tst (var 2)) (cst (.int 40)) (callP (Φ (k + 8) 24) (consA (var 0) (consA (cst (.int 6)) nilA))) [some (.ref n), some (.tup (p.map kD)), some (.bl g), some (.int (z : Int)), none, none, none, none, none] S3) fun d S4 => ∃ m : Nat, d = .int (m : Int) ∧ m ≤ 40 ∧ Dr S4 n := by
    eq_refl
    · intro _; bv_omega; exact ⟨40, rfl, by decide, hd3⟩
    · intro _
      repeat bv_omega
      refine es_imp (takeN (k + 7) 6 hd3 (by decide) (by decide)) fun d S3 ⟨r, e, hr, hd4, _⟩ => ?_
      exact ⟨r, e, by omega, hd4⟩
  refine es_imp hm fun d S4 ⟨m, e, m1, hd4⟩ => ?_
  subst e
  repeat bv_omega
  refine es_imp (hbook hd4 m1 z1 z2) fun d S5 ⟨⟨bk, e, hg, hbl⟩, hd5, _⟩ => ?_
  subst e
  have hlen := hg.len
  have hlist := fun (b : List (Nat × List Wo)) (z' day : Nat) (x : Ki) (hx : p[day % p.length]? = some x) (hb : GoodBk b z') (hd' : day < z') (S : Store) => p_list (k + 1) (p := p) h1 h2 hb hd' hx S
  sizeOf_list_dec
  bv_omega
  refine ss_rng (n := z) (fun i e S' => Dr S' n ∧ ∃ a b c d, e = [some (.ref n), some (.tup (p.map kD)), some (.bl g), some (.int (z : Int)), some (.tup (bk.map pD)), a, b, c, d]) (ri_rng (by array_get_dec) (by omega)) ⟨hd5, _, _, _, _, rfl⟩ (fun i env S' hi j => ?_) (fun env S' j => ?_)
  · obtain ⟨hdr, a, b, c, d, rfl⟩ := j
    refine ⟨_, rfl, ?_⟩
    sizeOf_list_dec
    obtain ⟨x, hx⟩ : ∃ x, p[i % p.length]? = some x := ⟨_, List.getElem?_eq_getElem (Nat.mod_lt _ (by omega))⟩
    repeat bv_omega
    refine es_imp (hllist p bk i x S' hlen (fun q hq => by have := (hg.rows q hq).2; omega) hx) fun d S6 ⟨e, hk⟩ => ?_
    subst e
    have hd6 := hk.dr hdr
    obtain ⟨t1, t2⟩ := tm_listK (x := x) hg (show i < 1000 by omega)
    have k1 := p_kind (k + 2) (p := p) h1 h2 (show i ≤ 60 by omega) hx S6
    have k2 : Φ (k + 8) 21 (permL [1, 0] [.int (i : Int), .tup (p.map kD)]) S6 = .ok (kD x) S6 := k1
    have l1 := hlist bk z i x hx hg hi S6
    have i1 : Φ (k + 8) 20 [listK x bk i] S6 = .ok (.bl (!decide (x = .n))) S6 := by
      by_cases hn : x = .n
      · subst hn; rw [listK_n]; kernel_rfl
      · rw [listK_of hn, decide_eq_false hn]
        show runB (b20 (Φ (k + 7))) 1 _ _ = _
        have := @c_is_list_of (k + 3) i x (told x bk i) S6 (told_good hg hi hn)
        with_reducible refine re_of ?_
        sizeOf_list_dec
        unfold b20
        unfold tdD at this
        repeat bv_omega
        exact ⟨rfl, rfl⟩
    have n1 : nice (listK x bk i) = true := nice_listK
    have n2 := (is_listK (x := x) (bk := bk) (day := i)).2
    have q1 := hsame 1 (.lst [kD x, kD x]) (by decide) (by cases x <;> decide +kernel) (by cases x <;> decide +kernel) rfl S6
    have q2 := hsame 4 (.lst [listK x bk i, .bl (!decide (x = .n))]) (by decide) (by show [listK x bk i, .bl _].all (tm 3) = true; simp [t1, tm, lf]) (by show ([listK x bk i, .bl _].map fun x => wt 3 x + 1).sum ≤ 1000000; simp only [List.map_cons, List.map_nil, List.sum_cons, List.sum_nil, wt]; omega) rfl S6
    repeat bv_omega
    · intro z; cases z
    · intro _
      repeat bv_omega
      · intro z; cases z
      · intro _
        bv_omega
        exact ⟨hd6, _, _, _, _, rfl⟩
  · obtain ⟨hdr, a, b, c, d, rfl⟩ := j
    bv_omega
    refine ss_forW ?_
    repeat bv_omega
    refine es_imp (takeN (k + 7) z hdr (by omega) (by omega)) fun d S6 ⟨r, e, hr, hd6, _⟩ => ?_
    subst e
    repeat bv_omega
    refine es_imp (takeN (k + 7) z hd6 (by omega) (by omega)) fun d S7 ⟨r2, e, hr2, hd7, _⟩ => ?_
    subst e
    repeat bv_omega
    refine ⟨by simp, ?_⟩
    rw [show (z : Int) - 1 = ((z - 1 : Nat) : Int) by omega]
    refine ss_for (xs := [0, z - 1, r, r2]) (e := fun (i : Nat) => D.int (i : Int)) (fun pre e S' => Dr S' n ∧ ∃ a b c d, e = [some (.ref n), some (.tup (p.map kD)), some (.bl g), some (.int (z : Int)), some (.tup (bk.map pD)), a, b, c, d]) (ri_walkL rfl) ⟨hd7, _, _, _, _, rfl⟩ (fun pre i post env S' e j => ?_) (fun env S' j => ?_)
    · obtain ⟨hdr, a, b, c, d, rfl⟩ := j
      refine ⟨_, rfl, ?_⟩
      sizeOf_list_dec
      have hi : i < z := by
        have : i ∈ [0, z - 1, r, r2] := by rw [e]; simp
        simp at this; omega
      obtain ⟨x, hx⟩ : ∃ x, p[i % p.length]? = some x := ⟨_, List.getElem?_eq_getElem (Nat.mod_lt _ (by omega))⟩
      eq_refl
      repeat bv_omega
      refine es_imp (p_near k hdr h1 h2 hg z1 hi hx) fun d S8 ⟨e, hd8⟩ => ?_
      subst e
      bv_omega
      refine ⟨fun z => (by cases z), fun _ => ?_⟩
      bv_omega
      exact ⟨hd8, _, _, _, _, rfl⟩
    · obtain ⟨hdr, a, b, c, d, rfl⟩ := j
      repeat bv_omega
      refine es_imp (takeN (k + 7) 61 hdr (by omega) (by omega)) fun d S8 ⟨day, e, hday, hd8, _⟩ => ?_
      subst e
      sizeOf_list_dec
      obtain ⟨x, hx⟩ : ∃ x, p[day % p.length]? = some x := ⟨_, List.getElem?_eq_getElem (Nat.mod_lt _ (by omega))⟩
      have hge : GoodBk [] 61 := ⟨by simp, trivial, fun q hq => (nomatch hq), by decide⟩
      have l1 : Φ (k + 8) 22 [.tup (p.map kD), .tup [], .int (day : Int)] S8 = .ok (listK x [] day) S8 := hlist [] 61 day x hx hge hday S8
      obtain ⟨t1, t2⟩ := tm_listK (x := x) hge (show day < 1000 by omega)
      have q1 := hsame 3 (listK x [] day) (by decide) t1 (by omega) nice_listK S8
      have e1 : ∀ a6 a8, RE (ifE (tst (pB eqDD (var 7) (cst (.str "none")))) (cst .non) (tupE (consA (var 5) (consA (var 7) (consA (tupE nilA) nilA))))) [some (.ref n), some (.tup (p.map kD)), some (.bl g), some (.int (z : Int)), some (.tup (bk.map pD)), some (.int (day : Int)), a6, some (kD x), a8] S8 (listK x [] day) := by
        intro a6 a8
        have := re_if (t := tst (pB eqDD (var 7) (cst (.str "none")))) (f := cst .non) (g := tupE (consA (var 5) (consA (var 7) (consA (tupE nilA) nilA)))) (env := [some (.ref n), some (.tup (p.map kD)), some (.bl g), some (.int (z : Int)), some (.tup (bk.map pD)), some (.int (day : Int)), a6, some (kD x), a8]) (S := S8) (p := decide (x = .n)) (a := .non) (b := .tup [.int (day : Int), kD x, .tup []]) (by array_get_dec) (fun _ => by array_get_dec) (fun _ => re_tup (by array_get_dec) (by simp))
        have he : (if decide (x = .n) = true then D.non else .tup [.int (day : Int), kD x, .tup []]) = listK x [] day := by
          unfold listK
          by_cases hn : x = .n <;> simp [hn, told]
        rw [he] at this
        exact this
      bv_omega; bv_omega
      exact ss_retp (re_call (ra_cons (re_call (by array_get_dec) l1) (ra_cons (e1 _ _) ra_nil)) q1) rfl
theorem tells : Tells (Φ 10 36) 63 := law_tells (@c__law_purse 8) (fun h => p_right 0 h)

end K06
open PySem PySem.W PySem.Calls PyProof.Rows
theorem PySem.Challenge.cw_latelists_k06_whole_lists_of_all_days_holds : PySem.Challenge.rw_latelists_k06_whole_lists_of_all_days.Holds := by
  w_on; o_law
  refine HandSHeadRun.head_any (r := K06.R) (q := K06.qv) (H := K06.L.hk K06.sts) (ob := K06.L.ob K06.sts) (M := 6000) (loose := K06.loose) (d := HandSHeadRun.topDef K06.R.prog 55) (kwd := []) (K06.L.ob_eq K06.sts)
    (by kernel_rfl) (fun s => by kernel_rfl) K06.run (by kernel_rfl) (by kernel_rfl) (by kernel_rfl) (by rfl) (by first | assumption | decide +kernel) (by decide +kernel) ⟨rfl, rfl, rfl, rfl, rfl, by decide +kernel⟩ ?hw ?hc
  case hw => w_witness2
  case hc => exact Lt.law_walk (f := K06.f36) (i := 36) (k := 10) (x := "cells") K06.made rfl (by decide) (by kernel_rfl) ⟨rfl, by decide, by decide⟩ rfl rfl (by kernel_rfl) K06.tells
