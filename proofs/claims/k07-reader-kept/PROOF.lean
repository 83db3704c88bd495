import PyProof.Rows.All
import Wide.All
import OpenK.AllK
import Wide.FinOn
import HandS.ForMost
import HandS.Codes
import HandS.Wide
import HandS.WideBits
import HandS.IsInst
import HandS.EndBits
import HandS.TupAny
import HandS.ExcOwn
import HandS.ExcCtx
import HandS.ExcInit
import HandS.ExcIs
import HandS.ExcField
import HandS.HotCalls
import HandS.RaiseMore
import HandS.FStr
import HandS.OwnEq
import HandS.Walk
import KE.KExcSuper
import KE.KSuper
import KE.KExcIs
import KE.GoesEnum
import HandS.Replace
import PyProof.Rows.StrLawsPart
import OpenK.KMeth
import OpenK.KOps
import OpenK.KWalk
import PyProof.InstEq
import HandS.ClsMeth
import HandS.TryOnly
import KE.KStateDown
import HandS.Head0
import HandS.Head1
import HandS.Head2
import HandS.HeadHook1
import HandS.HeadHook2
import PySem.Challenge.RW_vouchedlots_k07_reader_kept
set_option Elab.async false
set_option linter.all false
set_option maxRecDepth 100000
set_option maxHeartbeats 4000000
namespace Vl
open PySem L2

/-! ## What the laws' texts share: data, heaps, sources of draws -/
/-- plain data as the laws build it; dct: some dict -/
inductive D where
  | non | bl (b : Bool) | int (i : Int) | str (x : Str) | lst (ds : List D) | tup (ds : List D) | dct
mutual
/-- the value v stands for the datum d, at places outside S -/
inductive Rp (S : List Addr) (H : Hp) : V → D → Prop
  | non : Rp S H .non .non
  | bl (b : Bool) : Rp S H (.bl b) (.bl b)
  | int (i : Int) : Rp S H (.int i) (.int i)
  | str (x : Str) : Rp S H (.str x) (.str x)
  | lst {a : Addr} {xs : List V} {ds : List D} : a ∉ S → H a = some (.lst xs) → Rps S H xs ds → Rp S H (.ref a) (.lst ds)
  | tup {a : Addr} {xs : List V} {ds : List D} : a ∉ S → H a = some (.tup xs) → Rps S H xs ds → Rp S H (.ref a) (.tup ds)
  | dct {a : Addr} {kvs : List (Key × V)} : a ∉ S → H a = some (.dK kvs) → Rp S H (.ref a) .dct
inductive Rps (S : List Addr) (H : Hp) : List V → List D → Prop
  | nil : Rps S H [] []
  | cons {v : V} {vs : List V} {d : D} {ds : List D} : Rp S H v d → Rps S H vs ds → Rps S H (v :: vs) (d :: ds)
end
/-- outside S all stands as it stood -/
def Keep (S : List Addr) (H H' : Hp) : Prop := ∀ b o, b ∉ S → H b = some o → H' b = some o
theorem Keep.refl (S : List Addr) (H : Hp) : Keep S H H := fun _ _ _ e => e
theorem Keep.trans {S : List Addr} {H H1 H2 : Hp} (a : Keep S H H1) (b : Keep S H1 H2) : Keep S H H2 := fun c o h e => b c o h (a c o h e)
theorem Keep.new {S : List Addr} {H : Hp} {p : Addr} {o : HO} (h : H p = none) : Keep S H (upd H p o) := fun b u _ e => by
  rw [upd_ne (ne_of_none e h)]
  exact e
mutual
theorem Rp.keep {S : List Addr} {H H' : Hp} (k : Keep S H H') : ∀ {v : V} {d : D}, Rp S H v d → Rp S H' v d
  | _, _, .non => .non
  | _, _, .bl b => .bl b
  | _, _, .int i => .int i
  | _, _, .str x => .str x
  | _, _, .lst n e r => .lst n (k _ _ n e) (Rps.keep k r)
  | _, _, .tup n e r => .tup n (k _ _ n e) (Rps.keep k r)
  | _, _, .dct n e => .dct n (k _ _ n e)
theorem Rps.keep {S : List Addr} {H H' : Hp} (k : Keep S H H') : ∀ {vs : List V} {ds : List D}, Rps S H vs ds → Rps S H' vs ds
  | _, _, .nil => .nil
  | _, _, .cons r t => .cons (Rp.keep k r) (Rps.keep k t)
end
theorem Rps.len {S : List Addr} {H : Hp} : ∀ {vs : List V} {ds : List D}, Rps S H vs ds → vs.length = ds.length
  | _, _, .nil => rfl
  | _, _, .cons _ t => congrArg (· + 1) (Rps.len t)
theorem Rps.get {S : List Addr} {H : Hp} : ∀ {vs : List V} {ds : List D} {i : Nat} {d : D}, Rps S H vs ds → ds[i]? = some d → ∃ v, vs[i]? = some v ∧ Rp S H v d
  | _, _, _, _, .nil, e => by simp at e
  | _, _, 0, d, .cons r _, e => by
    simp at e
    subst e
    exact ⟨_, rfl, r⟩
  | _, _, i + 1, d, .cons _ t, e => Rps.get (i := i) t (by simpa using e)
theorem Rps.getV {S : List Addr} {H : Hp} : ∀ {vs : List V} {ds : List D} {i : Nat} {v : V}, Rps S H vs ds → vs[i]? = some v → ∃ d, ds[i]? = some d ∧ Rp S H v d
  | _, _, _, _, .nil, e => by simp at e
  | _, _, 0, d, .cons r _, e => by
    simp at e
    subst e
    exact ⟨_, rfl, r⟩
  | _, _, i + 1, d, .cons _ t, e => Rps.getV (i := i) t (by simpa using e)
theorem Rps.snoc {S : List Addr} {H : Hp} {v : V} {d : D} (r : Rp S H v d) : ∀ {vs : List V} {ds : List D}, Rps S H vs ds → Rps S H (vs ++ [v]) (ds ++ [d])
  | _, _, .nil => .cons r .nil
  | _, _, .cons q t => .cons q (Rps.snoc r t)
theorem Rps.app {S : List Addr} {H : Hp} : ∀ {vs ws : List V} {ds es : List D}, Rps S H vs ds → Rps S H ws es → Rps S H (vs ++ ws) (ds ++ es)
  | _, _, _, _, .nil, s => s
  | _, _, _, _, .cons r t, s => .cons r (Rps.app t s)
theorem Rps.ints {S : List Addr} {H : Hp} : ∀ ns : List Int, Rps S H (ns.map V.int) (ns.map D.int)
  | [] => .nil
  | _ :: r => .cons (.int _) (Rps.ints r)
theorem Rps.ints_eq {S : List Addr} {H : Hp} : ∀ {vs : List V} {ns : List Int}, Rps S H vs (ns.map D.int) → vs = ns.map V.int
  | _, [], .nil => rfl
  | _, n :: r, .cons (.int _) t => by rw [Rps.ints_eq t]; rfl
theorem Rps.strs_eq {S : List Addr} {H : Hp} : ∀ {vs : List V} {l : List Str}, Rps S H vs (l.map D.str) → vs = l.map V.str
  | _, [], .nil => rfl
  | _, n :: r, .cons (.str _) t => by rw [Rps.strs_eq t]; rfl
/-- a word that the reading's steps don't open -/
def Iv (p : Prop) : Prop := True → p
theorem Iv.of {p : Prop} (h : p) : Iv p := fun _ => h
theorem Iv.get {p : Prop} (h : Iv p) : p := h trivial
/-! a source of draws -/
/-- at a stands a source: digits left, seed, count -/
def Src (H : Hp) (a : Addr) : Prop := ∃ x s c : Int, H a = some (.lst [.int x, .int s, .int c])
/-- the sources stand at A; S: A and other places that are taken -/
structure Wd (A S : List Addr) (H : Hp) : Prop where
  sub : ∀ a ∈ A, a ∈ S
  src : ∀ a ∈ A, Src H a
  ex : ∀ a ∈ S, ∃ o, H a = some o
/-- the way from H to H': the sources at A may have been drawn from, new things may have come -/
structure Go (A : List Addr) (H H' : Hp) : Prop where
  keep : Keep A H H'
  src : (∀ a ∈ A, Src H a) → ∀ a ∈ A, Src H' a
theorem Wd.fresh {A S : List Addr} {H : Hp} (s : Wd A S H) {p : Addr} (h : H p = none) : p ∉ S := fun hm => by
  obtain ⟨o, e⟩ := s.ex p hm
  rw [h] at e
  cases e
theorem Wd.add {A S : List Addr} {H : Hp} (s : Wd A S H) {p : Addr} {o : HO} (h : H p = some o) : Wd A (p :: S) H :=
  ⟨fun a ha => List.mem_cons_of_mem _ (s.sub a ha), s.src, fun a ha => by
    rcases List.mem_cons.mp ha with e | ha
    · rw [e]; exact ⟨o, h⟩
    · exact s.ex a ha⟩
theorem Wd.less {A S T : List Addr} {H : Hp} (s : Wd A S H) (h1 : ∀ a ∈ A, a ∈ T) (h2 : ∀ a ∈ T, a ∈ S) : Wd A T H := ⟨h1, s.src, fun a ha => s.ex a (h2 a ha)⟩
theorem Go.refl (A : List Addr) (H : Hp) : Go A H H := ⟨Keep.refl A H, fun h => h⟩
theorem Go.trans {A : List Addr} {H H1 H2 : Hp} (a : Go A H H1) (b : Go A H1 H2) : Go A H H2 := ⟨a.keep.trans b.keep, fun h => b.src (a.src h)⟩
theorem Go.same {A : List Addr} {H H' : Hp} (e : Same H H') : Go A H H' := ⟨fun b o _ h => e b o h, fun h a ha => by
  obtain ⟨x, s, c, q⟩ := h a ha
  exact ⟨x, s, c, e _ _ q⟩⟩
theorem Same.new {H : Hp} {p : Addr} {o : HO} (h : H p = none) : Same H (upd H p o) := fun b u e => by
  rw [upd_ne (ne_of_none e h)]
  exact e
theorem Go.new {A : List Addr} {H : Hp} {p : Addr} {o : HO} (h : H p = none) : Go A H (upd H p o) := Go.same (Same.new h)
theorem Wd.go {A S : List Addr} {H H' : Hp} (s : Wd A S H) (g : Go A H H') : Wd A S H' := ⟨s.sub, g.src s.src, fun a ha => by
  by_cases hm : a ∈ A
  · obtain ⟨x, sd, c, q⟩ := g.src s.src a hm
    exact ⟨_, q⟩
  · obtain ⟨o, e⟩ := s.ex a ha
    exact ⟨o, g.keep a o hm e⟩⟩
theorem Keep.mono {A S : List Addr} {H H' : Hp} (k : Keep A H H') (h : ∀ a ∈ A, a ∈ S) : Keep S H H' := fun b o hb e => k b o (fun q => hb (h b q)) e
theorem Rp.go {A S : List Addr} {H H' : Hp} {v : V} {d : D} (r : Rp S H v d) (s : Wd A S H) (g : Go A H H') : Rp S H' v d := r.keep (g.keep.mono s.sub)
theorem Rps.go {A S : List Addr} {H H' : Hp} {v : List V} {d : List D} (r : Rps S H v d) (s : Wd A S H) (g : Go A H H') : Rps S H' v d := r.keep (g.keep.mono s.sub)
theorem Keep.upd {S : List Addr} {H : Hp} {p : Addr} {o : HO} (h : p ∈ S) : Keep S H (upd H p o) := fun b u hb e => by
  rw [upd_ne (fun q : b = p => hb (by rw [q]; exact h))]
  exact e
mutual
theorem Rp.less {S T : List Addr} {H : Hp} (h : ∀ a ∈ S, a ∈ T) : ∀ {v : V} {d : D}, Rp T H v d → Rp S H v d
  | _, _, .non => .non
  | _, _, .bl b => .bl b
  | _, _, .int i => .int i
  | _, _, .str x => .str x
  | _, _, .lst n e r => .lst (fun q => n (h _ q)) e (Rps.less h r)
  | _, _, .tup n e r => .tup (fun q => n (h _ q)) e (Rps.less h r)
  | _, _, .dct n e => .dct (fun q => n (h _ q)) e
theorem Rps.less {S T : List Addr} {H : Hp} (h : ∀ a ∈ S, a ∈ T) : ∀ {vs : List V} {ds : List D}, Rps T H vs ds → Rps S H vs ds
  | _, _, .nil => .nil
  | _, _, .cons r t => .cons (Rp.less h r) (Rps.less h t)
end
mutual
/-- places that were not taken yet may be left out, too -/
theorem Rp.more {S T : List Addr} {H : Hp} (h : ∀ a ∈ T, a ∈ S ∨ H a = none) : ∀ {v : V} {d : D}, Rp S H v d → Rp T H v d
  | _, _, .non => .non
  | _, _, .bl b => .bl b
  | _, _, .int i => .int i
  | _, _, .str x => .str x
  | _, _, .lst n e r => .lst (fun q => (h _ q).elim n fun z => by rw [e] at z; cases z) e (Rps.more h r)
  | _, _, .tup n e r => .tup (fun q => (h _ q).elim n fun z => by rw [e] at z; cases z) e (Rps.more h r)
  | _, _, .dct n e => .dct (fun q => (h _ q).elim n fun z => by rw [e] at z; cases z) e
theorem Rps.more {S T : List Addr} {H : Hp} (h : ∀ a ∈ T, a ∈ S ∨ H a = none) : ∀ {vs : List V} {ds : List D}, Rps S H vs ds → Rps T H vs ds
  | _, _, .nil => .nil
  | _, _, .cons r t => .cons (Rp.more h r) (Rps.more h t)
end
/-- a draw -/
def spPick : Sp := fun vs H Q _ => ∃ (A : List Addr) (a : Addr) (m : Int), vs = [.ref a, .int m] ∧ a ∈ A ∧ (∀ a ∈ A, Src H a) ∧ 0 < m ∧ m < 2 ^ 30 ∧
  ∀ (r : Int) (H' : Hp), 0 ≤ r → r < m → Go A H H' → Q (.int r) H'
theorem Go.draw {A : List Addr} {H : Hp} {a : Addr} {x s c : Int} (hm : a ∈ A) : Go A H (upd H a (.lst [.int x, .int s, .int c])) where
  keep := Keep.upd hm
  src := fun z b hb => by
    by_cases e : b = a
    · subst e
      exact ⟨x, s, c, upd_same⟩
    · obtain ⟨x, s, c, q⟩ := z b hb
      exact ⟨x, s, c, by rw [upd_ne e]; exact q⟩
/-! a comprehension, its list being made at L: what is made stands for the data ds, of which I tells -/
theorem lc_D {A S : List Addr} {J : It} {n : Nat} {G : Hp → Prop} {Y : Nat → Hp → V → Hp → Prop} {Xp : Nat → V → Prop} {j : Nat} {tt : TT} {te : TE} {vs : List Nat} {σ : L2.St} {H1 : Hp} {L : Addr} {Qd : Hp → Prop}
    (I : Nat → List D → Prop) (w : Walk J n G Y) (hY : ∀ i H x H', i < n → Y i H x H' → H' = H ∧ Xp i x) (W : Wd A S H1) (hD : H1 L = none) (hn : n ≤ 100000)
    (hG : ∀ H, Keep (L :: A) H1 H → G H) (h0 : I 0 []) (hl : ∀ i ds, I i ds → ds.length ≤ i) (hw : ∀ x, wipe ((wipe σ vs).set j (some x)) vs = wipe σ vs)
    (hs : ∀ i ds x H, i < n → I i ds → Xp i x → Wd A (L :: S) H → Keep (L :: A) H1 H → ∀ (Kt : V → Hp → Prop) (Kf : Hp → Prop),
      (∀ y d H', Go A H H' → Rp (L :: S) H' y d → I (i + 1) (ds ++ [d]) → Kt y H') → (∀ H', Go A H H' → I (i + 1) ds → Kf H') →
      tt ((wipe σ vs).set j (some x)) H fun b H3 => if b = true then te ((wipe σ vs).set j (some x)) H3 Kt else Kf H3)
    (hd : ∀ ys ds H, I n ds → Go A H1 H → H L = some (.lst ys) → Rps (L :: S) H ys ds → Qd H) :
    ∃ W : Nat → Nat → Hp → Prop, (∃ m, W 0 m (upd H1 L (.lst []))) ∧ ∀ i m H, W i m H →
      (J.stop i H ∧ Qd H) ∨ (J.go i H ∧ ∃ Nx : Hp → Prop, (∀ H', Nx H' → ∃ m', m' < m ∧ W (i + 1) m' H') ∧ ∀ x H', J.yld i H x H' → gName j x (wipe σ vs) H' fun σ2 H2 => wipe σ2 vs = wipe σ vs ∧ tt σ2 H2 fun b H3 =>
        if b = true then te σ2 H3 fun y H4 => ∃ acc, H4 L = some (.lst acc) ∧ acc.length < sizeLine ∧ Nx (upd H4 L (.lst (acc ++ [y]))) else Nx H3) := by
  have nD : L ∉ S := W.fresh hD
  have nA : L ∉ A := fun q => nD (W.sub L q)
  refine lc_it w (fun i H => ∃ ys ds, I i ds ∧ Keep (L :: A) H1 H ∧ (∀ a ∈ A, Src H a) ∧ H L = some (.lst ys) ∧ Rps (L :: S) H ys ds) ⟨[], [], h0, fun b o hb e => ?_, fun a ha => ?_, upd_same, .nil⟩ (fun i H _ p => ?_) (fun i x H H' hi p y => ?_) (fun H p => ?_)
  · rw [upd_ne (ne_of_none e hD)]
    exact e
  · obtain ⟨x, s, c, q⟩ := W.src a ha
    exact ⟨x, s, c, by rw [upd_ne (ne_of_none q hD)]; exact q⟩
  · obtain ⟨ys, ds, _, k, _⟩ := p
    exact hG H k
  · obtain ⟨e1, hx⟩ := hY i H x H' hi y
    rw [e1]
    clear e1 y
    obtain ⟨ys, ds, hI, k, hsr, hDl, hr⟩ := p
    have W2 : Wd A (L :: S) H := ⟨fun a ha => List.mem_cons_of_mem _ (W.sub a ha), hsr, fun a ha => by
      rcases List.mem_cons.mp ha with e | ha
      · rw [e]; exact ⟨_, hDl⟩
      · by_cases hm : a ∈ A
        · obtain ⟨x, s, c, q⟩ := hsr a hm
          exact ⟨_, q⟩
        · obtain ⟨o, e⟩ := W.ex a ha
          refine ⟨o, k a o (fun q => ?_) e⟩
          rcases List.mem_cons.mp q with q | q
          · rw [q, hD] at e; cases e
          · exact hm q⟩
    refine ⟨hw x, hs i ds x H hi hI hx W2 k _ _ (fun y d H' g r hI' => ?_) (fun H' g hI' => ?_)⟩
    · have e := g.keep L _ nA hDl
      refine ⟨ys, e, ?_, ys ++ [y], ds ++ [d], hI', ?_, ?_, upd_same, ?_⟩
      · have h1 := hr.len
        have h2 := hl i ds hI
        exact Nat.lt_of_lt_of_le (show ys.length < 100001 by omega) (by decide)
      · exact (k.trans (g.keep.mono fun a ha => List.mem_cons_of_mem _ ha)).trans (Keep.upd (List.mem_cons_self ..))
      · intro a ha
        obtain ⟨x, s, c, q⟩ := g.src hsr a ha
        exact ⟨x, s, c, by rw [upd_ne (fun z : a = L => nA (by rw [← z]; exact ha))]; exact q⟩
      · exact (((hr.go W2 g).snoc r)).keep (Keep.upd (List.mem_cons_self ..))
    · exact ⟨ys, ds, hI', k.trans (g.keep.mono fun a ha => List.mem_cons_of_mem _ ha), g.src hsr, g.keep L _ nA hDl, hr.go W2 g⟩
  · obtain ⟨ys, ds, hI, k, hsr, hDl, hr⟩ := p
    refine hd ys ds H hI ⟨fun b o hb e => k b o (fun q => ?_) e, fun _ => hsr⟩ hDl hr
    rcases List.mem_cons.mp q with q | q
    · rw [q, hD] at e; cases e
    · exact hb q
theorem bits_lt {i : Int} {n : Nat} (h : Builtin.Int.intBits i ≤ n) : i.natAbs < 2 ^ n := by
  unfold Builtin.Int.intBits at h
  split at h
  · rename_i e
    have e' : i = 0 := by simpa using e
    subst e'
    exact Nat.two_pow_pos n
  · rename_i e
    have e' : i.natAbs ≠ 0 := by simpa using e
    exact (Nat.log2_lt e').mp (by omega)
theorem shl_part {i : Int} (h0 : 0 ≤ i) (h : Builtin.Int.intBits i ≤ 1048576) (k : Nat) : CShl (i / 2 ^ k) (3000 : Int) := by
  have h1 := bits_lt h
  have h2 : (i / 2 ^ k).natAbs ≤ i.natAbs := by
    have h3 : i / 2 ^ k ≤ i := Int.ediv_le_self _ h0
    have h4 : 0 ≤ i / 2 ^ k := Int.ediv_nonneg h0 (Int.pow_nonneg (by decide))
    omega
  have h5 : (i / 2 ^ k).natAbs < 2 ^ 1048576 := Nat.lt_of_le_of_lt h2 h1
  exact shl_ok (j := 3000) h5 (by decide)

/-! data of one make -/
theorem maps_of {α : Type} {f : α → D} {R : α → Prop} : ∀ {ds : List D}, (∀ d ∈ ds, ∃ x, d = f x ∧ R x) → ∃ xs : List α, ds = xs.map f ∧ ∀ x ∈ xs, R x
  | [], _ => ⟨[], rfl, by simp⟩
  | d :: ds, h => by
    obtain ⟨x, rfl, hx⟩ := h d (List.mem_cons_self ..)
    obtain ⟨xs, rfl, hxs⟩ := maps_of (fun e he => h e (List.mem_cons_of_mem _ he))
    refine ⟨x :: xs, rfl, fun y hy => ?_⟩
    rcases List.mem_cons.mp hy with rfl | hy
    · exact hx
    · exact hxs y hy
def rowD (r : List Int) : D := .lst (r.map .int)
def rowT (r : List Int) : D := .tup (r.map .int)
def mvD (m : List (List Int)) : D := .lst (m.map rowD)
def mvT (m : List (List Int)) : D := .tup (m.map rowT)
/-- a machine over k letters: m its moves, g its good rooms, ascending -/
structure Mach (k : Nat) (m : List (List Int)) (g : List Int) : Prop where
  pos : 1 ≤ m.length
  most : m.length ≤ 60
  row : ∀ r ∈ m, r.length = k ∧ ∀ x ∈ r, 0 ≤ x ∧ x < (m.length : Int)
  asc : g.Pairwise (· < ·)
  inn : ∀ x ∈ g, 0 ≤ x ∧ x < (m.length : Int)
theorem asc_le {n : Nat} : ∀ {g : List Int} {lo : Int}, g.Pairwise (· < ·) → (∀ x ∈ g, lo ≤ x ∧ x < lo + n) → g.length ≤ n
  | [], _, _, _ => Nat.zero_le _
  | x :: r, lo, h, b => by
    have h1 := b x (List.mem_cons_self ..)
    rw [List.pairwise_cons] at h
    obtain ⟨k, hk⟩ : ∃ k : Nat, lo + n - (x + 1) = (k : Int) := ⟨(lo + n - (x + 1)).toNat, by omega⟩
    have ih := asc_le (n := k) (lo := x + 1) h.2 (fun y hy => by
      have h2 := h.1 y hy
      have h3 := b y (List.mem_cons_of_mem _ hy)
      omega)
    rw [List.length_cons]
    omega
theorem Mach.glen {k : Nat} {m : List (List Int)} {g : List Int} (h : Mach k m g) : g.length ≤ 60 := by
  have h1 := asc_le (n := m.length) (lo := 0) h.asc (fun x hx => by have := h.inn x hx; omega)
  have := h.most
  omega
theorem Wd.range {A S : List Addr} {H : Hp} (W : Wd A S H) : ∀ a ∈ A, Src H a := W.src

theorem yes_go {te : TE} {σ : L2.St} {H : Hp} {Kt : V → Hp → Prop} {Kf : Hp → Prop} (h : te σ H Kt) : tYes σ H (fun b H3 => if b = true then te σ H3 Kt else Kf H3) := by
  show (if true = true then te σ H Kt else Kf H)
  rw [if_pos rfl]
  exact h

theorem szl {n : Nat} (h : Nat.ble n 1000 = true) : n ≤ sizeLine := Nat.le_trans (Nat.le_of_ble_eq_true h) (by decide)

/-! ## An own exception over ValueError whose class's __init__ says super().__init__(..), then self.nm = nm -/
namespace SupX
open PySem.W PySem.Calls PyProof.Rows PySem.HandSPX
def supB (arg : Expr) (nm : Str) (p0 p1 p2 p3 p4 q1 q2 q3 q4 : Pos) : List Stmt :=
  [.Expr (.Call (.Attribute (.Call (.Name "super" p0) [] [] p1) "__init__" p2) [arg] [] p3) p4, .Assign [.Attribute (.Name "self" q1) nm q2] (.Name nm q3) q4]
def supA (nm : Str) (p1 p2 : Pos) : Arguments := { posonlyargs := [], args := [{ arg := "self", annotation := none, pos := p1 }, { arg := nm, annotation := none, pos := p2 }], vararg := none, kwonlyargs := [], kw_defaults := [], kwarg := none, defaults := [] }
def supS (nm : Str) : Scope := { kind := .function, names := [(PySem.Str.ofString "self", .local), (nm, .local), (PySem.Str.ofString "__class__", .free), (PySem.Str.ofString "super", .globalImplicit)], isGenerator := false, isCoroutine := false, more := [] }
/-- what the argument of super().__init__ must give: some value, nothing changed -/
def ArgOk (P : Program) (w : World) (nm : Str) (arg : Expr) (ok : Value → Prop) : Prop :=
  (∀ env, starEach [arg] env = [(false, eval arg env)]) ∧ ∀ (A : Around) (E : Value → Shared → Prop) (s : Shared) (env : Env) (m : Str → Option Value) (v : Value) (Q : Value → Shared → Prop), env.scope.kind = .function → env.kindOf nm = some .local →
    s.heap.Ns env.locals m → m nm = some v → ok v → (∀ u t, Q u { s with toks := t }) → wpAny (model P w) A (eval arg env) Q E s
/-- what the written part says of the class at C, whose __init__ is that of the class at D -/
structure SupTxt (P : Program) (w : World) (K : Frag) (mg : Str → Option Value) (C D fI : Addr) (nm : Str) (arg : Expr) (ok : Value → Prop) : Prop where
  cls : ∃ nm q N bs bm sn sub ab col dd k0 k1 k2 k3 k5, K.lookup C = some (excClassObj nm q C N bs bm true sn sub ab col dd k0 k1 k2 k3 k5 "ValueError.__new__") ∧ refsVE bm = true
  sa : findIn K (.ref C) "__setattr__" = some (some (.builtin "object.__setattr__"))
  noN : findIn K (.ref C) nm = some none
  iC : findIn K (.ref C) "__init__" = some (some (.ref fI))
  tI : typeIn K (.ref fI) = some (.type "function")
  kC : keepIn K (.ref C) = true
  exC : subIn K (.ref C) (.type "BaseException") = some true
  tyC : typeIn K (.ref C) = some (.type "type")
  sub : mroIn K C (.ref D) = some true
  sup : ks_superIn K C D "__init__" = some (some (.builtin "ValueError.__init__"))
  tV : subIn K (.ref C) (.type "ValueError") = some true
  any : nsIn K cStatics "thirdparty.any" = some none
  sg : mg "super" = none
  dD : (clsIn K D).isSome = true
  top : (P.main.scope.names.lookup ("super" : Str)).isSome = false
  ns1 : (("self" : Str) == nm) = false
  ns2 : (nm == ("self" : Str)) = false
  kn : (supS nm).names.lookup nm = some .local
  ks : (supS nm).names.lookup ("super" : Str) = some .globalImplicit
  kc : (supS nm).names.lookup ("__class__" : Str) = some .free
  db : (nm == ("__debug__" : Str)) = false
  hA : ArgOk P w nm arg ok
  bd : ∀ (qual : Str) (p5 p6 : Pos) (body : List Stmt) (kV doc pm : Value) (an : Option Addr) (cdv ct : Value) (cc : Addr) (a b : Value),
    bindArgs (ksFn "__init__" qual (supA nm p5 p6) body (supS nm) .none kV doc pm an cdv ct cc) ⟨[a, b], []⟩ = pure [(PySem.Str.ofString "self", a), (nm, b)]
  fn : ∃ (oc : Value) (od : Option Addr) (qual : Str) (kV doc pm : Value) (an : Option Addr) (cda cc : Addr) (ct : Value) (osl : Array (Option Value)) (p0 p1 p2 p3 p4 p5 p6 q1 q2 q3 q4 : Pos)
    (vs : Array Value) (file : Str) (tf : Tok) (ccl cl : Value) (cdd cld : Option Addr) (ccs csl : Array (Option Value)),
    K.lookup fI = some ⟨oc, od, .func (ksFn "__init__" qual (supA nm p5 p6) (supB arg nm p0 p1 p2 p3 p4 q1 q2 q3 q4) (supS nm) .none kV doc pm an (.ref cda) ct cc), osl⟩ ∧ codeIn K (.ref cda) qual = true ∧
    K.lookup cda = some ⟨ccl, cdd, .fields vs, ccs⟩ ∧ vs[2]? = some (.str file tf) ∧ ((P.main.file : Str) == file) = true ∧ K.lookup cc = some ⟨cl, cld, .cell (some (.ref D)), csl⟩ ∧
    ∀ env : Env, ∃ pl : Sem Bool, eval (.Call (.Attribute (.Call (.Name "super" p0) [] [] p1) "__init__" p2) [arg] [] p3) env = (do
      let ov ← attributeBase (.Call (.Name "super" p0) [] [] p1) "__init__" env (eval (.Call (.Name "super" p0) [] [] p1) env)
      standAt p2.atName
      let (f, first) ← holding [ov] (getMethod ov "__init__" pl)
      callWith p3 f first (backTo p3 (starEach [arg] env)) [])
structure InitEnd (h h' : Heap) (x C dx t1 : Addr) (nm : Str) (v : Value) : Prop where
  keep : ∀ b o, b ≠ x → h.get? b = some o → h'.get? b = some o
  obj : h'.get? x = some { cls := .ref C, dict := some dx, data := .fields #[.ref t1, .none, .none, .none, .bool false, .none] }
  dbig : h.objs.size ≤ dx
  dne : dx ≠ x
  ns : h'.Ns1 dx (fun y => if y = nm then some v else none)
structure OwnMade (h h' : Heap) (e C d : Addr) (nm : Str) (v : Value) : Prop where
  keep : ∀ b o, h.get? b = some o → h'.get? b = some o
  new : h.objs.size ≤ e
  obj : ∃ t1 : Addr, h'.get? e = some { cls := .ref C, dict := some d, data := .fields #[.ref t1, .none, .none, .none, .bool false, .none] }
  dbig : h.objs.size ≤ d
  dne : d ≠ e
  ns : h'.Ns1 d (fun y => if y = nm then some v else none)
theorem one_size (v : Value) : [v].length ≤ sizeLine := by
  rw [sizeLine_eq]
  exact (by decide : 1 ≤ 16777216)
section
variable {P : Program} {w : World} {A : Around} {E : Value → Shared → Prop} {h : Heap} {g : Array GenState} {d : Drawn} {t : Nat} {os : OsState}
/-- the bound ValueError.__init__ at u, called -/
theorem call_mw {nm q : Str} {C N : Addr} {bs bm : List Value} {hdct : Bool} {sn : List Str} {sub : List Value} {ab : Bool} {col : Option Bool} {dd : Option Addr} {k0 k1 k2 k3 k5 : Option Value} {u e t0 : Addr} {rest : List Value} {Q : Value → Shared → Prop}
    (hC : h.get? C = some (excClassObj nm q C N bs bm hdct sn sub ab col dd k0 k1 k2 k3 k5 "ValueError.__new__")) (he : h.get? e = some (excO C t0)) (hu : h.get? u = some (kxs_mw "ValueError.__init__" e)) (hrest : rest.length ≤ sizeLine)
    (hq : ∀ h' t1, (∀ b o, b ≠ e → h.get? b = some o → h'.get? b = some o) → h'.get? e = some (excO C t1) → Q .none ⟨h', g, d, t, os⟩) :
    wpAny (model P w) A (call (.ref u) rest) Q E ⟨h, g, d, t, os⟩ := by
  refine wpAny_call (codeAny_of_tree ?_)
  show wpAny _ A.in1 (callAny (.ref u) ⟨rest, []⟩) _ _ _
  simp only [callAny]
  refine wpAny_bind (wpAny_load hu ?_)
  simp only [kxs_mw, show (Value.type "method-wrapper" == Value.type "method" || Value.type "method-wrapper" == Value.type "builtin_function_or_method" || Value.type "method-wrapper" == Value.type "method-wrapper") = true by decide, if_true]
  refine KFB.if_so (by decide) ?_
  refine wpAny_bind (check_bound_init F.excBase_ValueError.toExcCallFacts hC he rfl ?_)
  refine wpAny_bind (wpAny_pure (wpAny_pure ?_))
  refine ⟨plainId_quiet F.excBase_ValueError.init.plain _, codeAny_builtin F.excBase_ValueError.initEntry ?_⟩
  exact exc_init_tree (cls := .ref C) (t0 := t0) (dv := none) (c2 := .none) (c3 := .none) (b4 := .bool false) he hrest (fun h' k e' _ => hq h' _ k e')
end
section
variable {P : Program} {w : World} {A : Around} {R : Result → Shared → Prop} {s : Shared} {K : Frag} {mg : Str → Option Value} {C D fI : Addr} {nm : Str} {arg : Expr} {ok : Value → Prop}
theorem sup_init (T : SupTxt P w K mg C D fI nm arg ok) {x t0 : Addr} {v : Value} (X : K.In s.heap) (hlim : s.heap.NoLimit) (G : s.heap.Ns mainGlobals mg) (B : ∃ mb, s.heap.Ns builtinsNs mb ∧ ∀ x : Str, x ≠ "__name__" → mb x = bootBuiltins x)
    (hx : s.heap.get? x = some (excO C t0)) (hnx : K.lookup x = none) (hroom : A.depth < recursionLimit) (hv : ok v)
    (hq : ∀ h' tk dx t1, InitEnd s.heap h' x C dx t1 nm v → R (.ok (.ret .none)) { s with heap := h', toks := tk }) :
    codeAny (model P w) A (.call (.ref fI) ⟨[.ref x, v], []⟩) R s := by
  obtain ⟨oc, od, qual, kV, doc, pm, an, cda, cc, ct, osl, p0, p1, p2, p3, p4, p5, p6, q1, q2, q3, q4, vs, file, tf, ccl, cl, cdd, cld, ccs, csl, ho, hcd, hcda, hvs, hfile, hcc, hev'⟩ := T.fn
  obtain ⟨nmc, q, N, bs, bm, sn, sub, ab, col, dd, k0, k1, k2, k3, k5, hC, hbm⟩ := T.cls
  have hcl : clsIn K C = some { name := nmc, bases := bs, mro := .ref C :: bm, ns := N, qualname := q, hasDict := true, slotNames := sn, subclasses := sub, abstract := ab, collection := col, hasDel := false } := by unfold clsIn; rw [hC] <;> rfl
  obtain ⟨cdD, hD⟩ := Option.isSome_iff_exists.mp T.dD
  refine ks_codeAny_call_defAt (fd := ksFn "__init__" qual (supA nm p5 p6) (supB arg nm p0 p1 p2 p3 p4 q1 q2 q3 q4) (supS nm) .none kV doc pm an (.ref cda) ct cc) (body := supB arg nm p0 p1 p2 p3 p4 q1 q2 q3 q4) (binds := [("self", .ref x), (nm, v)])
    hroom (X _ _ ho) rfl hlim (codeRec_of X hcd) rfl (BindsTo.of_eq (T.bd ..)) ?cell ?loc ?body
  case cell =>
    intro y hy
    rcases List.mem_cons.mp hy with rfl | hy
    · decide
    rcases List.mem_cons.mp hy with rfl | hy
    · exact fun z => by cases z
    rcases List.mem_cons.mp hy with rfl | hy
    · decide
    rcases List.mem_cons.mp hy with rfl | hy
    · decide
    · cases hy
  case loc =>
    intro y hy
    rcases List.mem_cons.mp hy with rfl | hy
    · rfl
    rcases List.mem_cons.mp hy with rfl | hy
    · exact T.kn
    · cases hy
  case body =>
    intro h₁ hn k
    have X₁ : K.In h₁ := X.keeps k
    have hx₁ := k _ _ hx
    obtain ⟨mb, hB, hB2⟩ := B
    have m1 : ([((PySem.Str.ofString "self" : Str), Value.ref x), (nm, v)] : List (Str × Value)).reverse.lookup (PySem.Str.ofString "self") = some (.ref x) := by
      show (match (PySem.Str.ofString "self" : Str) == nm with | true => some v | false => some (Value.ref x)) = _
      rw [show ((PySem.Str.ofString "self" : Str) == nm) = false from T.ns1]
    have m2 : ([((PySem.Str.ofString "self" : Str), Value.ref x), (nm, v)] : List (Str × Value)).reverse.lookup nm = some v := by
      show (match nm == nm with | true => some v | false => _) = _
      rw [show (nm == nm) = true from beq_self_eq_true nm]
    obtain ⟨oD, hD1, hD2⟩ : ∃ oD, h₁.get? D = some oD ∧ oD.data = .cls cdD := by
      unfold clsIn at hD
      split at hD
      · rename_i c d cd' sl ho
        cases hD
        exact ⟨_, X₁ _ _ ho, rfl⟩
      · cases hD
    have hsup := T.sup
    unfold ks_superIn at hsup
    rw [hcl] at hsup
    have xC : x ≠ C := by
      rintro rfl
      have z := (X _ _ hC).symm.trans hx
      cases z
    obtain ⟨pl, hev⟩ := hev' (ksEnv qual (supS nm) s.heap.objs.size fI (.ref cda) cc)
    refine ks_wpAt_execs_cons (ks_wpAt_Expr_any (ks_wpAt_MethodCall (pl := pl) ?_ hev))
    refine ks_wpAt_super_base (env := ksEnv qual (supS nm) s.heap.objs.size fI (.ref cda) cc) T.ks T.kc rfl rfl (X₁ _ _ ho) rfl rfl rfl (X₁ _ _ hcda) rfl hvs hfile T.top ?_
    refine ks_loadName_global rfl T.ks (loadGlobal_builtin (env := ksEnv qual (supS nm) s.heap.objs.size fI (.ref cda) cc) (G.keeps k) T.sg (hB.keeps k) ((hB2 _ (by decide)).trans (by decide +kernel)) ⟨rfl, ?_⟩)
    refine wpAny_loadName_free rfl T.kc rfl ⟨_, X₁ _ _ hcc, rfl⟩ ?_
    refine wpAny_loadName_local rfl rfl hn m1 ?_
    refine ks_wpAny_isType_cls hD1 hD2 ⟨rfl, ?_⟩
    have I₁ : InstAt h₁ x (excO C t0) C none := ⟨hx₁, rfl, rfl, trivial⟩
    refine ks_wpAny_call_super hD1 hD2 hx₁ rfl (fun c e => by cases e) (looks_mroIn X₁ T.sub) (fun h₂ e₂ k₂ => ?_)
    have X₂ : K.In h₂ := X₁.keeps k₂
    have I₂ : InstAt h₂ x (excO C t0) C none := ⟨k₂ _ _ hx₁, rfl, rfl, trivial⟩
    refine kxs_getMethod kxs_ValueError e₂ (looks_opaque X₂ T.any) (l₀ := .ref C :: bm) ((looks_clsIn X₂ hcl).andThen .now) rfl X₂ hsup (I₂.type.andThen (looks_subIn X₂ T.tV)) xC rfl ?_
    have k₃ : ∀ b o, h₂.get? b = some o → (h₂.push (kxs_mw "ValueError.__init__" x)).get? b = some o := fun b o e => Heap.get?_push_of_some _ e
    have kk : ∀ b o, h₁.get? b = some o → (h₂.push (kxs_mw "ValueError.__init__" x)).get? b = some o := fun b o e => k₃ b o (k₂ b o e)
    have hu : (h₂.push (kxs_mw "ValueError.__init__" x)).get? h₂.objs.size = some (kxs_mw "ValueError.__init__" x) := Heap.get?_push_at rfl rfl
    have X₃ : K.In (h₂.push (kxs_mw "ValueError.__init__" x)) := X₁.keeps kk
    show wpAny _ _ (callWith p3 (.ref h₂.objs.size) [] (backTo p3 (starEach [arg] _)) []) _ _ _
    rw [T.hA.1]
    refine kxs_callWith (i := "ValueError.__init__") (x := x) rfl (evalArgs_plain (Calls.spliced_cons ?_))
    refine T.hA.2 _ _ _ _ _ v _ rfl T.kn (hn.keeps kk) m2 hv (fun u t => ?_)
    refine Calls.spliced_nil ⟨hu, ?_⟩
    refine call_mw (X₃ _ _ hC) (kk _ _ hx₁) hu (one_size u) (fun h₄ t4 k₄ hx₄ => ?_)
    have X₄ : K.In h₄ := fun b o e => k₄ b o (fun z => by rw [z, hnx] at e; cases e) (X₃ b o e)
    have hxL : s.heap.objs.size ≠ x := Nat.ne_of_gt (Heap.lt_size hx)
    have hn₄ : h₄.Ns s.heap.objs.size (fun y => ([((PySem.Str.ofString "self" : Str), Value.ref x), (nm, v)] : List (Str × Value)).reverse.lookup y) := by
      obtain ⟨oL, es, ep, hL, r⟩ := hn
      exact ⟨oL, es, ep, k₄ _ _ hxL (kk _ _ hL), r⟩
    have sz : s.heap.objs.size < h₄.objs.size := hn₄.lt
    -- self.nm = nm
    refine wpAt_of_wpAny (wpAny_execs_cons (plainObj_wpAny_Assign_Attribute ?_))
    refine wpAny_Name (wpAny_loadName_local rfl T.kn hn₄ m2 ?_) T.db
    refine wpAny_Name (wpAny_loadName_local rfl rfl hn₄ m1 ?_) (by decide)
    refine set_plain X₄ (ox := excO C t4) (od := none) ⟨hx₄, rfl, rfl, trivial⟩ T.sa ?_
    refine exc_osa X₄ hx₄ hcl (show refsVE (.ref C :: bm) = true from hbm) rfl T.noN (fun h₅ tk₅ dx k₅ dn dne hx₅ hn₅ => ?_)
    show wpAny _ _ (execs _ _) _ _ _
    exact wpAny_execs_nil (hq h₅ tk₅ dx t4 ⟨fun b o hb e => k₅ b o hb (k₄ b o hb (kk b o (k b o e))), hx₅, Nat.le_of_lt (Nat.lt_of_lt_of_le sz dn), dne, hn₅⟩)
theorem sup_made (T : SupTxt P w K mg C D fI nm arg ok) {v : Value} (X : K.In s.heap) (hlim : s.heap.NoLimit) (G : s.heap.Ns mainGlobals mg) (B : ∃ mb, s.heap.Ns builtinsNs mb ∧ ∀ x : Str, x ≠ "__name__" → mb x = bootBuiltins x) (hroom : A.depth + 1 < recursionLimit) (hv : ok v)
    (hq : ∀ h' tk e d, OwnMade s.heap h' e C d nm v → R (.ok (.ret (.ref e))) { s with heap := h', toks := tk }) :
    codeAny (model P w) A (.call (.ref C) ⟨[v], []⟩) R s := by
  obtain ⟨nmc, q, N, bs, bm, sn, sub, ab, col, dd, k0, k1, k2, k3, k5, hC, hbm⟩ := T.cls
  obtain ⟨hp, g, dr, tk, os⟩ := s
  have k : ∀ b o, hp.get? b = some o → ((hp.push (kdv_tup [v])).push (excO C hp.objs.size)).get? b = some o := fun b o e => Heap.get?_push_of_some _ (Heap.get?_push_of_some _ e)
  have hget : ((hp.push (kdv_tup [v])).push (excO C hp.objs.size)).get? (hp.objs.size + 1) = some (excO C hp.objs.size) := by heap_get
  have hnx : K.lookup (hp.objs.size + 1) = none := by
    cases e : K.lookup (hp.objs.size + 1) with
    | none => rfl
    | some o =>
      have z : hp.get? (hp.objs.size + 1) = some o := X _ _ e
      exact absurd (Nat.lt_of_succ_lt (Heap.lt_size z)) (Nat.lt_irrefl _)
  obtain ⟨mb, hB, hB2⟩ := B
  refine call_own F.excBase_ValueError (fun X => refsVE_contains X bm hbm) (X _ _ hC) (looks_findIn X T.iC) (fun self => bind_fn X self T.tI) (one_size v) ?_
  refine sup_init (s := ⟨(hp.push (kdv_tup [v])).push (excO C hp.objs.size), g, dr, tk, os⟩) T (X.keeps k) (hlim.keeps k) (G.keeps k) ⟨mb, hB.keeps k, hB2⟩ hget hnx ?_ hv fun h' tk' dx t1 ⟨k', hx, dn, dne, hns⟩ => ?_
  · show A.depth + 1 < recursionLimit
    exact hroom
  · have old : ∀ b o, hp.get? b = some o → h'.get? b = some o := fun b o e => k' b o (Nat.ne_of_lt (Nat.lt_succ_of_lt (Heap.lt_size e))) (k b o e)
    have z : hp.objs.size + 1 + 1 ≤ dx := by
      first
        | (simpa only [Heap.size_push] using dn)
        | exact dn
        | (have q := dn; rw [Heap.size_push, Heap.size_push] at q; exact q)
    exact ⟨rfl, hq h' tk' (hp.objs.size + 1) dx ⟨old, Nat.le_succ _, ⟨_, hx⟩, Nat.le_trans (Nat.le_trans (Nat.le_succ _) (Nat.le_succ _)) z, dne, hns⟩⟩
end
end SupX
/-- C(e), its one field nm kept -/
def tMkSup (C : Addr) (nm : Str) (okV : V → Prop) (ta : TA) : L2.St → Hp → XK → Prop := fun σ H Q => ta σ H fun vs H1 => ∃ v, vs = [v] ∧ okV v ∧ ∀ d, H1 d = none → Q (.ref C) (some d) (upd H1 d (.xd [(nm, v)]))
theorem relO_one {v : V} {v' : Value} {nm : Str} (r : RelV v v') (f : Str) : RelO (List.lookup f [(nm, v)]) (if f = nm then some v' else none) := by
  by_cases hw : f = nm
  · subst hw
    rw [if_pos rfl]
    have q : List.lookup f [(f, v)] = some v := by simp [List.lookup]
    rw [q]
    exact r
  · rw [if_neg hw]
    have qw : (f == nm) = false := by simpa using hw
    have q2 : List.lookup f [(nm, v)] = none := by simp [List.lookup, qw]
    rw [q2]
    trivial
section
open PyProof.Rows
variable {X : Cx} {C D fI : Addr} {nm : Str} {arg : Expr} {ok : Value → Prop} {okV : V → Prop}
theorem pmk_sup {x : Str} {a : Expr} {ta : TA} {p pos : Pos} {k : Nat} (T : SupX.SupTxt X.prog X.w X.K X.mg C D fI nm arg ok) (hok : ∀ v u, RelV v u → okV v → ok u) (hr : Room k X.A) (gC : X.mg x = some (.ref C)) (ha : PA X [a] ta) (hg : Gl X x := by rfl) (hdb : (x == ("__debug__" : Str)) = false := by decide)
    (he : starEach (a :: []) X.env = (false, eval a X.env) :: starEach [] X.env := by rfl) (hpl : (backTo pos (starEach [] X.env)).any (·.1) = false := by rfl) :
    L2N.PMk X (.Call (.Name x p) [a] [] pos) (tMkSup C nm okV ta) := by
  intro pins s σ H Q I h
  refine wpAny_Call_Name_kw (ld_glob I hg gC ?_ hdb)
  refine PySem.W.callWith_K (h₀ := X.base) I.ok.mod.kin T.kC (thn (ha.run pos pins s σ H _ I h) fun us s1 hh => ?_) he hpl
  obtain ⟨vs, H1, I1, r1, v, ev, hov, q1⟩ := hh
  subst ev
  refine ⟨I1.kIn, ?_⟩
  cases r1 with
  | cons rv rn =>
    rename_i v' us'
    cases rn
    show wpAny _ _ (call (.ref C) [v']) _ _ _
    have hlim := I1.nolimit
    obtain ⟨mb, hb1, hb2⟩ := I1.mod.blt
    have B : ∃ mb, s1.heap.Ns builtinsNs mb ∧ ∀ x : Str, x ≠ "__name__" → mb x = bootBuiltins x := ⟨mb, hb1.keeps I1.bk, hb2⟩
    have G := I1.mod.glob.keeps I1.bk
    obtain ⟨hp, g, dr, tk, os⟩ := s1
    refine wpAny_call (SupX.sup_made T I1.kIn hlim G B (by have := hr.dp; omega) (hok v v' rv hov) fun h' tk' e d M => ?_)
    show L2N.MkP X pins σ Q (.ref e) ⟨h', g, dr, tk', os⟩
    obtain ⟨t1, hoe⟩ := M.obj
    have hns := M.ns
    obtain ⟨G', g1, g2⟩ := restrict h' fun b => decide (b ≠ e)
    have gk : ∀ b, b ≠ e → G'.get? b = h'.get? b := fun b hb => g1 b (decide_eq_true hb)
    have ge : G'.get? e = none := g2 e (by simp)
    have old : ∀ b o, hp.get? b = some o → G'.get? b = some o := fun b o q => (gk b (Nat.ne_of_lt (Nat.lt_of_lt_of_le (Heap.lt_size q) M.new))).trans (M.keep b o q)
    have ob : ObjOk X.prog X.w (upd H1 d (.xd [(nm, v)])) G' d (.xd [(nm, v)]) :=
      ⟨_, hns.at (fun o q => (gk d M.dne).trans q), fun f => relO_one rv f⟩
    have J : Inv X pins σ (upd H1 d (.xd [(nm, v)])) ⟨G', g, dr, tk', os⟩ := I1.laid (t' := tk') old M.dbig ob
    refine ⟨e, _, _, ⟨G', g, dr, tk', os⟩, _, .ref C, some d, rfl, J, fun b o q => ?_, ge, hoe, ⟨rfl, rfl, fun vs e => by cases e; rfl⟩, rfl, rfl, ?_, rfl, I1.bare, raises_own T.exC T.tyC, q1 d (I1.hok.fresh M.dbig)⟩
    · by_cases hb : b = e
      · have q' : G'.get? b = some o := q
        rw [hb, ge] at q'; cases q'
      · exact (gk b hb).symm.trans q
    · rw [upd_ne (Ne.symm M.dne)]
      exact I1.hok.fresh M.new
/-- raise C(e) -/
theorem ps_raiseSup {x : Str} {a : Expr} {ta : TA} {W : WX} {p pos pos2 : Pos} {k : Nat} (hc : X.calm = true) (tk : L2N.Takes X W) (T : SupX.SupTxt X.prog X.w X.K X.mg C D fI nm arg ok) (hok : ∀ v u, RelV v u → okV v → ok u) (hr : Room k X.A) (gC : X.mg x = some (.ref C)) (ha : PA X [a] ta) (hg : Gl X x := by rfl) (hdb : (x == ("__debug__" : Str)) = false := by decide)
    (he : starEach (a :: []) X.env = (false, eval a X.env) :: starEach [] X.env := by rfl) (hpl : (backTo pos (starEach [] X.env)).any (·.1) = false := by rfl) :
    PS X (.Raise (some (.Call (.Name x p) [a] [] pos)) none pos2) (fun _ σ H => tMkSup C nm okV ta σ H fun cls d H' => W cls d σ H') := L2N.ps_raise hc tk (pmk_sup T hok hr gC ha hg hdb he hpl)
end

/-! ## Promises of defs: those that let exceptions out, those that know that no repr is under way, those that are handed the caught exception -/
section
open PyProof.Rows
/-- a def's context, calm or not, with pins -/
def cxG (cl : Bool) (pn : List (Addr × Obj)) (CX : CXT) (P : Program) (w : World) (K : PySem.W.Frag) (mg : Str → Option Value) (base : Heap) (N : List Str) (qual : Str) (scope : Scope) (f : Addr) (cd : Value) (A : Around) (outer : List Env) (s : Shared) (H : Hp) (E : XK) : Cx :=
  { cxOf CX P w K mg base N qual scope f cd A outer s H E with calm := cl, pn := pn }
variable {P : Program} {w : World} {K : PySem.W.Frag} {mg : Str → Option Value} {base : Heap}
/-- the def at f, its body running in such a context -/
theorem code_of {CX : CXT} {cl : Bool} {pn : List (Addr × Obj)} {f : Addr} {name qual : Str} {params : Arguments} {body : List Stmt} {scope : Scope} {dV kV doc pm cdv ct oc : Value} {an od : Option Addr} {osl : Array (Option Value)} {N ps : List Str}
    (lk : K.lookup f = some ⟨oc, od, .func (PySem.W.fnOf name qual params body scope dV kV doc pm an cdv ct), osl⟩) (hcd : PySem.W.codeIn K cdv qual = true) (S : FnScope N ps scope)
    {A : Around} {outer : List Env} {s : Shared} {H : Hp} {args : Args} {us : List Value} {vs : List V} {Q : VK} {E : XK} {t : TS} (hdp : A.depth < recursionLimit) (e0 : Env0 P w K mg base A outer s H)
    (hb : BindsTo s (PySem.W.fnOf name qual params body scope dV kV doc pm an cdv ct) args (ps.zip us))
    (hI : ∀ s1, InCallC s s.heap.objs.size (bindL (envOfC qual scope s.heap.objs.size f cdv).kindOf (ps.zip us) fun _ => none) (cellsFrom (s.heap.objs.size + 1) scope.names []) (bindC (envOfC qual scope s.heap.objs.size f cdv).kindOf (ps.zip us) fun _ => none) s1 →
      Inv (cxG cl pn CX P w K mg base N qual scope f cdv A outer s H E) [] (L2.start N vs) H s1)
    (ht : PSs (cxG cl pn CX P w K mg base N qual scope f cdv A outer s H E) body t) (hq : t { nx := fun _ H' => Q .non H', rt := Q } (L2.start N vs) H) :
    codeAny (model P w) A (.call (.ref f) args) (CR CX outer P w H s Q E) s := by
  have inS : ∀ b o, base.get? b = some o → s.heap.get? b = some o := fun b o e => (e0.bs b o e).1
  have KS : K.In s.heap := e0.mod.kin.keeps inS
  refine codeAny_call_function hdp (KS _ _ lk) rfl S.co S.gen rfl (PySem.W.codeRec_of KS hcd) (hb _ _ _ _ ?_)
  refine wpAny_newFunctionEnv_cells S.kind ?_ fun env he s1 x => ?_
  · intro y hy
    obtain ⟨n, v⟩ := y
    have hm : n ∈ ps := (List.of_mem_zip hy).1
    exact (S.par n hm).imp id fun q => ⟨q, PySem.W.cellsFrom_some _ _ _ (.inl q)⟩
  · cases he
    refine ⟨(e0.mod.nolimit.keeps inS).keeps x.toInCall.keep, codeAny_func (wpAny_mono (ht.run [] s1 (L2.start N vs) H _ (hI s1 x) hq) ?_ fun _ _ z => z)⟩
    intro fl s2 hs
    have out : ∀ {σ2 : L2.St} {H2 : Hp} {v : V} {u : Value}, Inv (cxG cl pn CX P w K mg base N qual scope f cdv A outer s H E) [] σ2 H2 s2 → RelV v u → Q v H2 → CE outer P w H s Q u s2 := by
      intro σ2 H2 v u J rv q
      exact ⟨v, H2, J.os, J.bare, J.base, J.hok, rv, q⟩
    match fl, hs with
    | .ret u, ⟨v, σ2, H2, J, rv, q⟩ => exact out J rv q
    | .next, ⟨σ2, H2, J, q⟩ => exact out (v := .non) J rfl q
    | .brk, ⟨_, _, _, q⟩ => exact q.elim
    | .cont, ⟨_, _, _, q⟩ => exact q.elim
/-! ### with a word about the stack -/
/-- no repr (nor the like) is under way -/
def Gd (A : Around) : Prop := A.guards = some []
theorem Gd.deeper {A : Around} (h : Gd A) (env : Env) : Gd (A.deeper env) := h
/-- a def's promise, Z being true of the stack -/
structure FnZ (Z : Around → Prop) (P : Program) (w : World) (K : PySem.W.Frag) (mg : Str → Option Value) (base : Heap) (k : Nat) (f : Addr) (fd : FuncData) (ps : List Str) (sp : Sp) : Prop where
  len : ∀ vs H Q E, sp vs H Q E → vs.length = ps.length
  run : ∀ (A : Around) (outer : List Env) (s : Shared) (H : Hp) (args : Args) (us : List Value) (vs : List V) (Q : VK) (E : XK), Z A → Room k A → Env0 P w K mg base A outer s H → BindsTo s fd args (ps.zip us) → Vals vs us → sp vs H Q E →
    codeAny (model P w) A (.call (.ref f) args) (CR (L2N.CX P w) outer P w H s Q E) s
theorem fn_ofZ {Z : Around → Prop} (hZ : ∀ A env, Z A → Z (A.deeper env)) {x qual : Str} {st : Stmt} {k : Nat} {f : Addr} {fd : FuncData} {N ps : List Str} {sp : Sp} (F : C8.Fun K x qual st f fd) (S : FnScope N ps (C8.fnScope st)) (len : ∀ vs H Q E, sp vs H Q E → vs.length = ps.length)
    (hbody : ∀ (cdv : Value) (A : Around) (outer : List Env) (s : Shared) (H : Hp) (vs : List V) (Q : VK) (E : XK), Z (A.deeper (envOfC qual (C8.fnScope st) s.heap.objs.size f cdv)) → Room k (A.deeper (envOfC qual (C8.fnScope st) s.heap.objs.size f cdv)) → sp vs H Q E →
      ∃ t, PSs (cxG true [] (L2N.CX P w) P w K mg base N qual (C8.fnScope st) f cdv A outer s H E) (C8.fnBody st) t ∧ t { nx := fun _ H' => Q .non H', rt := Q } (L2.start N vs) H) :
    FnZ Z P w K mg base (k + 1) f fd ps sp := by
  obtain ⟨oc, od, dV, kV, doc, pm, an, cdv, ct, osl, rfl, lk, hcd⟩ := F.ex
  refine ⟨len, fun A outer s H args us vs Q E hz hr e0 hb r h => ?_⟩
  obtain ⟨t, ht, hq⟩ := hbody cdv A outer s H vs Q E (hZ _ _ hz) (hr.deeper _) h
  exact code_of lk hcd S hr.depth e0 hb (fun s1 x => L2.inv_start S hr.hd e0 (len _ _ _ _ h) r x) ht hq
/-- a def that may be called by its name -/
structure CalZ (Z : Around → Prop) (P : Program) (w : World) (K : PySem.W.Frag) (mg : Str → Option Value) (base : Heap) (k : Nat) (x : Str) (sp : Sp) : Prop where
  ex : ∃ (f : Addr) (fd : FuncData) (ps : List Str), FnZ Z P w K mg base k f fd ps sp ∧ mg x = some (.ref f) ∧ PySem.W.keepIn K (.ref f) = true ∧ Binds K fd ps []
theorem calZ {Z : Around → Prop} (hZ : ∀ A env, Z A → Z (A.deeper env)) {x : Str} {st : Stmt} {k : Nat} {f : Addr} {fd : FuncData} {N ps : List Str} {sp : Sp} (F : C8.Def K mg x st f fd) (b : Binds K fd ps []) (S : FnScope N ps (C8.fnScope st)) (len : ∀ vs H Q E, sp vs H Q E → vs.length = ps.length)
    (hbody : ∀ (cdv : Value) (A : Around) (outer : List Env) (s : Shared) (H : Hp) (vs : List V) (Q : VK) (E : XK), Z (A.deeper (envOfC x (C8.fnScope st) s.heap.objs.size f cdv)) → Room k (A.deeper (envOfC x (C8.fnScope st) s.heap.objs.size f cdv)) → sp vs H Q E →
      ∃ t, PSs (cxG true [] (L2N.CX P w) P w K mg base N x (C8.fnScope st) f cdv A outer s H E) (C8.fnBody st) t ∧ t { nx := fun _ H' => Q .non H', rt := Q } (L2.start N vs) H) :
    CalZ Z P w K mg base (k + 1) x sp := ⟨f, fd, ps, fn_ofZ hZ F.fn S len hbody, F.mgf, F.kp, b⟩
/-- what the exceptions of such a body go by -/
theorem takesG {N : List Str} {qual : Str} {scope : Scope} {f : Addr} {cd : Value} {A : Around} {outer : List Env} {s : Shared} {H : Hp} {E : XK} :
    L2N.Takes (cxG true [] (L2N.CX P w) P w K mg base N qual scope f cd A outer s H E) (fun cls d _ H => E cls d H) := L2N.takes_of rfl rfl rfl rfl
theorem takesF {X : Cx} : L2N.Takes X (fun _ _ _ _ => False) := fun _ _ ⟨_, _, _, _, _, _, _, _, _, _, _, _, _, _, _, _, z⟩ => z.elim
theorem passF {X : Cx} (σ : L2.St) : PassesAt (L2N.CX X.prog X.w) X σ (fun _ _ _ => False) := fun _ _ _ _ _ _ ⟨_, _, _, _, _, _, _, _, _, _, _, _, z⟩ => z.elim
end
section
open PyProof.Rows
variable {X : Cx} {Z : Around → Prop} {k j : Nat} {f C : Addr} {fd : FuncData} {ps : List Str} {sp : Sp} {E : L2.St → XK} {x m : Str} {p pos apos : Pos} {e o : Expr} {es : List Expr} {ta : TE} {t : TA}
theorem run_fnZ {pins : List (Addr × Obj)} {σ : L2.St} {H : Hp} {s : Shared} {Q : VK} {us : List Value} {vs : List V} (F : FnZ Z X.prog X.w X.K X.mg X.base k f fd ps sp) (hz : Z X.A) (hr : Room k X.A) (hb : Binds X.K fd ps []) (hx : PassesAt (L2N.CX X.prog X.w) X σ (E σ))
    (I : Inv X pins σ H s) (r : Vals vs us) (h : sp vs H Q (E σ)) : wpAny (model X.prog X.w) X.A (call (.ref f) us) (EP X pins σ Q) X.xe s := by
  have hl : (us ++ []).length = ps.length := by rw [List.append_nil, ← r.length]; exact F.len _ _ _ _ h
  have b := hb s us I.kIn hl
  rw [List.append_nil] at b
  refine wpAny_call (codeAny_mono (F.run X.A X.stack s H ⟨us, []⟩ us vs Q (E σ) hz hr I.env0 b r h) ?_)
  rintro (er | fl) s2 hq
  · exact hx pins H s er s2 I hq
  · match fl, hq with
    | .ret u, hq => exact I.after hq
    | .next, z => exact False.elim z
    | .brk, z => exact False.elim z
    | .cont, z => exact False.elim z
/-- x(e, ..) of such a def -/
theorem pe_z (c : CalZ Z X.prog X.w X.K X.mg X.base k x sp) (hz : Z X.A) (hr : Room j X.A) (hk : k ≤ j) (hg : Gl X x) (hx : ∀ σ, PassesAt (L2N.CX X.prog X.w) X σ (E σ)) (ha : PA X (e :: es) t) (hdb : (x == ("__debug__" : Str)) = false := by decide)
    (he : starEach (e :: es) X.env = (false, eval e X.env) :: starEach es X.env := by rfl) (hpl : (backTo pos (starEach es X.env)).any (·.1) = false := by rfl) : PE X (.Call (.Name x p) (e :: es) [] pos) (tCallS sp E t) := by
  obtain ⟨f, fd, ps, F, hm, kp, b⟩ := c.ex
  exact ⟨fun pins s σ H Q I h => wpAny_Call_Name_kw (ld_glob I hg hm (PySem.W.callWith_K (h₀ := X.base) I.ok.mod.kin kp (thn (ha.run pos pins s σ H _ I h) fun us s1 ⟨vs, H1, I1, r, q⟩ => ⟨I1.kIn, run_fnZ F hz (hr.mono hk) b (hx σ) I1 r q⟩) he hpl) hdb)⟩
end

/-! ## A def that is handed the caught exception -/
section
open PyProof.Rows
variable {P : Program} {w : World} {K : PySem.W.Frag} {mg : Str → Option Value} {base : Heap}
/-- the promise: at the pinned exception's place, its class, its dict -/
structure FnE (Z : Around → Prop) (P : Program) (w : World) (K : PySem.W.Frag) (mg : Str → Option Value) (base : Heap) (k : Nat) (f : Addr) (fd : FuncData) (ps : List Str) (sp : Addr → Value → Option Addr → Sp) : Prop where
  len : ∀ a c d vs H Q E, sp a c d vs H Q E → vs.length = ps.length
  run : ∀ (A : Around) (outer : List Env) (s : Shared) (H : Hp) (args : Args) (us : List Value) (vs : List V) (Q : VK) (E : XK) (p : Addr × Obj) (c : Value) (d : Option Addr), Z A → L2H.RoomH k A → L2H.PinOk outer H s p → Zc c d p.2 → (∃ fv, p.2.data = .fields fv) →
    Env0 P w K mg base A outer s H → BindsTo s fd args (ps.zip us) → Vals vs us → sp p.1 c d vs H Q E → codeAny (model P w) A (.call (.ref f) args) (CR (L2N.CX P w) outer P w H s Q E) s
theorem fn_ofE {Z : Around → Prop} (hZ : ∀ A env, Z A → Z (A.deeper env)) {x qual : Str} {st : Stmt} {k : Nat} {f : Addr} {fd : FuncData} {N ps : List Str} {sp : Addr → Value → Option Addr → Sp} (F : C8.Fun K x qual st f fd) (S : FnScope N ps (C8.fnScope st)) (len : ∀ a c d vs H Q E, sp a c d vs H Q E → vs.length = ps.length)
    (hbody : ∀ (cdv : Value) (A : Around) (outer : List Env) (s : Shared) (H : Hp) (vs : List V) (Q : VK) (E : XK) (p : Addr × Obj) (c : Value) (d : Option Addr), Z (A.deeper (envOfC qual (C8.fnScope st) s.heap.objs.size f cdv)) → L2H.RoomH k (A.deeper (envOfC qual (C8.fnScope st) s.heap.objs.size f cdv)) →
      Zc c d p.2 → (∃ fv, p.2.data = .fields fv) → sp p.1 c d vs H Q E →
      ∃ t, PSs (cxG false [p] (L2N.CX P w) P w K mg base N qual (C8.fnScope st) f cdv A outer s H E) (C8.fnBody st) t ∧ t { nx := fun _ H' => Q .non H', rt := Q } (L2.start N vs) H) :
    FnE Z P w K mg base (k + 1) f fd ps sp := by
  obtain ⟨oc, od, dV, kV, doc, pm, an, cdv, ct, osl, rfl, lk, hcd⟩ := F.ex
  refine ⟨len, fun A outer s H args us vs Q E p c d hz hr hpin hc hf e0 hb r h => ?_⟩
  obtain ⟨t, ht, hq⟩ := hbody cdv A outer s H vs Q E p c d (hZ _ _ hz) (hr.deeper _) hc hf h
  exact code_of lk hcd S hr.depth e0 hb (fun s1 x => L2H.inv_startH S hpin e0 (len _ _ _ _ _ _ _ h) r x) ht hq
structure CalE (Z : Around → Prop) (P : Program) (w : World) (K : PySem.W.Frag) (mg : Str → Option Value) (base : Heap) (k : Nat) (x : Str) (sp : Addr → Value → Option Addr → Sp) : Prop where
  ex : ∃ (f : Addr) (fd : FuncData) (ps : List Str), FnE Z P w K mg base k f fd ps sp ∧ mg x = some (.ref f) ∧ PySem.W.keepIn K (.ref f) = true ∧ Binds K fd ps []
theorem calE {Z : Around → Prop} (hZ : ∀ A env, Z A → Z (A.deeper env)) {x : Str} {st : Stmt} {k : Nat} {f : Addr} {fd : FuncData} {N ps : List Str} {sp : Addr → Value → Option Addr → Sp} (F : C8.Def K mg x st f fd) (b : Binds K fd ps []) (S : FnScope N ps (C8.fnScope st)) (len : ∀ a c d vs H Q E, sp a c d vs H Q E → vs.length = ps.length)
    (hbody : ∀ (cdv : Value) (A : Around) (outer : List Env) (s : Shared) (H : Hp) (vs : List V) (Q : VK) (E : XK) (p : Addr × Obj) (c : Value) (d : Option Addr), Z (A.deeper (envOfC x (C8.fnScope st) s.heap.objs.size f cdv)) → L2H.RoomH k (A.deeper (envOfC x (C8.fnScope st) s.heap.objs.size f cdv)) →
      Zc c d p.2 → (∃ fv, p.2.data = .fields fv) → sp p.1 c d vs H Q E →
      ∃ t, PSs (cxG false [p] (L2N.CX P w) P w K mg base N x (C8.fnScope st) f cdv A outer s H E) (C8.fnBody st) t ∧ t { nx := fun _ H' => Q .non H', rt := Q } (L2.start N vs) H) :
    CalE Z P w K mg base (k + 1) x sp := ⟨f, fd, ps, fn_ofE hZ F.fn S len hbody, F.mgf, F.kp, b⟩
end
section
open PyProof.Rows
variable {X : Cx} {Z : Around → Prop} {k j : Nat} {a : Addr} {oe : Obj} {c : Value} {d : Option Addr} {sp : Addr → Value → Option Addr → Sp} {E : L2.St → XK} {x n : Str} {p pos : Pos} {e : Expr} {es : List Expr} {te : TE} {t : TA}
/-- x(e, ..) of such a def, (a, oe) pinned -/
theorem pe_e (cl : CalE Z X.prog X.w X.K X.mg X.base k x sp) (hz : Z X.A) (hr : L2H.RoomH j X.A) (hk : k ≤ j) (hp : (a, oe) ∈ X.pn) (hc : Zc c d oe) (hf : ∃ fv, oe.data = .fields fv) (hg : Gl X x) (hx : ∀ σ, PassesAt (L2N.CX X.prog X.w) X σ (E σ)) (ha : PA X (e :: es) t)
    (hdb : (x == ("__debug__" : Str)) = false := by decide) (he : starEach (e :: es) X.env = (false, eval e X.env) :: starEach es X.env := by rfl) (hpl : (backTo pos (starEach es X.env)).any (·.1) = false := by rfl) : PE X (.Call (.Name x p) (e :: es) [] pos) (tCallS (sp a c d) E t) := by
  obtain ⟨f, fd, ps, F, hm, kp, b⟩ := cl.ex
  refine ⟨fun pins s σ H Q I h => wpAny_Call_Name_kw (ld_glob I hg hm (PySem.W.callWith_K (h₀ := X.base) I.ok.mod.kin kp (thn (ha.run pos pins s σ H _ I h) fun us s1 hh => ?_) he hpl) hdb)⟩
  obtain ⟨vs, H1, I1, r, q⟩ := hh
  refine ⟨I1.kIn, ?_⟩
  have hl : (us ++ []).length = ps.length := by rw [List.append_nil, ← r.length]; exact F.len _ _ _ _ _ _ _ q
  have bb := b s1 us I1.kIn hl
  rw [List.append_nil] at bb
  have pi := I1.pin (a, oe) (List.mem_append_left _ hp)
  have pk : L2H.PinOk X.stack H1 s1 (a, oe) := ⟨pi.1, pi.2.1, fun hm => (List.mem_cons.mp (I1.stkSub a hm)).elim pi.2.2.1 pi.2.2.2.1, pi.2.2.2.2⟩
  refine wpAny_call (codeAny_mono (F.run X.A X.stack s1 H1 ⟨us, []⟩ us vs Q (E σ) (a, oe) c d hz (hr.mono hk) pk hc hf I1.env0 bb r q) ?_)
  rintro (er | fl) s2 hq
  · exact hx σ pins H1 s1 er s2 I1 hq
  · match fl, hq with
    | .ret u, hq => exact I1.after hq
    | .next, z => exact False.elim z
    | .brk, z => exact False.elim z
    | .cont, z => exact False.elim z
/-- the pinned exception, with its dict -/
theorem inst_pin {pins : List (Addr × Obj)} {σ : L2.St} {H : Hp} {s : Shared} {D dd : Addr} {fs : List (Str × V)} (I : Inv X pins σ H s) (hp : (a, oe) ∈ X.pn) (hc : Zc (.ref D) (some dd) oe) (hf : ∃ fv, oe.data = .fields fv) (ea : H dd = some (.xd fs)) :
    ∃ (od : Obj) (mA : Str → Option Value), PySem.W.InstAt s.heap a oe D (some od) ∧ (∀ f, RelO (fs.lookup f) (mA f)) ∧ s.heap.Ns1 dd mA ∧ s.heap.get? dd = some od := by
  obtain ⟨ha, _⟩ := I.pin (a, oe) (List.mem_append_left _ hp)
  obtain ⟨fv, hd⟩ := hf
  have hx : ObjOk X.prog X.w H s.heap dd (.xd fs) := I.hok dd _ ea
  obtain ⟨mA, hns, hr⟩ := hx
  obtain ⟨od, ho, _⟩ := lookIn_ns hns
  exact ⟨od, mA, ⟨ha, hc.1, by unfold PySem.W.notCls; rw [hd] <;> rfl, by rw [hc.2]; exact ho⟩, hr, hns, ho⟩
/-- isinstance(e, T) of it: one class -/
def rIsP (K : PySem.W.Frag) (D dd a : Addr) : List V → Hp → VK → Prop := fun xs H Q => ∃ (y : V) (u : Value) (b : Bool) (fs : List (Str × V)), xs = [.ref a, y] ∧ ClsV y u ∧ PySem.W.kitOne K (.ref D) u = some b ∧ H dd = some (.xd fs) ∧ Q (.bl b) H
/-- .. a tuple of classes -/
def rIsPT (K : PySem.W.Frag) (D dd a : Addr) : List V → Hp → VK → Prop := fun xs H Q => ∃ (tp : Addr) (ys : List V) (us : List Value) (b : Bool) (fs : List (Str × V)), xs = [.ref a, .ref tp] ∧ H tp = some (.tup ys) ∧ Paired ClsV ys us ∧ PySem.W.kitAny K (.ref D) us = some b ∧ H dd = some (.xd fs) ∧ Q (.bl b) H
theorem kit_exc {D : Addr} {od : Option Obj} (C : ExcC X.K D) : PySem.W.KitX X.K (.ref a) (.ref D) (fun h => PySem.W.InstAt h a oe D od) := by
  refine PySem.W.kitx_exc ?_ C.hg C.hk C.hs C.ha C.hn C.ht C.hm
  obtain ⟨cd, hc, _⟩ := PySem.W.any_some C.hd
  rw [hc]
  rfl
theorem call_isP {D dd : Addr} (C : ExcC X.K D) (hp : (a, oe) ∈ X.pn) (hc : Zc (.ref D) (some dd) oe) (hf : ∃ fv, oe.data = .fields fv) : CallR X (.builtin "isinstance") (rIsP X.K D dd a) := by
  intro pins s σ H xs us Q I r h
  obtain ⟨y, u, b, fs, rfl, hy, hb, ea, q⟩ := h
  obtain ⟨od, mA, J, _⟩ := inst_pin I hp hc hf ea
  match r with
  | .cons ra (.cons rb .nil) =>
    cases (show _ = Value.ref a from ra)
    have e2 := hy.eq rb
    subst e2
    exact PySem.W.kia_one (kit_exc C) I.kIn J hb (fun z => by cases z) fun tk => ⟨.bl b, _, I.tok tk, rfl, q⟩
theorem call_isPT {D dd : Addr} (C : ExcC X.K D) (hp : (a, oe) ∈ X.pn) (hc : Zc (.ref D) (some dd) oe) (hf : ∃ fv, oe.data = .fields fv) : CallR X (.builtin "isinstance") (rIsPT X.K D dd a) := by
  intro pins s σ H xs us Q I r h
  obtain ⟨tp, ys, ws, b, fs, rfl, ht, hy, hb, ea, q⟩ := h
  obtain ⟨od, mA, J, _⟩ := inst_pin I hp hc hf ea
  match r with
  | .cons ra (.cons rb .nil) =>
    cases (show _ = Value.ref a from ra)
    cases (show _ = Value.ref tp from rb)
    obtain ⟨_, its, rv, o, h1, h2, n, h3⟩ := (show ObjOk X.prog X.w H s.heap tp (.tup ys) from I.hok tp _ ht)
    have e3 := ClsV.all hy rv
    subst e3
    obtain ⟨oc, od', dt, sl⟩ := o
    cases h2
    cases h3
    exact PySem.W.kia_tup (kit_exc C) I.kIn J h1 hb (fun z => by cases z) fun tk => ⟨.bl b, _, I.tok tk, rfl, q⟩
/-- e.f of it -/
def tXfP (a D dd : Addr) (f : Str) (te : TE) : TE := fun σ H Q => te σ H fun y H1 => y = .ref a ∧ ∃ (fs : List (Str × V)) (v : V), H1 dd = some (.xd fs) ∧ fs.lookup f = some v ∧ Q v H1
theorem pe_xfP {D dd : Addr} (T : XfC X.K D) (hno : PySem.W.findIn X.K (.ref D) n = some none) (hp : (a, oe) ∈ X.pn) (hc : Zc (.ref D) (some dd) oe) (hf : ∃ fv, oe.data = .fields fv) (he : PE X e te) (hb : attributeBase e n X.env (eval e X.env) = eval e X.env := by rfl) :
    PE X (.Attribute e n pos) (tXfP a D dd n te) := by
  refine ⟨fun pins s σ H Q I h => attr_of hb (thn (he.run pins s σ H _ I h) fun u s1 hh => ?_)⟩
  obtain ⟨y, H1, I1, ry, rfl, fs, v, ea, l, q⟩ := hh
  cases (show u = Value.ref a from ry)
  obtain ⟨od, mA, J, hr, hns, ho⟩ := inst_pin I1 hp hc hf ea
  obtain ⟨od', ho', hl⟩ := lookIn_ns hns
  obtain rfl : od = od' := Option.some.inj (ho.symm.trans ho')
  obtain ⟨u, hu, ru⟩ := RelO.some_of (v := v) (o := mA n) (by rw [← l]; exact hr n)
  exact HandSPX.exc_get I1.kIn J T.ga T.gg T.exC (PySem.W.findObj_own T.hdC hno rfl (by rw [hl, hu])) (handed_of ru) ⟨v, H1, I1.tok _, ru, q⟩
end
theorem passesG {P : Program} {w : World} {K : PySem.W.Frag} {mg : Str → Option Value} {base : Heap} {N : List Str} {qual : Str} {scope : Scope} {f : Addr} {cd : Value} {A : Around} {outer : List Env} {s : Shared} {H : Hp} {E : XK} {pn : List (Addr × Obj)} {cl : Bool} :
    PassesOwn (model P w) (cxG cl pn (L2N.CX P w) P w K mg base N qual scope f cd A outer s H E).A (cxG cl pn (L2N.CX P w) P w K mg base N qual scope f cd A outer s H E).env (cxG cl pn (L2N.CX P w) P w K mg base N qual scope f cd A outer s H E).xe := by
  exact PassesOwn.leaving
theorem roomM {k : Nat} {A : Around} {v : Option Value} (hr : Room k A) : L2H.RoomH k (A.mark v) := ⟨hr.dp, hr.un⟩
/-- try: body, except x as n: suite; its reading under one name -/
def tTry (K : PySem.W.Frag) (c : Value) (i : Nat) (tb : WX → TS) (ts : Addr → Value → Option Addr → TS) (Wout : WX) : TS := fun D σ H => tb (wAs K c i ts Wout D) D σ H
section
variable {X : Cx} {x n : Str} {c : Value} {i : Nat} {body suite : List Stmt} {b₀ : Stmt} {np pos pos' : Pos} {tb : WX → TS} {ts : Addr → Value → Option Addr → TS} {Wout : WX}
theorem ps_tryN (hs : X.stack = X.env :: X.outer) (hf : X.env.frame = some X.env.locals) (hN : X.N.Nodup) (hi : X.N[i]? = some n) (hln : X.env.kindOf n = some .local) (hc : Names X x c) (tk : L2N.Takes X Wout)
    (hb : ∀ (W : WX) (pn : List (Addr × Obj)) (xe : Value → Shared → Prop), L2N.Takes (X.tr pn xe) W → PassesOwn (model X.prog X.w) X.A X.env xe → PSs (X.tr pn xe) body (tb W))
    (hsu : ∀ (a : Addr) (oe : Obj) (cls : Value) (d : Option Addr) (pn : List (Addr × Obj)), L2N.Zn cls d oe → (∃ vs, oe.data = .fields vs) → PSs (X.suite a ((a, oe) :: pn)) (b₀ :: suite) (ts a cls d)) :
    PS X (.Try body [.ExceptHandler (some (.Name x np)) (some n) (b₀ :: suite) pos'] [] [] pos) (tTry X.K c i tb ts Wout) := L2N.ps_try_as hs hf hN hi hln hc tk hb hsu
end

/-! ## repr of plain things, no repr being under way -/
section
open PyProof.Rows
/-- a value that stands for plain data: scalars, lists and tuples of texts -/
inductive Sh (H : Hp) : V → PyData → Prop
  | non : Sh H .non .none
  | bl (b : Bool) : Sh H (.bl b) (.bool b)
  | int (i : Int) : Sh H (.int i) (.int i)
  | str (x : Str) : Sh H (.str x) (.str x)
  | lst {a : Addr} {l : List Str} : H a = some (.lst (l.map V.str)) → Sh H (.ref a) (.list (l.map PyData.str))
  | tup {a : Addr} {l : List Str} : H a = some (.tup (l.map V.str)) → Sh H (.ref a) (.tuple (l.map PyData.str))
theorem reads_strs (h : Heap) : ∀ (l : List Str) (its : List Value), Vals (l.map V.str) its → ReadsAll h its (l.map PyData.str) []
  | [], _, .nil => .nil
  | y :: l, _, .cons ⟨t, e⟩ r => by
    subst e
    exact .cons (as := []) (bs := []) (.str y t) (reads_strs h l _ r)
theorem showAll_strs (l : List Str) : PyData.showableAll (l.map PyData.str) = true := by
  induction l with
  | nil => rfl
  | cons y l ih => simpa [PyData.showableAll, PyData.showable] using ih
theorem noDict_strs (l : List Str) : PyData.hasDictAll (l.map PyData.str) = false := by
  induction l with
  | nil => rfl
  | cons y l ih => simpa [PyData.hasDictAll, PyData.hasDict] using ih
theorem depth_strs (l : List Str) : PyData.depthAll (l.map PyData.str) ≤ 1 := by
  induction l with
  | nil => exact Nat.zero_le _
  | cons y l ih =>
    simp only [List.map_cons, PyData.depthAll, PyData.depth]
    omega
/-- repr(x) -/
def rRepr : List V → Hp → VK → Prop := fun xs H Q => ∃ (v : V) (pd : PyData), xs = [v] ∧ Sh H v pd ∧ pd.shown.length ≤ sizeLine ∧ (∀ i, pd = .int i → i.natAbs.log2 < 1920) ∧ Q (.str pd.shown) H
theorem call_repr {X : Cx} (hg : Gd X.A) (hu : X.A.units + 64 < cLine) : CallR X (.builtin "repr") rRepr := by
  intro pins s σ H xs us Q I r h
  obtain ⟨v, pd, rfl, hs, hz, hi, q⟩ := h
  match r with
  | .cons (b := u) ru .nil =>
    have fin : ∀ (h' : Heap) (t : Tok) (tk : Nat), (∀ b o, s.heap.get? b = some o → h'.get? b = some o) → EP X pins σ Q (.str pd.shown t) { s with heap := h', toks := tk } := fun h' t tk k =>
      ⟨.str pd.shown, H, I.kept (t' := tk) k, ⟨t, rfl⟩, q⟩
    cases hs with
    | non => cases (show u = Value.none from ru); exact P.repr_of_none (fin s.heap _ _ fun _ _ z => z)
    | bl b => cases (show u = Value.bool b from ru); exact P.repr_of_bool (fin s.heap _ _ fun _ _ z => z)
    | int i => obtain ⟨t, rfl⟩ := ru; exact P.repr_of_int (hi i rfl) (fin s.heap _ _ fun _ _ z => z)
    | str y => obtain ⟨t, rfl⟩ := ru; exact P.repr_of_str (fin s.heap _ _ fun _ _ z => z) hz
    | @lst a l ha =>
      cases (show u = Value.ref a from ru)
      obtain ⟨_, its, n, rv, ho⟩ := (show ObjOk X.prog X.w H s.heap a (.lst (l.map V.str)) from I.hok a _ ha)
      have hd := depth_strs l
      refine repr_of_reads' (h₀ := s.heap) (.list ho rfl rfl (reads_strs s.heap l its rv)) (by simpa [PyData.showable] using showAll_strs l) ?_ hg (by simp only [PyData.depth]; omega) (fun _ _ z => z) (fun h' t tk k => fin h' t tk k) hz
      simp only [PyData.hasDict, noDict_strs]
      exact fun z => by cases z
    | @tup a l ha =>
      cases (show u = Value.ref a from ru)
      obtain ⟨_, its, rv, o, ho, hc, n, hd0⟩ := (show ObjOk X.prog X.w H s.heap a (.tup (l.map V.str)) from I.hok a _ ha)
      have hd := depth_strs l
      refine repr_of_reads' (h₀ := s.heap) (.tuple ho hc hd0 (reads_strs s.heap l its rv)) (by simpa [PyData.showable] using showAll_strs l) ?_ hg (by simp only [PyData.depth]; omega) (fun _ _ z => z) (fun h' t tk k => fin h' t tk k) hz
      simp only [PyData.hasDict, noDict_strs]
      exact fun z => by cases z
end

/-! ## enumerate over a tuple, over a text -/
section
open PyProof.Rows
set_option maxHeartbeats 1000000 in
theorem enum1_new {v : Value} {o : Obj} {G : Heap → Prop} (B : Begins v o G) : Meets (Builtin.«enumerate.__new__» ⟨[.type "enumerate", v], []⟩) (fun _ R s => G s.heap ∧
    R (.ok (.ret (.ref (s.heap.push o).objs.size))) { s with heap := (s.heap.push o).push { cls := .type "enumerate", data := .fields #[.none, .bool false, .ref s.heap.objs.size, rawInt 0, .none, .none] } }) :=
  .of_wp fun prog w A R s ⟨g1, h⟩ => by
    obtain ⟨hp, g, d, tk, os⟩ := s
    have hsub := sub_enumerate
    have begin1 : ∀ {A2 : Around} {E : Value → Shared → Prop} {Q : Value → Shared → Prop}, Q (.ref hp.objs.size) ⟨hp.push o, g, d, tk, os⟩ → wpAny (model prog w) A2 (pyIter v) Q E ⟨hp, g, d, tk, os⟩ :=
      fun q => B.iter _ _ _ _ ⟨hp, g, d, tk, os⟩ _ g1 q
    wp_walk using begin1
    refine wpAny_stack_any (fun stk => wpAny_pure ?_)
    split
    · rename_i c _ _ _ _ _
      cases (c == Value.type "enumerate") <;>
      · wp_walk using begin1
        exact ⟨_, rfl, h⟩
    · wp_walk using begin1
      exact ⟨_, rfl, h⟩
theorem enum1 {prog : Program} {w : World} {A : Around} {E : Value → Shared → Prop} {s : Shared} {v : Value} {o : Obj} {G : Heap → Prop} {Q : Value → Shared → Prop} (B : Begins v o G) (h1 : G s.heap)
    (h2 : checkTypeCall "enumerate" ⟨[v], []⟩ = pure ()) (h3 : checkBuiltinCall "enumerate.__new__" ⟨[.type "enumerate", v], []⟩ = pure ())
    (h : ∀ h', IsEnum h' (s.heap.objs.size + 1) s.heap.objs.size 0 .none → h'.get? s.heap.objs.size = some o → (∀ b u, s.heap.get? b = some u → h'.get? b = some u) → Q (.ref (s.heap.objs.size + 1)) { s with heap := h' }) :
    wpAny (model prog w) A (call (.type "enumerate") [v]) Q E s := by
  refine callType_new F.called_enumerate (by decide) h2 h3 (fun obj => F.args_object_init_2 obj _) F.entry_enumerate_new (enum1_new B) ⟨h1, ?_⟩
  have hz : (s.heap.push o).objs.size = s.heap.objs.size + 1 := Heap.size_push ..
  show _ ∧ _
  rw [hz]
  have he : IsEnum ((s.heap.push o).push { cls := .type "enumerate", data := .fields #[.none, .bool false, .ref s.heap.objs.size, rawInt 0, .none, .none] }) (s.heap.objs.size + 1) s.heap.objs.size 0 .none := by
    have z := Heap.get?_push_size (s.heap.push o) (o := { cls := .type "enumerate", data := .fields #[.none, .bool false, .ref s.heap.objs.size, rawInt 0, .none, .none] }) rfl
    rw [hz] at z
    exact z
  exact ⟨⟨_, he, rfl⟩, h _ he (Heap.get?_push_of_some _ (Heap.get?_push_size _ B.free)) fun b u q => Heap.get?_push_of_some _ (Heap.get?_push_of_some _ q)⟩
/-- one turn of it -/
theorem enum_turn {X : Cx} {elts : List Expr} {kk : Nat} {tpos : Pos} {e it i n : Nat} {fp : List Addr} {Pd : Nat → Value → Prop} {St : Nat → Heap → Prop} {old : Value} {pins : List (Addr × Obj)} {σ : L2.St} {H : Hp} {s : Shared} {E : Value → Shared → Prop} {Py : V → Prop} {St2 : Heap → Prop}
    (D : Draws X.prog X.w X.A.in1 it fp n Pd St) (I : Inv X pins σ H s) (hf : ∀ b ∈ [e, it], FpOk X pins H b) (he : IsEnum s.heap e it ((i : Nat) : Int) old) (hst : St i s.heap) (hlt : i < n) (hne : e ≠ it) (hef : e ∉ fp) (hil : it < s.heap.objs.size)
    (hP : ∀ u, Pd i u → ∃ y, RelV y u ∧ Py y) (hS : ∀ h h', St (i + 1) h → (∀ b, b ≠ e → h'.get? b = h.get? b) → St2 h') :
    wpAny (model X.prog X.w) X.A (pyNext (.ref e)) (fun r s1 => ∃ u, r = some u ∧
      wpAny (model X.prog X.w) X.A (letOwnedTupleGo (.Tuple elts kk tpos) (.ref e) u) (fun _ s2 => ∃ x H', Inv X pins σ H' s2 ∧ RelV x u ∧ (∃ T y, x = .ref T ∧ H T = none ∧ H' = upd H T (.tup [.int ((i : Nat) : Int), y]) ∧ Py y) ∧
        ((∃ old, IsEnum s2.heap e it ((i + 1 : Nat) : Int) old) ∧ St2 s2.heap) ∧ ∀ b ∈ [e, it], H' b = none) E s1) E s := by
  have hel : e < s.heap.objs.size := Heap.lt_size he
  refine wpAny_pyNext_enum_itemD D he hst hlt hne hef fun u h1 tk hPu ho hst1 hT hsz hk => ?_
  obtain ⟨y, ry, hy⟩ := hP u hPu
  refine ⟨_, rfl, wpAny_letOwnedTupleGo_enum (s := { s with heap := h1, toks := tk + 1 }) ho fun h2 he2 sb => ?_⟩
  have hT2 : h2.get? s.heap.objs.size = some { cls := .type "tuple", data := .seq #[.int i tk, u] } := (sb.2 _ (Nat.ne_of_gt hel)).trans hT
  have new : ObjOk X.prog X.w (upd H s.heap.objs.size (.tup [.int ((i : Nat) : Int), y])) h2 s.heap.objs.size (.tup [.int ((i : Nat) : Int), y]) :=
    ⟨by show 2 ≤ sizeLine; decide, [.int i tk, u], .cons ⟨_, rfl⟩ (.cons ry .nil), ⟨_, hT2, rfl, _, rfl⟩⟩
  have J : Inv X pins σ (upd H s.heap.objs.size (.tup [.int ((i : Nat) : Int), y])) { s with heap := h2, toks := tk + 1 } := by
    refine I.turnedNew (ch := [e, it]) (fun b ob hb q => ?_) hf (Nat.le_refl _) new
    have b1 : b ≠ e := fun z => hb (z ▸ List.mem_cons_self ..)
    have b2 : b ≠ it := fun z => hb (z ▸ List.mem_cons_of_mem _ (List.mem_cons_self ..))
    exact (sb.2 b b1).trans (hk b ob b1 b2 q)
  refine ⟨.ref s.heap.objs.size, _, J, rfl, ⟨_, y, rfl, I.hok.fresh (Nat.le_refl _), rfl, hy⟩, ⟨⟨u, ?_⟩, hS h1 h2 hst1 fun b hb => sb.2 b hb⟩, fun b hb => ?_⟩
  · rw [show ((i + 1 : Nat) : Int) = (i : Int) + 1 by omega]
    exact he2
  · have lt : b < s.heap.objs.size := by
      rcases List.mem_cons.mp hb with rfl | hb
      · exact hel
      · rw [List.mem_singleton.mp hb]; exact hil
    rw [upd_ne (Nat.ne_of_lt lt)]
    exact (hf b hb).1
/-- the tuple at a, each item in a new pair -/
def ItEt (K : PySem.W.Frag) (a : Addr) : It :=
  ⟨fun i H => ∃ (xs : List V) (x : V), SqT K H a xs ∧ xs[i]? = some x, fun i H v H' => ∃ T x, v = .ref T ∧ H T = none ∧ H' = upd H T (.tup [.int ((i : Nat) : Int), x]) ∧ ∀ xs, SqT K H a xs → xs[i]? = some x, fun i H => ∃ xs : List V, SqT K H a xs ∧ xs.length ≤ i⟩
/-- the text z, each sign in a new pair -/
def ItEs (z : Str) : It :=
  ⟨fun i _ => i < z.cps.size, fun i H v H' => ∃ T x, v = .ref T ∧ H T = none ∧ H' = upd H T (.tup [.int ((i : Nat) : Int), x]) ∧ ∃ c, z.cps[i]? = some c ∧ x = .str ⟨#[c]⟩, fun i _ => z.cps.size ≤ i⟩
theorem turn_enumT {P : Program} {w : World} {K : PySem.W.Frag} {elts : List Expr} {kk : Nat} {tpos : Pos} (a e it : Addr) :
    Turn P w K (.Tuple elts kk tpos) (ItEt K a) [e, it] e (fun i h => ((∃ old, IsEnum h e it ((i : Nat) : Int) old) ∧ h.IsTupleIter it a i) ∧ e ≠ it ∧ e ≠ a ∧ a ≠ it) where
  mem := by simp
  obj := fun i h st b hb => by
    obtain ⟨⟨⟨old, he⟩, o, ho, _, hd⟩, _⟩ := st
    rcases List.mem_cons.mp hb with rfl | hb
    · exact ⟨_, he, fun v q => by cases q⟩
    · rw [List.mem_singleton.mp hb]
      exact ⟨o, ho, fun v q => by rw [hd] at q; cases q⟩
  keep := fun i h h' st k => by
    obtain ⟨⟨⟨old, he⟩, hi⟩, r⟩ := st
    exact ⟨⟨⟨old, k e (by simp) _ he⟩, hi.at fun o q => k it (by simp) o q⟩, r⟩
  item := by
    intro X hP hw hK hc i pins s σ H E I hf st hg
    subst hP hw hK
    obtain ⟨⟨⟨old, he⟩, hit⟩, hne, hea, hai⟩ := st
    obtain ⟨xs, x, hq, hx⟩ := hg
    obtain ⟨its, rv, p, hz⟩ := I.tuple hq
    have hil : it < s.heap.objs.size := by obtain ⟨_, q, _⟩ := hit; exact Heap.lt_size q
    have hi : i < its.toArray.size := by
      have h1 := rv.length
      have h2 : i < xs.length := (List.getElem?_eq_some_iff.mp hx).1
      rw [List.size_toArray]
      omega
    refine wpAny_mono (enum_turn (elts := elts) (kk := kk) (tpos := tpos) (Py := fun y => xs[i]? = some y) (St2 := fun h => h.IsTupleIter it a (i + 1)) (Draws.tuple (prog := X.prog) (w := X.w) (A := X.A.in1) (I.ok.hd hc) it a hai its.toArray) I hf he ⟨hit, p⟩ hi hne (by simp [hne, hea]) hil (fun u hu => ?_) (fun h h' q k => q.1.at fun o y => (k it (Ne.symm hne)).trans y)) (fun r s1 hr => ?_) fun _ _ z => z
    · obtain ⟨u2, hu2, ru⟩ := rv.get hx
      have e2 : u2 = u := Option.some.inj (hu2.symm.trans (by simpa using hu))
      subst e2
      exact ⟨x, ru, hx⟩
    · obtain ⟨u, e1, h2⟩ := hr
      refine ⟨u, e1, wpAny_mono h2 (fun _ s2 hs => ?_) fun _ _ z => z⟩
      obtain ⟨y, H', J, ry, ⟨T, y', h3, h4, h5, h6⟩, ⟨h7, h8⟩, h9⟩ := hs
      exact ⟨y, H', J, ry, ⟨T, y', h3, h4, h5, fun ys hy => by rw [I.tuple_inj hy hq]; exact h6⟩, ⟨⟨h7, h8⟩, hne, hea, hai⟩, h9⟩
  done := by
    intro X hP hw hK hc i pins s σ H E I hf st hg
    subst hP hw hK
    obtain ⟨⟨⟨old, he⟩, hit⟩, hne, hea, hai⟩ := st
    obtain ⟨xs, hq, hx⟩ := hg
    obtain ⟨its, rv, p, hz⟩ := I.tuple hq
    obtain ⟨f0, f1, f2, f3, f4, f5⟩ := hf it (by simp)
    have hl := rv.length
    obtain ⟨o, ho, hc2, hd⟩ := hit
    -- the iterator stands at the end or behind it
    have D : Draws X.prog X.w X.A.in1 it [it, a] i (fun i v => its.toArray[i]? = some v) (fun j h => j = i ∧ h.IsTupleIter it a i ∧ h.IsTuple a its.toArray) := {
      live := fun _ _ q => let ⟨o, ho, _⟩ := q.2.1; ⟨o, ho⟩
      frame := fun _ _ _ q hk => ⟨q.1, q.2.1.at fun o e => hk it (by simp) o e, q.2.2.at fun o e => hk a (by simp) o e⟩
      item := fun j _ _ _ hj q _ => absurd q.1 (Nat.ne_of_lt hj)
      done := fun s Q E q hE => wpAny_nextOf_tuple_end (I.ok.hd hc) q.2.1 q.2.2 (by simp; omega) hE }
    exact wpAny_pyNext_enum_endD D he ⟨rfl, ⟨o, ho, hc2, hd⟩, p⟩ fun h' eb => ⟨rfl, I.turned (t' := s.toks) (fun b o hb q => eb b o hb q) f0 f1 f3 f4 f5⟩
  self := fun A i s Q E st h => let ⟨⟨⟨_, he⟩, _⟩, _⟩ := st; wpAny_pyIter_enum he h
theorem turn_enumS {P : Program} {w : World} {K : PySem.W.Frag} {elts : List Expr} {kk : Nat} {tpos : Pos} (z : Str) (t : Tok) (e it : Addr) :
    Turn P w K (.Tuple elts kk tpos) (ItEs z) [e, it] e (fun i h => ((∃ old, IsEnum h e it ((i : Nat) : Int) old) ∧ h.IsStrIter it (strIterType z) z t i) ∧ e ≠ it ∧ i ≤ z.cps.size) where
  mem := by simp
  obj := fun i h st b hb => by
    obtain ⟨⟨⟨old, he⟩, o, ho, _, hd⟩, _⟩ := st
    rcases List.mem_cons.mp hb with rfl | hb
    · exact ⟨_, he, fun v q => by cases q⟩
    · rw [List.mem_singleton.mp hb]
      exact ⟨o, ho, fun v q => by rw [hd] at q; cases q⟩
  keep := fun i h h' st k => by
    obtain ⟨⟨⟨old, he⟩, o, ho, r1⟩, r⟩ := st
    exact ⟨⟨⟨old, k e (by simp) _ he⟩, ⟨o, k it (by simp) _ ho, r1⟩⟩, r⟩
  item := by
    intro X hP hw hK hc i pins s σ H E I hf st hg
    subst hP hw hK
    obtain ⟨⟨⟨old, he⟩, hit⟩, hne, _⟩ := st
    have hi : i < z.cps.size := hg
    have hil : it < s.heap.objs.size := by obtain ⟨_, q, _⟩ := hit; exact Heap.lt_size q
    refine wpAny_mono (enum_turn (elts := elts) (kk := kk) (tpos := tpos) (Py := fun y => ∃ c, z.cps[i]? = some c ∧ y = .str ⟨#[c]⟩) (St2 := fun h => h.IsStrIter it (strIterType z) z t (i + 1)) (Draws.text (prog := X.prog) (w := X.w) (A := X.A.in1) (I.ok.hd hc) it z t) I hf he hit hi hne (by simp [hne]) hil (fun u hu => ?_)
      (fun h h' q k => let ⟨o, ho, r⟩ := q; ⟨o, (k it (Ne.symm hne)).trans ho, r⟩)) (fun r s1 hr => ?_) fun _ _ z => z
    · obtain ⟨c, t2, hc2, rfl⟩ := hu
      exact ⟨.str ⟨#[c]⟩, ⟨t2, rfl⟩, c, hc2, rfl⟩
    · obtain ⟨u, e1, h2⟩ := hr
      refine ⟨u, e1, wpAny_mono h2 (fun _ s2 hs => ?_) fun _ _ z => z⟩
      obtain ⟨y, H', J, ry, ⟨T, y', h3, h4, h5, h6⟩, ⟨h7, h8⟩, h9⟩ := hs
      exact ⟨y, H', J, ry, ⟨T, y', h3, h4, h5, h6⟩, ⟨⟨h7, h8⟩, hne, hi⟩, h9⟩
  done := by
    intro X hP hw hK hc i pins s σ H E I hf st hg
    subst hP hw hK
    obtain ⟨⟨⟨old, he⟩, hit⟩, hne, hi⟩ := st
    have hi2 : z.cps.size ≤ i := hg
    obtain rfl : i = z.cps.size := by omega
    obtain ⟨f0, f1, f2, f3, f4, f5⟩ := hf it (by simp)
    exact wpAny_pyNext_enum_endD (Draws.text (prog := X.prog) (w := X.w) (A := X.A.in1) (I.ok.hd hc) it z t) he hit fun h' eb => ⟨rfl, I.turned (t' := s.toks) (fun b o hb q => eb b o hb q) f0 f1 f3 f4 f5⟩
  self := fun A i s Q E st h => let ⟨⟨⟨_, he⟩, _⟩, _⟩ := st; wpAny_pyIter_enum he h
/-- enumerate(v): v a list, a tuple or a text -/
def iEnumQ (K : PySem.W.Frag) (ta : TA) : TI := fun σ H R => ta σ H fun vs H1 => (∃ a xs, vs = [.ref a] ∧ SqL K H1 a xs ∧ R (Ite K a) H1) ∨ (∃ a xs, vs = [.ref a] ∧ SqT K H1 a xs ∧ R (ItEt K a) H1) ∨ ∃ z, vs = [.str z] ∧ R (ItEs z) H1
theorem pi_enumQ {X : Cx} {e : Expr} {ta : TA} {p pos tpos : Pos} {elts : List Expr} {kk : Nat} (hg : Gl X "enumerate") (hm : X.mg "enumerate" = none) (ha : PA X [e] ta) (hs : starEach [e] X.env = [(false, eval e X.env)] := by rfl) :
    PI X (.Tuple elts kk tpos) (.Call (.Name "enumerate" p) [e] [] pos) (iEnumQ X.K ta) := by
  refine ⟨fun pins s σ H R I h => Call_ (ld_blt I hg hm boot_enumerate (PyProof.Rows.callWith_type1 (thn (ha.run pos pins s σ H _ I h) fun us s1 hh => ?_) hs rfl))⟩
  obtain ⟨vs, H1, I1, r1, q1⟩ := hh
  have n1 : s1.heap.objs.size ≤ s1.heap.objs.size + 1 := Nat.le_succ _
  have new : ∀ b ∈ [s1.heap.objs.size + 1, s1.heap.objs.size], FpOk X pins H1 b := fun b hb => by
    have hle : s1.heap.objs.size ≤ b := by
      rcases List.mem_cons.mp hb with rfl | hb
      · exact n1
      · rw [List.mem_singleton.mp hb]; exact Nat.le_refl _
    exact I1.fpOk hle (I1.hok.fresh hle)
  rcases q1 with ⟨a, xs, rfl, hq, q⟩ | ⟨a, xs, rfl, hq, q⟩ | ⟨z, rfl, q⟩
  · match r1 with
    | .cons ra .nil =>
      cases (show _ = Value.ref a from ra)
      obtain ⟨its, rv, p', hz⟩ := I1.list hq
      refine enum1 (begins_list a its.toArray) p'.isList (F.typeCall_enumerate_1 _) (F.newCall_enumerate_1 _) fun h' he hit hk => wpAny_pyIter_enum he ?_
      exact ⟨s1.heap.objs.size + 1, _, _, _, H1, rfl, I1.kept (t' := s1.toks) hk, turn_enum a (s1.heap.objs.size + 1) s1.heap.objs.size, ⟨⟨.none, he⟩, ⟨_, hit, rfl, rfl⟩, Nat.succ_ne_self _⟩, new, q⟩
  · match r1 with
    | .cons ra .nil =>
      cases (show _ = Value.ref a from ra)
      obtain ⟨its, rv, p', hz⟩ := I1.tuple hq
      have hal : a < s1.heap.objs.size := by obtain ⟨_, y, _⟩ := p'; exact Heap.lt_size y
      refine enum1 (begins_tuple a its.toArray) p' (F.typeCall_enumerate_1 _) (F.newCall_enumerate_1 _) fun h' he hit hk => wpAny_pyIter_enum he ?_
      exact ⟨s1.heap.objs.size + 1, _, _, _, H1, rfl, I1.kept (t' := s1.toks) hk, turn_enumT a (s1.heap.objs.size + 1) s1.heap.objs.size, ⟨⟨⟨.none, he⟩, ⟨_, hit, rfl, rfl⟩⟩, Nat.succ_ne_self _, Nat.ne_of_gt (Nat.lt_succ_of_lt hal), Nat.ne_of_lt hal⟩, new, q⟩
  · match r1 with
    | .cons ra .nil =>
      obtain ⟨t, rfl⟩ := ra
      refine enum1 (begins_text z t) trivial (F.typeCall_enumerate_1 _) (F.newCall_enumerate_1 _) fun h' he hit hk => wpAny_pyIter_enum he ?_
      exact ⟨s1.heap.objs.size + 1, _, _, _, H1, rfl, I1.kept (t' := s1.toks) hk, turn_enumS z t (s1.heap.objs.size + 1) s1.heap.objs.size, ⟨⟨⟨.none, he⟩, ⟨_, hit, rfl, rfl⟩⟩, Nat.succ_ne_self _, Nat.zero_le _⟩, new, q⟩
end
section
variable {K : PySem.W.Frag} {a : Addr} {xs : List V}
theorem walk_enumT : Walk (ItEt K a) xs.length (fun H => SqT K H a xs) (YPair (fun i => some (.int ((i : Nat) : Int))) (fun i => xs[i]?)) := by
  refine ⟨fun i _ hi q => ⟨xs, xs[i], q, by simp [hi]⟩, fun _ q => ⟨xs, q, Nat.le_refl _⟩, fun i H v H' _ q y => ?_⟩
  obtain ⟨T, x, h1, h2, h3, h4⟩ := y
  exact ⟨T, _, x, h1, h2, h3, rfl, h4 xs q⟩
theorem walk_enumS {z : Str} : Walk (ItEs z) z.cps.size (fun _ => True) (YPair (fun i => some (.int ((i : Nat) : Int))) (fun i => z.cps[i]?.map fun c => V.str ⟨#[c]⟩)) := by
  refine ⟨fun i _ hi _ => hi, fun _ _ => Nat.le_refl _, fun i H v H' _ _ y => ?_⟩
  obtain ⟨T, x, h1, h2, h3, c, h4, rfl⟩ := y
  exact ⟨T, _, _, h1, h2, h3, rfl, by show (z.cps[i]?).map _ = _; rw [h4]; rfl⟩
end

/-! ## types of data -/
section
open PyProof.Rows
def D.tyn : D → String
  | .non => "NoneType" | .bl _ => "bool" | .int _ => "int" | .str _ => "str" | .lst _ => "list" | .tup _ => "tuple" | .dct => "dict"
theorem Rp.ty {K : PySem.W.Frag} {S : List Addr} {H : Hp} {v : V} {d : D} (r : Rp S H v d) : TyX K H v (.type d.tyn) := by
  cases r with
  | non => exact .base .non
  | bl b => exact .base (.bl b)
  | int i => exact .base (.int i)
  | str x => exact .base (.str x)
  | lst _ e _ => exact .base (.lst e)
  | tup _ e _ => exact .base (.tup e)
  | dct _ e => exact .base (.dK e)
/-- isinstance(x, T), T a built-in class -/
def D.isa (T : String) : D → Bool := fun d => d.tyn == T || (d.tyn == "bool" && T == "int")
theorem kit_isa (K : PySem.W.Frag) (d : D) {T : String} (h : T ∈ ["bool", "int", "str", "list", "tuple"]) : PySem.W.kitOne K (.type d.tyn) (.type T) = some (d.isa T) := by
  simp only [List.mem_cons, List.mem_nil_iff, or_false] at h
  rcases h with rfl | rfl | rfl | rfl | rfl <;> cases d <;> kernel_rfl
theorem kit_listed (K : PySem.W.Frag) (d : D) : PySem.W.kitAny K (.type d.tyn) [.type "tuple", .type "list"] = some (d.isa "tuple" || d.isa "list") := by
  cases d <;> kernel_rfl
end
theorem Rp.same {S : List Addr} {H H' : Hp} {v : V} {d : D} (r : Rp S H v d) (s : Same H H') : Rp S H' v d := r.keep (fun b o _ e => s b o e)
theorem Rps.same {S : List Addr} {H H' : Hp} {v : List V} {d : List D} (r : Rps S H v d) (s : Same H H') : Rps S H' v d := r.keep (fun b o _ e => s b o e)
theorem kit_lit {K : PySem.W.Frag} {d : D} {T : String} {b : Bool} (h : T ∈ ["bool", "int", "str", "list", "tuple"]) (e : d.isa T = b) : PySem.W.kitOne K (.type d.tyn) (.type T) = some b := by
  rw [← e]
  exact kit_isa K d h

/-! ## comprehensions without a filter: the i-th item stands for f i -/
theorem keep1 {H1 H : Hp} {L : Addr} (hD : H1 L = none) (k : Keep [L] H1 H) : Same H1 H := fun b o e => k b o (fun hm => by rw [List.mem_singleton.mp hm, hD] at e; cases e) e
theorem Wd.nil {H : Hp} : Wd [] [] H := ⟨by simp, by simp, by simp⟩
theorem Go.nil {H H' : Hp} (g : Go [] H H') : Same H H' := fun b o e => g.keep b o (by simp) e
theorem lc_F {J : It} {n : Nat} {G : Hp → Prop} {Y : Nat → Hp → V → Hp → Prop} {j : Nat} {te : TE} {vs : List Nat} {σ : L2.St} {H1 : Hp} {L : Addr} {Qd : Hp → Prop} {Xp : Nat → V → Prop}
    (f : Nat → D) (w : Walk J n G Y) (hY : ∀ i H x H', i < n → Y i H x H' → H' = H ∧ Xp i x) (hD : H1 L = none) (hn : n ≤ 100000) (hG : ∀ H, Same H1 H → G H) (hw : ∀ x, wipe ((wipe σ vs).set j (some x)) vs = wipe σ vs)
    (hs : ∀ i x H, i < n → Xp i x → Same H1 H → ∀ Kt : V → Hp → Prop, (∀ y H', Same H H' → Rp [L] H' y (f i) → Kt y H') → te ((wipe σ vs).set j (some x)) H Kt)
    (hd : ∀ ys H, Same H1 H → H L = some (.lst ys) → Rps [] H ys ((List.range n).map f) → Qd H) :
    ∃ W : Nat → Nat → Hp → Prop, (∃ m, W 0 m (upd H1 L (.lst []))) ∧ ∀ i m H, W i m H →
      (J.stop i H ∧ Qd H) ∨ (J.go i H ∧ ∃ Nx : Hp → Prop, (∀ H', Nx H' → ∃ m', m' < m ∧ W (i + 1) m' H') ∧ ∀ x H', J.yld i H x H' → gName j x (wipe σ vs) H' fun σ2 H2 => wipe σ2 vs = wipe σ vs ∧ tYes σ2 H2 fun b H3 =>
        if b = true then te σ2 H3 fun y H4 => ∃ acc, H4 L = some (.lst acc) ∧ acc.length < sizeLine ∧ Nx (upd H4 L (.lst (acc ++ [y]))) else Nx H3) := by
  refine lc_D (A := []) (S := []) (Xp := Xp) (fun i ds => ds = (List.range i).map f) w hY Wd.nil hD hn (fun H k => hG H (keep1 hD k)) rfl (fun i ds h => by rw [h]; simp) hw (fun i ds x H hi h hx W k Kt Kf ht hf => ?_) (fun ys ds H h g e r => ?_)
  · exact yes_go (hs i x H hi hx (keep1 hD k) Kt fun y H' s r => ht y (f i) H' (Go.same s) r (by rw [h, List.range_succ, List.map_append]; rfl))
  · subst h
    exact hd ys H g.nil e (r.less fun _ q => by cases q)
theorem Rps.bls_eq {S : List Addr} {H : Hp} {n : Nat} {g : Nat → Bool} : ∀ {vs : List V} {l : List Nat}, Rps S H vs (l.map fun i => D.bl (g i)) → vs = (l.map g).map V.bl
  | _, [], .nil => rfl
  | _, i :: r, .cons (.bl _) t => by rw [Rps.bls_eq (n := n) t]; rfl
theorem al_any (sm : List Nat) : ∀ l : List Nat, 1 ≤ l.length → l.length ≤ 3 → (l.all fun c => sm.contains c) = !(((List.range l.length).map fun i => !decide (l.getD i 0 ∈ sm)).any id)
  | [], h, _ => by simp at h
  | [a], _, _ => by simp [List.range_succ]
  | [a, b], _, _ => by simp [List.range_succ]
  | [a, b, c], _, _ => by simp [List.range_succ]
  | _ :: _ :: _ :: _ :: _, _, h => by simp at h
theorem al_asc : ∀ l : List Nat, 1 ≤ l.length → l.length ≤ 3 → decide (l.Pairwise (· < ·)) = ((List.range (l.length - 1)).map fun i => decide (l.getD i 0 < l.getD (i + 1) 0)).all id
  | [], h, _ => by simp at h
  | [a], _, _ => by simp [List.range_succ]
  | [a, b], _, _ => by simp [List.range_succ]
  | [a, b, c], _, _ => by
    rw [Bool.eq_iff_iff, decide_eq_true_iff]
    have e : (List.range ([a, b, c].length - 1)) = [0, 1] := by rfl
    rw [e]
    simp
    omega
  | _ :: _ :: _ :: _ :: _, _, h => by simp at h
theorem lt_sign (a b : Nat) : decide (([a] : List Nat) < [b]) = decide (a < b) := by
  by_cases h : a < b
  · rw [decide_eq_true h, decide_eq_true]
    exact List.Lex.rel h
  · rw [decide_eq_false h, decide_eq_false]
    intro z
    cases z with
    | rel h2 => exact h h2
    | cons h2 => cases h2
/-- a new pair, unpacked -/
theorem gTup2 {K : PySem.W.Frag} {p : Addr} {u v : V} {i j : Nat} {σ : L2.St} {H : Hp} {Q : L2.St → Hp → Prop} (q : Q ((σ.set i (some u)).set j (some v)) (upd H p (.tup [u, v]))) : gTup K 2 (gCons (gName i) (gCons (gName j) gNil)) (.ref p) σ (upd H p (.tup [u, v])) Q :=
  ⟨p, _, rfl, .inl (.inl upd_same), rfl, _, _, rfl, _, _, rfl, rfl, q⟩

/-! ## a list or a tuple, walked -/
section
open PyProof.Rows
/-- a list or a tuple -/
def SqQ (K : PySem.W.Frag) (H : Hp) (a : Addr) (xs : List V) : Prop := SqL K H a xs ∨ SqT K H a xs
theorem Rd.same {H H' : Hp} {a : Addr} {u : HO} (h : Rd H a u) (s : Same H H') : Rd H' a u := h.imp (s _ _) fun ⟨o, e⟩ => ⟨o, s _ _ e⟩
theorem SqL.same {K : PySem.W.Frag} {H H' : Hp} {a : Addr} {xs : List V} (h : SqL K H a xs) (s : Same H H') : SqL K H' a xs := h.imp (fun r => Rd.same r s) id
theorem SqT.same {K : PySem.W.Frag} {H H' : Hp} {a : Addr} {xs : List V} (h : SqT K H a xs) (s : Same H H') : SqT K H' a xs := h.imp (fun r => Rd.same r s) id
theorem SqQ.same {K : PySem.W.Frag} {H H' : Hp} {a : Addr} {xs : List V} (h : SqQ K H a xs) (s : Same H H') : SqQ K H' a xs := h.imp (fun r => SqL.same r s) fun r => SqT.same r s
def D.seq? : D → Option (List D)
  | .lst ds => some ds
  | .tup ds => some ds
  | _ => none
theorem Rp.seq {K : PySem.W.Frag} {S : List Addr} {H : Hp} {v : V} {d : D} {ds : List D} (r : Rp S H v d) (e : d.seq? = some ds) : ∃ a xs, v = .ref a ∧ SqQ K H a xs ∧ Rps S H xs ds := by
  cases r with
  | lst n ha rs => cases e; exact ⟨_, _, rfl, .inl (SqL.of ha), rs⟩
  | tup n ha rs => cases e; exact ⟨_, _, rfl, .inr (.inl (.inl ha)), rs⟩
  | _ => cases e
/-- over the items of it, whatever walks them -/
def iSeqW (K : PySem.W.Frag) (te : TE) : TI := fun σ H R => te σ H fun x H1 => ∃ a xs, x = .ref a ∧ SqQ K H1 a xs ∧ ∀ (J : It) (G : Hp → Prop), Walk J xs.length G (YAt xs) → (∀ H2, Same H1 H2 → G H2) → R J H1
theorem pi_seqW {X : Cx} {tg e : Expr} {te : TE} (he : PE X e te) : PI X tg e (iSeqW X.K te) := by
  refine ⟨fun pins s σ H R I h => thn (he.run pins s σ H _ I h) fun v s1 hh => ?_⟩
  obtain ⟨x, H1, I1, r1, a, xs, rfl, hq, k⟩ := hh
  cases (show v = Value.ref a from r1)
  have fp : ∀ b ∈ [s1.heap.objs.size], FpOk X pins H1 b := fun b hb => by
    rw [List.mem_singleton.mp hb]
    exact I1.fpOk (Nat.le_refl _) (I1.hok.fresh (Nat.le_refl _))
  rcases hq with hq | hq
  · obtain ⟨its, rv, p, hz⟩ := I1.list hq
    exact wpAny_pyIter_list p.isList ⟨_, _, _, _, H1, rfl, I1.kept (t' := s1.toks) fun b o e => Heap.get?_push_of_some _ e, turn_list a _, ⟨_, Heap.get?_push_size _ rfl, rfl, rfl⟩, fp, k _ _ walk_list fun H2 s => SqL.same hq s⟩
  · obtain ⟨its, rv, p, hz⟩ := I1.tuple hq
    exact wpAny_pyIter_tuple (show s1.heap.IsTuple a its.toArray from p) ⟨_, _, _, _, H1, rfl, I1.kept (t' := s1.toks) fun b o e => Heap.get?_push_of_some _ e, turn_tuple a _, ⟨_, Heap.get?_push_size _ rfl, rfl, rfl⟩, fp, k _ _ walk_tup fun H2 s => SqT.same hq s⟩
/-- enumerate of it -/
def iEnumW (K : PySem.W.Frag) (ta : TA) : TI := fun σ H R => ta σ H fun vs H1 => ∃ a xs, vs = [.ref a] ∧ SqQ K H1 a xs ∧ ∀ (J : It) (G : Hp → Prop), Walk J xs.length G (YPair (fun i => some (.int ((i : Nat) : Int))) (fun i => xs[i]?)) → (∀ H2, Same H1 H2 → G H2) → R J H1
theorem pi_enumW {X : Cx} {e : Expr} {ta : TA} {p pos tpos : Pos} {elts : List Expr} {kk : Nat} (hg : Gl X "enumerate") (hm : X.mg "enumerate" = none) (ha : PA X [e] ta) (hs : starEach [e] X.env = [(false, eval e X.env)] := by rfl) :
    PI X (.Tuple elts kk tpos) (.Call (.Name "enumerate" p) [e] [] pos) (iEnumW X.K ta) := by
  refine ⟨fun pins s σ H R I h => Call_ (ld_blt I hg hm boot_enumerate (PyProof.Rows.callWith_type1 (thn (ha.run pos pins s σ H _ I h) fun us s1 hh => ?_) hs rfl))⟩
  obtain ⟨vs, H1, I1, r1, a, xs, rfl, hq, k⟩ := hh
  have new : ∀ b ∈ [s1.heap.objs.size + 1, s1.heap.objs.size], FpOk X pins H1 b := fun b hb => by
    have hle : s1.heap.objs.size ≤ b := by
      rcases List.mem_cons.mp hb with rfl | hb
      · exact Nat.le_succ _
      · rw [List.mem_singleton.mp hb]; exact Nat.le_refl _
    exact I1.fpOk hle (I1.hok.fresh hle)
  match r1 with
  | .cons ra .nil =>
    cases (show _ = Value.ref a from ra)
    rcases hq with hq | hq
    · obtain ⟨its, rv, p', hz⟩ := I1.list hq
      refine enum1 (begins_list a its.toArray) p'.isList (F.typeCall_enumerate_1 _) (F.newCall_enumerate_1 _) fun h' he hit hk => wpAny_pyIter_enum he ?_
      exact ⟨s1.heap.objs.size + 1, _, _, _, H1, rfl, I1.kept (t' := s1.toks) hk, turn_enum a (s1.heap.objs.size + 1) s1.heap.objs.size, ⟨⟨.none, he⟩, ⟨_, hit, rfl, rfl⟩, Nat.succ_ne_self _⟩, new, k _ _ walk_enum fun H2 s => SqL.same hq s⟩
    · obtain ⟨its, rv, p', hz⟩ := I1.tuple hq
      have hal : a < s1.heap.objs.size := by obtain ⟨_, y, _⟩ := p'; exact Heap.lt_size y
      refine enum1 (begins_tuple a its.toArray) p' (F.typeCall_enumerate_1 _) (F.newCall_enumerate_1 _) fun h' he hit hk => wpAny_pyIter_enum he ?_
      exact ⟨s1.heap.objs.size + 1, _, _, _, H1, rfl, I1.kept (t' := s1.toks) hk, turn_enumT a (s1.heap.objs.size + 1) s1.heap.objs.size, ⟨⟨⟨.none, he⟩, ⟨_, hit, rfl, rfl⟩⟩, Nat.succ_ne_self _, Nat.ne_of_gt (Nat.lt_succ_of_lt hal), Nat.ne_of_lt hal⟩, new, k _ _ walk_enumT fun H2 s => SqT.same hq s⟩
end
/-- as lc_F, the items apart from S -/
theorem lc_FS {J : It} {n : Nat} {G : Hp → Prop} {Y : Nat → Hp → V → Hp → Prop} {j : Nat} {te : TE} {vs : List Nat} {σ : L2.St} {H1 : Hp} {L : Addr} {Qd : Hp → Prop} {Xp : Nat → V → Prop}
    (S : List Addr) (f : Nat → D) (w : Walk J n G Y) (hY : ∀ i H x H', i < n → Y i H x H' → H' = H ∧ Xp i x) (hS : ∀ a ∈ S, ∃ o, H1 a = some o) (hD : H1 L = none) (hn : n ≤ 100000) (hG : ∀ H, Same H1 H → G H) (hw : ∀ x, wipe ((wipe σ vs).set j (some x)) vs = wipe σ vs)
    (hs : ∀ i x H, i < n → Xp i x → Same H1 H → (∀ a ∈ L :: S, ∃ o, H a = some o) → ∀ Kt : V → Hp → Prop, (∀ y H', Same H H' → Rp (L :: S) H' y (f i) → Kt y H') → te ((wipe σ vs).set j (some x)) H Kt)
    (hd : ∀ ys H, Same H1 H → H L = some (.lst ys) → Rps S H ys ((List.range n).map f) → Qd H) :
    ∃ W : Nat → Nat → Hp → Prop, (∃ m, W 0 m (upd H1 L (.lst []))) ∧ ∀ i m H, W i m H →
      (J.stop i H ∧ Qd H) ∨ (J.go i H ∧ ∃ Nx : Hp → Prop, (∀ H', Nx H' → ∃ m', m' < m ∧ W (i + 1) m' H') ∧ ∀ x H', J.yld i H x H' → gName j x (wipe σ vs) H' fun σ2 H2 => wipe σ2 vs = wipe σ vs ∧ tYes σ2 H2 fun b H3 =>
        if b = true then te σ2 H3 fun y H4 => ∃ acc, H4 L = some (.lst acc) ∧ acc.length < sizeLine ∧ Nx (upd H4 L (.lst (acc ++ [y]))) else Nx H3) := by
  refine lc_D (A := []) (S := S) (Xp := Xp) (fun i ds => ds = (List.range i).map f) w hY ⟨by simp, by simp, hS⟩ hD hn (fun H k => hG H (keep1 hD k)) rfl (fun i ds h => by rw [h]; simp) hw (fun i ds x H hi h hx W k Kt Kf ht hf => ?_) (fun ys ds H h g e r => ?_)
  · exact yes_go (hs i x H hi hx (keep1 hD k) W.ex Kt fun y H' s r => ht y (f i) H' (Go.same s) r (by rw [h, List.range_succ, List.map_append]; rfl))
  · subst h
    exact hd ys H g.nil e (r.less fun _ q => List.mem_cons_of_mem _ q)
theorem Rps.item {S : List Addr} {H : Hp} {xs : List V} {ds : List D} {i : Nat} {x : V} (r : Rps S H xs ds) (h : xs[i]? = some x) : ∃ d, ds[i]? = some d ∧ Rp S H x d := r.getV h
section
open PyProof.Rows
/-- len, tuple, list of a list or a tuple, the written part named -/
def rLenQ (K : PySem.W.Frag) : List V → Hp → VK → Prop := fun xs H Q => ∃ p ys, xs = [.ref p] ∧ SqQ K H p ys ∧ Q (.int (ys.length : Int)) H
def rTupQ (K : PySem.W.Frag) : List V → Hp → VK → Prop := fun xs H Q => ∃ p ys, xs = [.ref p] ∧ ((SqL K H p ys ∧ ∀ l, H l = none → Q (.ref l) (upd H l (.tup ys))) ∨ (SqT K H p ys ∧ Q (.ref p) H))
def rLstQ (K : PySem.W.Frag) : List V → Hp → VK → Prop := fun xs H Q => ∃ p ys, xs = [.ref p] ∧ SqQ K H p ys ∧ ∀ l, H l = none → Q (.ref l) (upd H l (.lst ys))
theorem call_lenQ {X : Cx} {K : PySem.W.Frag} (h : X.K = K) : CallR X (.builtin "len") (rLenQ K) := by
  subst h
  exact call_len_seq
theorem call_tupQ {X : Cx} {K : PySem.W.Frag} (h : X.K = K) : CallR X (.type "tuple") (rTupQ K) := by
  subst h
  exact call_tuple_of
theorem call_lstQ {X : Cx} {K : PySem.W.Frag} (h : X.K = K) : CallR X (.type "list") (rLstQ K) := by
  subst h
  exact call_list_of
end
section
open PyProof.Rows
def rIxQ (K : PySem.W.Frag) : R2 := fun x y H Q => ∃ p xs i v, x = .ref p ∧ y = .int i ∧ SqQ K H p xs ∧ atI xs i = some v ∧ Q v H
theorem ixQ {X : Cx} {K : PySem.W.Frag} (h : X.K = K) : IxR X (rIxQ K) := by
  subst h
  intro value slice pins s σ H x y v u Q I rx ry q hs
  obtain ⟨p, xs, i, z, e1, e2, hq, he, k⟩ := q
  rcases hq with hq | hq
  · exact ix_list value slice pins s σ H x y v u Q I rx ry ⟨p, xs, i, z, e1, e2, hq, he, k⟩ hs
  · exact ix_tup value slice pins s σ H x y v u Q I rx ry ⟨p, xs, i, z, e1, e2, hq, he, k⟩ hs
end
/-- data don't stand where other things stand -/
def NoData (H : Hp) (a : Addr) : Prop := (∀ xs, H a ≠ some (.lst xs)) ∧ (∀ xs, H a ≠ some (.tup xs)) ∧ ∀ kvs, H a ≠ some (.dK kvs)
mutual
theorem Rp.apart {S T : List Addr} {H : Hp} (h : ∀ a ∈ T, a ∈ S ∨ NoData H a) : ∀ {v : V} {d : D}, Rp S H v d → Rp T H v d
  | _, _, .non => .non
  | _, _, .bl b => .bl b
  | _, _, .int i => .int i
  | _, _, .str x => .str x
  | _, _, .lst n e r => .lst (fun q => (h _ q).elim n fun z => z.1 _ e) e (Rps.apart h r)
  | _, _, .tup n e r => .tup (fun q => (h _ q).elim n fun z => z.2.1 _ e) e (Rps.apart h r)
  | _, _, .dct n e => .dct (fun q => (h _ q).elim n fun z => z.2.2 _ e) e
theorem Rps.apart {S T : List Addr} {H : Hp} (h : ∀ a ∈ T, a ∈ S ∨ NoData H a) : ∀ {vs : List V} {ds : List D}, Rps S H vs ds → Rps T H vs ds
  | _, _, .nil => .nil
  | _, _, .cons r t => .cons (Rp.apart h r) (Rps.apart h t)
end
theorem noData_ins {H : Hp} {x C dx : Addr} {fs : List (Str × V)} (h : H x = some (.ins C dx fs)) : NoData H x := by
  refine ⟨fun xs z => ?_, fun xs z => ?_, fun xs z => ?_⟩ <;> rw [h] at z <;> cases z
theorem Rp.off {S : List Addr} {H : Hp} {x C dx : Addr} {fs : List (Str × V)} {v : V} {d : D} (r : Rp S H v d) (h : H x = some (.ins C dx fs)) : Rp (x :: S) H v d :=
  r.apart fun a ha => (List.mem_cons.mp ha).elim (fun e => .inr (by rw [e]; exact noData_ins h)) .inl
theorem Keep.same {S : List Addr} {H H' : Hp} (s : Same H H') : Keep S H H' := fun b o _ e => s b o e
theorem Keep.at1 {S : List Addr} {H : Hp} {x : Addr} {o : HO} (hx : x ∈ S) : Keep S H (L2.upd H x o) := Keep.upd hx
theorem pe_fldK {X : Cx} {K : PySem.W.Frag} {e : Expr} {ta : TE} {f : Str} {pos : Pos} (h : X.K = K) (he : PE X e ta) (hb : attributeBase e f X.env (eval e X.env) = eval e X.env := by rfl) : PE X (.Attribute e f pos) (tFld K ta f) := by
  subst h
  exact pe_fld he hb
section
open PyProof.Rows
/-- l.append(e), the written part named -/
theorem pe_append {X : Cx} {K : PySem.W.Frag} {o e : Expr} {to : TE} {t : TA} {apos cpos : Pos} (h : X.K = K) (ho : PE X o to) (ha : PA X [e] t)
    (hbase : attributeBase o "append" X.env (eval o X.env) = eval o X.env := by rfl)
    (hfew : ((backTo cpos (starEach [e] X.env)).all (fun x => !x.1) && (backToKw cpos (keywordEach [] X.env)).all (fun x => x.1.isSome)
      && decide ([e].length + ([] : List Keyword).length + (if ([] : List Keyword).isEmpty then 0 else 1) < 30)) = true := by rfl)
    (hline : (apos.endLine == cpos.line) = true := by rfl) (hs : starEach [e] X.env = (false, eval e X.env) :: starEach [] X.env := by rfl) (hplain : (backTo cpos (starEach [] X.env)).any (·.1) = false := by rfl) :
    PE X (.Call (.Attribute o "append" apos) [e] [] cpos) (tBM K "list" rAppend to t) := by
  subst h
  exact pe_bm PySem.F.plainAttrs_list PySem.F.slot_list_append PySem.F.type_list_append mt_append ho ha hbase hfew hline hs hplain
end

/-! ## an object made by a def that may let an exception out -/
section
open PyProof.Rows
variable {X : Cx} {k j : Nat} {f C : Addr} {fd : FuncData} {ps : List Str} {sp : Sp} {E : L2.St → XK} {x : Str} {p pos : Pos} {e : Expr} {es : List Expr} {t : TA}
def tMakeZ (C : Addr) (sp : Sp) (E : L2.St → XK) (t : TA) : TE := fun σ H Q => t σ H fun vs H1 => ∀ x dx, H1 x = none → H1 dx = none → dx ≠ x →
  sp (.ref x :: vs) (upd (upd H1 dx (.own x)) x (.ins C dx [])) (fun v H2 => v = .non ∧ Q (.ref x) H2) (E σ)
structure MakZ (P : Program) (w : World) (K : PySem.W.Frag) (mg : Str → Option Value) (base : Heap) (k : Nat) (x : Str) (C : Addr) (sp : Sp) : Prop where
  ex : ∃ (f : Addr) (fd : FuncData) (ps : List Str), Mk K C f ∧ FnZ (fun _ => True) P w K mg base k f fd ps sp ∧ mg x = some (.ref C) ∧ Binds K fd ps []
theorem pe_makeZ (c : MakZ X.prog X.w X.K X.mg X.base k x C sp) (hr : Room j X.A) (hk : k + 1 ≤ j) (hg : Gl X x) (hx : ∀ σ, PassesAt (L2N.CX X.prog X.w) X σ (E σ)) (ha : PA X (e :: es) t) (hdb : (x == ("__debug__" : Str)) = false := by decide)
    (he : starEach (e :: es) X.env = (false, eval e X.env) :: starEach es X.env := by rfl) (hpl : (backTo pos (starEach es X.env)).any (·.1) = false := by rfl) : PE X (.Call (.Name x p) (e :: es) [] pos) (tMakeZ C sp E t) := by
  obtain ⟨f, fd, ps, M, F, hm, b⟩ := c.ex
  refine ⟨fun pins s σ H Q I h => wpAny_Call_Name_kw (ld_glob I hg hm (PySem.W.callWith_K (h₀ := X.base) I.ok.mod.kin M.kp (thn (ha.run pos pins s σ H _ I h) fun us s1 hh => ?_) he hpl) hdb)⟩
  obtain ⟨vs, H1, I1, r, q⟩ := hh
  refine ⟨I1.kIn, ?_⟩
  have q1 := q (s1.heap.objs.size + 1) s1.heap.objs.size (I1.hok.fresh (Nat.le_succ _)) (I1.hok.fresh (Nat.le_refl _)) (Nat.ne_of_lt (Nat.lt_succ_self _))
  have J := Inv.made (C := C) I1
  have r2 : Vals (V.ref (s1.heap.objs.size + 1) :: vs) (Value.ref (s1.heap.objs.size + 1) :: us) := .cons rfl r
  have hl : (Value.ref (s1.heap.objs.size + 1) :: us ++ []).length = ps.length := by rw [List.append_nil, ← r2.length]; exact F.len _ _ _ _ q1
  have bb := b _ (Value.ref (s1.heap.objs.size + 1) :: us) J.kIn hl
  rw [List.append_nil] at bb
  have hr1 : Room (k + 1) X.A := hr.mono hk
  refine wpAny_call (make_map (f := f) I1.kIn M.makes M.init (beq_iff_eq.mp M.fn) (codeAny_mono (F.run _ X.stack _ _ ⟨Value.ref (s1.heap.objs.size + 1) :: us, []⟩ _ _ _ (E σ) trivial (hr1.make C us []) (J.env0.make C us []) bb r2 q1) ?_))
  rintro (er | fl) s2 hq
  · exact hx σ pins _ _ er s2 J hq
  · match fl, hq with
    | .ret u, hq =>
      obtain ⟨v, H2, I2, rv, ev, q3⟩ := J.after hq
      subst ev
      exact ⟨rv, ⟨V.ref (s1.heap.objs.size + 1), H2, I2, rfl, q3⟩⟩
    | .next, z => exact False.elim z
    | .brk, z => exact False.elim z
    | .cont, z => exact False.elim z
end
section
variable {P : Program} {w : World} {K : PySem.W.Frag} {mg : Str → Option Value} {base : Heap}
theorem makZ {x qual : Str} {C : Addr} {st : Stmt} {f : Addr} {fd : FuncData} {N ps : List Str} {k : Nat} {sp : Sp} (M : Mk K C f) (hm : mg x = some (.ref C)) (F : C8.Fun K "__init__" qual st f fd) (b : Binds K fd ps []) (S : FnScope N ps (C8.fnScope st)) (len : ∀ vs H Q E, sp vs H Q E → vs.length = ps.length)
    (hbody : ∀ (cdv : Value) (A : Around) (outer : List Env) (s : Shared) (H : Hp) (vs : List V) (Q : VK) (E : XK), Room k (A.deeper (PyProof.Rows.envOfC qual (C8.fnScope st) s.heap.objs.size f cdv)) → sp vs H Q E →
      ∃ t, PSs (cxG true [] (L2N.CX P w) P w K mg base N qual (C8.fnScope st) f cdv A outer s H E) (C8.fnBody st) t ∧ t { nx := fun _ H' => Q .non H', rt := Q } (L2.start N vs) H) : MakZ P w K mg base (k + 1) x C sp :=
  ⟨f, fd, ps, M, fn_ofZ (fun _ _ _ => trivial) F S len (fun cdv A outer s H vs Q E _ hr h => hbody cdv A outer s H vs Q E hr h), hm, b⟩
end
/-- a wish at a callee's slots, ours -/
theorem passW {X : Cx} {W : WX} (tk : L2N.Takes X W) : ∀ σ, PassesAt (L2N.CX X.prog X.w) X σ (WE W σ) := fun σ => L2N.passAt tk σ

/-! ## where a sign stands in an alphabet; the room of a text -/
def sIdx (al : Str) (c : Nat) : Nat := (PySem.Builtin.Str.occurrences al ⟨#[c]⟩ 0 al.length 1).headD 0
theorem sIdx_at {al : Str} {c : Nat} (h : c ∈ al.cps.toList) : ∃ rest, PySem.Builtin.Str.occurrences al ⟨#[c]⟩ 0 al.length 1 = sIdx al c :: rest ∧ sIdx al c < al.length := by
  have h1 := StrLaws.found_one al c
  rw [decide_eq_true h] at h1
  cases e : PySem.Builtin.Str.occurrences al ⟨#[c]⟩ 0 al.length 1 with
  | nil => rw [e] at h1; cases h1
  | cons i r =>
    have e2 : sIdx al c = i := by unfold sIdx; rw [e]; rfl
    have h2 := StrLaws.occ_spec al ⟨#[c]⟩ 0 al.length 1 i (by rw [e]; exact List.mem_cons_self ..)
    refine ⟨r, by rw [e2], ?_⟩
    have h3 : i + 1 ≤ al.length := h2.1
    omega
def stepF (al : Str) (mv : List (List Int)) (p : Int) (c : Nat) : Int := (mv.getD p.toNat []).getD (sIdx al c) 0
def roomF (al : Str) (mv : List (List Int)) (cs : List Nat) : Int := cs.foldl (stepF al mv) 0
/-- the room lies within -/
theorem step_in {al : Str} {mv : List (List Int)} {g : List Int} {p : Int} {c : Nat} (M : Mach al.length mv g) (h0 : 0 ≤ p) (h1 : p < (mv.length : Int)) (hc : c ∈ al.cps.toList) :
    ∃ r, mv[p.toNat]? = some r ∧ r[sIdx al c]? = some (stepF al mv p c) ∧ 0 ≤ stepF al mv p c ∧ stepF al mv p c < (mv.length : Int) := by
  have hp : p.toNat < mv.length := by omega
  obtain ⟨_, _, hi⟩ := sIdx_at hc
  have hr := M.row _ (List.getElem_mem hp)
  have e1 : mv.getD p.toNat [] = mv[p.toNat] := by rw [List.getD_eq_getElem?_getD, List.getElem?_eq_getElem hp]; rfl
  have h2 : sIdx al c < mv[p.toNat].length := by rw [hr.1]; exact hi
  have e2 : stepF al mv p c = mv[p.toNat][sIdx al c] := by
    unfold stepF
    rw [e1, List.getD_eq_getElem?_getD, List.getElem?_eq_getElem h2]
    rfl
  refine ⟨_, List.getElem?_eq_getElem hp, by rw [e2]; exact List.getElem?_eq_getElem h2, ?_⟩
  rw [e2]
  exact hr.2 _ (List.getElem_mem h2)
theorem roomF_snoc (al : Str) (mv : List (List Int)) (cs : List Nat) (c : Nat) : roomF al mv (cs ++ [c]) = stepF al mv (roomF al mv cs) c := by
  unfold roomF
  rw [List.foldl_append]
  rfl
/-- an item of a machine's moves -/
theorem Rp.tupItem {S : List Addr} {H : Hp} {v : V} {ds : List D} (r : Rp S H v (.tup ds)) : ∃ a xs, v = .ref a ∧ a ∉ S ∧ H a = some (.tup xs) ∧ Rps S H xs ds := by
  cases r with
  | tup n e rs => exact ⟨_, _, rfl, n, e, rs⟩
theorem take_snoc {α : Type} {l : List α} {i : Nat} {c : α} (h : l[i]? = some c) : l.take (i + 1) = l.take i ++ [c] := by
  rw [List.take_add_one, h]
  rfl

/-! ## methods that may let exceptions out; in, len, ==, != of an object with own defs; staticmethods -/
section
open PyProof.Rows
variable {X : Cx} {k j : Nat} {f C : Addr} {fd : FuncData} {ps : List Str} {sp : Sp} {E : L2.St → XK} {m : Str} {pos apos : Pos} {e o a b : Expr} {es : List Expr} {ta tb : TE} {t : TA}
/-- a method of the class at C -/
structure MetZ (P : Program) (w : World) (K : PySem.W.Frag) (mg : Str → Option Value) (base : Heap) (k : Nat) (C : Addr) (m : Str) (sp : Sp) : Prop where
  ex : ∃ (f : Addr) (fd : FuncData) (ps : List Str), Cls K C ∧ Meth K C m f ∧ FnZ (fun _ => True) P w K mg base k f fd ps sp ∧ Binds K fd ps []
theorem metZ {P : Program} {w : World} {K : PySem.W.Frag} {mg : Str → Option Value} {base : Heap} {qual : Str} {st : Stmt} {N : List Str} (c : Cls K C) (me : Meth K C m f) (F : C8.Fun K m qual st f fd) (b : Binds K fd ps []) (S : FnScope N ps (C8.fnScope st)) (len : ∀ vs H Q E, sp vs H Q E → vs.length = ps.length)
    (hbody : ∀ (cdv : Value) (A : Around) (outer : List Env) (s : Shared) (H : Hp) (vs : List V) (Q : VK) (E : XK), Room k (A.deeper (envOfC qual (C8.fnScope st) s.heap.objs.size f cdv)) → sp vs H Q E →
      ∃ t, PSs (cxG true [] (L2N.CX P w) P w K mg base N qual (C8.fnScope st) f cdv A outer s H E) (C8.fnBody st) t ∧ t { nx := fun _ H' => Q .non H', rt := Q } (L2.start N vs) H) : MetZ P w K mg base (k + 1) C m sp :=
  ⟨f, fd, ps, c, me, fn_ofZ (fun _ _ _ => trivial) F S len (fun cdv A outer s H vs Q E _ hr h => hbody cdv A outer s H vs Q E hr h), b⟩
/-- o.m(e, ..) -/
def tMetZ (C : Addr) (m : Str) (sp : Sp) (E : L2.St → XK) (ta : TE) (t : TA) : TE := fun σ H Q => ta σ H fun x H1 => ∃ a dx fs, x = .ref a ∧ H1 a = some (.ins C dx fs) ∧ fs.lookup m = none ∧ t σ H1 fun vs H2 => sp (x :: vs) H2 Q (E σ)
theorem pe_mtZ {pl : Sem Bool} (c : MetZ X.prog X.w X.K X.mg X.base k C m sp) (hr : Room j X.A) (hk : k ≤ j) (hx : ∀ σ, PassesAt (L2N.CX X.prog X.w) X σ (E σ)) (he : PE X o ta) (ha : PA X (e :: es) t)
    (hst : starEach (e :: es) X.env = (false, eval e X.env) :: starEach es X.env := by rfl) (hpl : (backTo pos (starEach es X.env)).any (·.1) = false := by rfl)
    (ht : eval (.Call (.Attribute o m apos) (e :: es) [] pos) X.env = (do
      let ov ← eval o X.env
      standAt apos.atName
      let (f, first) ← holding [ov] (getMethod ov m pl)
      callWith pos f first (backTo pos (starEach (e :: es) X.env)) (backToKw pos (keywordEach [] X.env))) := by rfl) :
    PE X (.Call (.Attribute o m apos) (e :: es) [] pos) (tMetZ C m sp E ta t) := by
  obtain ⟨f, fd, ps, hc, hm, F, b⟩ := c.ex
  refine ⟨fun pins s σ H Q I h => PySem.W.methodCall_KW (pl := pl) (thn (he.run pins s σ H _ I h) fun u s1 hh => ?_) ht⟩
  obtain ⟨x, H1, I1, rx, a, dx, fs, rfl, ea, l, q⟩ := hh
  cases (show u = Value.ref a from rx)
  refine getmeth_ok I1 ea hc hm l (PySem.W.callWith_K (first := [.ref a]) (h₀ := X.base) I.ok.mod.kin hm.kp (thn (ha.run pos pins s1 σ H1 _ I1 q) fun us s2 hh2 => ?_) hst hpl)
  obtain ⟨vs, H2, I2, r, q2⟩ := hh2
  exact ⟨I2.kIn, run_fnZ (us := .ref a :: us) (vs := .ref a :: vs) F trivial (hr.mono hk) b (hx σ) I2 (.cons rfl r) q2⟩
/-- v in o -/
def tInZ (C : Addr) (sp : Sp) (E : L2.St → XK) (ta tb : TE) : TE := fun σ H Q => ta σ H fun v H1 => tb σ H1 fun x H2 => ∃ a dx fs, x = .ref a ∧ H2 a = some (.ins C dx fs) ∧ sp [x, v] H2 (fun r H3 => ∃ d : Bool, r = .bl d ∧ Q (.bl d) H3) (E σ)
theorem pe_inZ (c : MetZ X.prog X.w X.K X.mg X.base k C "__contains__" sp) (hr : Room j X.A) (hk : k ≤ j) (hx : ∀ σ, PassesAt (L2N.CX X.prog X.w) X σ (E σ)) (ha : PE X a ta) (hb : PE X b tb) (hm : behindInMarks .In b = false := by rfl) :
    PE X (.Compare a [.In] [b] pos) (tInZ C sp E ta tb) := by
  obtain ⟨f, fd, ps, hc, hme, F, bd⟩ := c.ex
  refine ⟨fun pins s σ H Q I h => wpAny_Compare1 (thn (ha.run pins s σ H _ I h) fun v s1 hh => ?_) hm⟩
  obtain ⟨y, H1, I1, ry, q1⟩ := hh
  refine thn (hb.run pins s1 σ H1 _ I1 q1) fun u s2 hh2 => ?_
  obtain ⟨x, H2, I2, rx, p, dx, fs, rfl, ea, q⟩ := hh2
  cases (show u = Value.ref p from rx)
  obtain ⟨mA, J, _⟩ := ins_get I2.hok ea
  obtain ⟨od, J, _⟩ := J.look
  obtain ⟨mf, hF⟩ := I2.fr
  refine PySem.W.in_K hF I2.ok.mod.kin J hme.at_ hme.fn (thn (run_fnZ (us := [.ref p, v]) (vs := [.ref p, y]) F trivial (hr.mono hk) bd (hx σ) I2 (.cons rfl (.cons ry .nil)) q) fun r s3 hh3 => ?_)
  obtain ⟨z, H3, I3, rz, d, rfl, q3⟩ := hh3
  cases (show r = Value.bool d from rz)
  exact wpAny_truthy_bool ⟨.bl d, H3, I3, rfl, q3⟩
/-- a def (no exception) run somewhere below, the frames being ours -/
theorem run_at {A : Around} {pins : List (Addr × Obj)} {σ : L2.St} {H : Hp} {s : Shared} {Q : VK} {us : List Value} {vs : List V} {E : Value → Shared → Prop} (F : FnOk X.prog X.w X.K X.mg X.base C8.CX0 k f fd ps sp) (hr : Room k A) (hfr : A.frames = X.A.frames) (hb : Binds X.K fd ps [])
    (I : Inv X pins σ H s) (r : Vals vs us) (h : sp vs H Q C8.E0) : wpAny (model X.prog X.w) A (call (.ref f) us) (EP X pins σ Q) E s := by
  have hl : (us ++ []).length = ps.length := by rw [List.append_nil, ← r.length]; exact F.len _ _ _ _ h
  have b := hb s us I.kIn hl
  rw [List.append_nil] at b
  have e := I.env0
  refine wpAny_call (codeAny_mono (F.run A X.stack s H ⟨us, []⟩ us vs Q C8.E0 hr ⟨by rw [hfr]; exact e.frames, e.mod, e.bs, e.bsz, e.funs, e.frf, e.hok, e.bare⟩ b r h) ?_)
  rintro (er | fl) s2 hq
  · exact False.elim hq
  · match fl, hq with
    | .ret u, hq => exact I.after hq
    | .next, z => exact False.elim z
    | .brk, z => exact False.elim z
    | .cont, z => exact False.elim z
/-- len(o) -/
def rLenO (C : Addr) (sp : Sp) : List V → Hp → VK → Prop := fun xs H Q => ∃ a dx fs, xs = [.ref a] ∧ H a = some (.ins C dx fs) ∧ sp [.ref a] H (fun v H' => ∃ n : Nat, v = .int n ∧ n < 2 ^ 62 ∧ Q (.int n) H') C8.E0
theorem call_lenO (c : C8.Met X.prog X.w X.K X.mg X.base k C "__len__" sp []) (hr : Room j X.A) (hk : k + 1 ≤ j) : CallR X (.builtin "len") (rLenO C sp) := by
  obtain ⟨f, fd, ps, ds, hc, hme, F, bd, vd⟩ := c.ex
  cases vd
  intro pins s σ H xs us Q I r h
  obtain ⟨p, dx, fs, rfl, ea, q⟩ := h
  match r with
  | .cons ra .nil =>
    cases (show _ = Value.ref p from ra)
    obtain ⟨mA, J, _⟩ := ins_get I.hok ea
    obtain ⟨od, J, _⟩ := J.look
    obtain ⟨mf, hF⟩ := I.fr
    refine PySem.W.len_K hF I.ok.mod.kin J hme.at_ hme.fn (wpAny_mono (run_at (A := X.A.in1) (us := [.ref p]) (vs := [.ref p]) F (Room.in1 (hr.mono hk)) rfl bd I (.cons rfl .nil) q) (fun v s2 hh => ?_) fun _ _ z => z)
    obtain ⟨z, H', I', rz, n, rfl, hn, q'⟩ := hh
    obtain ⟨tk, rfl⟩ := rz
    exact ⟨⟨by omega, by omega⟩, .int n, H', I'.tok _, ⟨_, rfl⟩, q'⟩
/-- what the operand's type says -/
theorem looks_ty {pins : List (Addr × Obj)} {σ : L2.St} {H : Hp} {s : Shared} {x : V} {u t : Value} (I : Inv X pins σ H s) (rx : RelV x u) (ty : TyX X.K H x t) : PySem.W.Looks (model X.prog X.w) s.heap (typeOf u) t := by
  obtain ⟨P, Z, p, _⟩ := kit_of I rx ty
  exact Z.ty _ _ I.kIn p
/-- o == v, o != v -/
def rEqO (K : PySem.W.Frag) (C : Addr) (sp : Sp) (neg : Bool) : R2 := fun x y H Q => ∃ a dx fs t, x = .ref a ∧ H a = some (.ins C dx fs) ∧ TyX K H y t ∧ PySem.W.notFirst K C t = true ∧ sp [x, y] H (fun r H' => ∃ d : Bool, r = .bl d ∧ Q (.bl (if neg then !d else d)) H') C8.E0
theorem op_eqO (c : C8.Met X.prog X.w X.K X.mg X.base k C "__eq__" sp []) (hr : Room j X.A) (hk : k ≤ j) : OpR X (compareOp .Eq) (rEqO X.K C sp false) := by
  obtain ⟨f, fd, ps, ds, hc, hme, F, bd, vd⟩ := c.ex
  cases vd
  intro pins s σ H x y v u Q I rx ry h
  obtain ⟨p, dx, fs, t, rfl, ea, ty, hn, q⟩ := h
  cases (show v = Value.ref p from rx)
  obtain ⟨mA, J, _⟩ := ins_get I.hok ea
  obtain ⟨od, J, _⟩ := J.look
  obtain ⟨mf, hF⟩ := I.fr
  have hr1 := hr.mono hk
  refine PySem.W.cmp_K (op := .Eq) (tb := t) hr1.units0 hF I.ok.mod.kin J (looks_ty I ry ty) hn hme.at_ hme.fn (wpAny_mono (run_at (us := [.ref p, u]) (vs := [.ref p, y]) F hr1 rfl bd I (.cons rfl (.cons ry .nil)) q) (fun v s2 hh => ?_) fun _ _ z => z)
  obtain ⟨z, H', I', rz, d, rfl, q'⟩ := hh
  cases (show v = Value.bool d from rz)
  exact ⟨.bl d, H', I', rfl, q'⟩
end
namespace NeX
open PySem PySem.W PySem.Calls PyProof.Rows
variable {prog : Program} {w : World} {A : Around} {E : Value → Shared → Prop} {s : Shared} {K : Frag} {x C L f : Addr} {h₀ : Heap} {m : Str → Option Value} {ox : Obj} {od : Option Obj} {b tb : Value}
theorem ne_K {Q : Value → Shared → Prop} (hu : A.units + 2 < cLine) (F : Fr h₀ L s.heap m) (X₀ : K.In h₀) (I : InstAt s.heap x ox C od) (hb : Looks (model prog w) s.heap (typeOf b) tb) (hn : notFirst K C tb = true)
    (hne : findIn K (.ref C) "__ne__" = some (some (.builtin "object.__ne__"))) (hm : mroIn K C (.type "object") = some true) (hs : findIn K (.ref C) "__eq__" = some (some (.ref f))) (hf : isFn K (.ref f) = true)
    (h : wpAny (model prog w) A.in1 (call (.ref f) [.ref x, b]) (fun v s' => ∃ d : Bool, v = .bool d ∧ Q (.bool (!d)) s') E s) : wpAny (model prog w) A (richCompare .NotEq (.ref x) b) Q E s := by
  have X := X₀.keeps F.keep
  have one : wpAny (model prog w) A (tryCompare (.ref x) (cmpInfo .NotEq).2.1 b) (fun r s' => ∃ v, r = some v ∧ Q v s') E s := by
    unfold tryCompare
    have body : wpAny (model prog w) A (call (.builtin "object.__ne__") ([.ref x] ++ [b])) (fun v s' => ∃ d : Bool, v = .bool d ∧ Q (.bool d) s') E s := by
      refine wpAny_call (codeAny_call_builtin PySem.F.cmp_object.ne.plain PySem.F.cmpEntry_ne (check_slot PySem.F.cmpKind_ne PySem.F.cmpSplit_ne (I.type.andThen (looks_mroIn X hm)) (PySem.F.cmpArgs_ne _ _) ?_))
      show wpAny _ A.in1 (Builtin.«object.__ne__» ⟨[.ref x, b], []⟩) _ _ _
      unfold Builtin.«object.__ne__»
      refine wpAny_bind (wpAny_of_eq (a := ((Value.ref x : Value), [b])) (by first | rfl | (simp only [slotArgs]; rfl)) ?_)
      refine wpAny_bind (wpAny_cRoomFor (show A.in1.units < cLine by show A.units + 1 < cLine; omega) ?_)
      refine wpAny_bind (ifBound_K X I hs hf (wpAny_mono h (fun v s' hv => ?_) fun _ _ z => z))
      obtain ⟨d, rfl, q⟩ := hv
      exact wpAny_bind (wpAny_truthy_bool (wpAny_pure ⟨!d, rfl, q⟩))
    simp only [callSpecialIfBound?, bindSpecialIfBound?]
    refine wpAny_bind (wpAny_holding (wpAny_bind (wpAny_bind (wpAny_bind (I.type.here ((looks_findIn X hne).here ?_))))))
    simp only [PySem.F.cmp_object.ne.bind]
    refine wpAny_bind (wpAny_askSetting (wpAny_ite ?_))
    split
    · refine wpAny_bind (wpAny_pure (wpAny_pure ?_))
      refine wpAny_bind (wpAny_mono body (fun v s' hv => ?_) fun _ _ z => z)
      obtain ⟨d, rfl, q⟩ := hv
      exact wpAny_pure (wpAny_pure ⟨_, rfl, q⟩)
    · refine wpAny_tryCatch (wpAny_bind (wpAny_pure (wpAny_pure ?_)))
      refine wpAny_bind (wpAny_mono body (fun v s' hv => ?_) fun _ _ z => z)
      obtain ⟨d, rfl, q⟩ := hv
      exact wpAny_pure (wpAny_pure ⟨_, rfl, q⟩)
  unfold richCompare
  simp only [oneThing_ref]
  refine wpAny_holding (wpAny_bind (wpAny_cRoomFor (show A.units < cLine by omega) ?_))
  refine wpAny_bind (I.type.here (wpAny_bind (hb.here ?_)))
  have last : wpAny (model prog w) A (tryCompare (.ref x) (cmpInfo .NotEq).2.1 b) (fun r s' => ∃ v, r = some v ∧ Q v s') E s := one
  split
  · rename_i q
    have e : subIn K tb (.ref C) = some false := by
      have hn' : (tb == .ref C || subIn K tb (.ref C) == some false) = true := hn
      rw [Bool.or_eq_true] at hn'
      rcases hn' with e | e
      · rw [beq_iff_eq.mp e] at q
        simp at q
      · exact beq_iff_eq.mp e
    refine wpAny_bind ((looks_subIn X e).here ?_)
    simp only [Bool.false_eq_true, if_false]
    refine wpAny_bind (wpAny_mono last (fun r s' hr => ?_) fun _ _ z => z)
    obtain ⟨v, rfl, hq⟩ := hr
    exact wpAny_pure hq
  · refine wpAny_bind (wpAny_pure ?_)
    simp only [Bool.false_eq_true, if_false]
    refine wpAny_bind (wpAny_mono last (fun r s' hr => ?_) fun _ _ z => z)
    obtain ⟨v, rfl, hq⟩ := hr
    exact wpAny_pure hq
end NeX
section
open PyProof.Rows
variable {X : Cx} {k j : Nat} {C : Addr} {sp : Sp}
/-- what of the text != must have -/
structure NeC (K : PySem.W.Frag) (C : Addr) : Prop where
  ne : PySem.W.findIn K (.ref C) "__ne__" = some (some (.builtin "object.__ne__"))
  mo : PySem.W.mroIn K C (.type "object") = some true
theorem op_neO (n : NeC X.K C) (c : C8.Met X.prog X.w X.K X.mg X.base k C "__eq__" sp []) (hr : Room j X.A) (hk : k + 1 ≤ j) : OpR X (compareOp .NotEq) (rEqO X.K C sp true) := by
  obtain ⟨f, fd, ps, ds, hc, hme, F, bd, vd⟩ := c.ex
  cases vd
  intro pins s σ H x y v u Q I rx ry h
  obtain ⟨p, dx, fs, t, rfl, ea, ty, hn, q⟩ := h
  cases (show v = Value.ref p from rx)
  obtain ⟨mA, J, _⟩ := ins_get I.hok ea
  obtain ⟨od, J, _⟩ := J.look
  obtain ⟨mf, hF⟩ := I.fr
  have hu := hr.units
  refine NeX.ne_K (tb := t) (by omega) hF I.ok.mod.kin J (looks_ty I ry ty) hn n.ne n.mo hme.at_ hme.fn (wpAny_mono (run_at (A := X.A.in1) (us := [.ref p, u]) (vs := [.ref p, y]) F (Room.in1 (hr.mono hk)) rfl bd I (.cons rfl (.cons ry .nil)) q) (fun v s2 hh => ?_) fun _ _ z => z)
  obtain ⟨z, H', I', rz, d, rfl, q'⟩ := hh
  cases (show v = Value.bool d from rz)
  exact ⟨d, rfl, .bl (!d), H', I', rfl, q'⟩
end
/-! ### C.m(e, ..), m a staticmethod -/
section
open PyProof.Rows
variable {X : Cx} {k j : Nat} {C p g : Addr} {fd : FuncData} {ps : List Str} {sp : Sp} {E : L2.St → XK} {m : Str} {pos apos : Pos} {o e : Expr} {es : List Expr} {ta : TE} {t : TA} {mc : Value}
structure StZ (P : Program) (w : World) (K : PySem.W.Frag) (mg : Str → Option Value) (base : Heap) (k : Nat) (C : Addr) (m : Str) (sp : Sp) : Prop where
  ex : ∃ (p g : Addr) (fd : FuncData) (ps : List Str) (mc : Value) (rest : List Value), ClX.CRead K C mc ∧ PySem.W.findCls K (.ref C) mc m = some (.get (.builtin "staticmethod.__get__") (.ref p) .none (.ref C)) ∧ PySem.W.recIn K p "staticmethod" = some (.ref g :: rest) ∧
    FnZ (fun _ => True) P w K mg base k g fd ps sp ∧ PySem.W.keepIn K (.ref g) = true ∧ Binds K fd ps []
def tStZ (C : Addr) (sp : Sp) (E : L2.St → XK) (ta : TE) (t : TA) : TE := fun σ H Q => ta σ H fun x H1 => x = .ref C ∧ t σ H1 fun vs H2 => sp vs H2 Q (E σ)
theorem pe_stZ {pl : Sem Bool} (c : StZ X.prog X.w X.K X.mg X.base k C m sp) (hr : Room j X.A) (hk : k ≤ j) (hx : ∀ σ, PassesAt (L2N.CX X.prog X.w) X σ (E σ)) (he : PE X o ta) (ha : PA X (e :: es) t)
    (hst : starEach (e :: es) X.env = (false, eval e X.env) :: starEach es X.env := by rfl) (hpl : (backTo pos (starEach es X.env)).any (·.1) = false := by rfl)
    (ht : eval (.Call (.Attribute o m apos) (e :: es) [] pos) X.env = (do
      let ov ← eval o X.env
      standAt apos.atName
      let (f, first) ← holding [ov] (getMethod ov m pl)
      callWith pos f first (backTo pos (starEach (e :: es) X.env)) (backToKw pos (keywordEach [] X.env))) := by rfl) :
    PE X (.Call (.Attribute o m apos) (e :: es) [] pos) (tStZ C sp E ta t) := by
  obtain ⟨p, g, fd, ps, mc, rest, r, hf, hp, F, kp, b⟩ := c.ex
  refine ⟨fun pins s σ H Q I h => PySem.W.methodCall_KW (pl := pl) (thn (he.run pins s σ H _ I h) fun u s1 hh => ?_) ht⟩
  obtain ⟨x, H1, I1, rx, rfl, q⟩ := hh
  cases (show u = Value.ref C from rx)
  refine PySem.W.method_cls I1.kIn r.ga (PySem.W.cls_bind I1.kIn r.rd hf (wpAny_call (PySem.W.sm_get (s := { s1 with toks := s1.toks + 1 }) I1.kIn hp (PySem.W.handed_on rfl ?_))))
  have I1 := I1.tok (s1.toks + 1)
  refine PySem.W.callWith_K (first := []) (h₀ := X.base) I1.ok.mod.kin kp (thn (ha.run pos pins _ σ H1 _ I1 q) fun us s2 hh2 => ?_) hst hpl
  obtain ⟨vs, H2, I2, rv, q2⟩ := hh2
  exact ⟨I2.kIn, run_fnZ F trivial (hr.mono hk) b (hx σ) I2 rv q2⟩
end

/-! ## == of data -/
mutual
def D.py : D → PyData
  | .non => .none
  | .bl b => .bool b
  | .int i => .int i
  | .str x => .str x
  | .lst ds => .list (D.pys ds)
  | .tup ds => .tuple (D.pys ds)
  | .dct => .none
def D.pys : List D → List PyData
  | [] => []
  | d :: ds => d.py :: D.pys ds
end
mutual
/-- ints, texts, None, lists and tuples of such -/
def D.clean : D → Bool
  | .non => true
  | .int _ => true
  | .str _ => true
  | .lst ds => D.cleans ds
  | .tup ds => D.cleans ds
  | .bl _ => false
  | .dct => false
def D.cleans : List D → Bool
  | [] => true
  | d :: ds => d.clean && D.cleans ds
end
mutual
theorem Rp.dp {K : PySem.W.Frag} {S : List Addr} {H : Hp} : ∀ {v : V} {d : D}, Rp S H v d → d.clean = true → Dp K H v d.py
  | _, _, .non, _ => .non
  | _, _, .int i, _ => .int i
  | _, _, .str x, _ => .str x
  | _, _, .lst _ e r, h => .lst (SqL.of e) (Rps.dp r h)
  | _, _, .tup _ e r, h => .tup (.inl (.inl e)) (Rps.dp r h)
  | _, _, .bl b, h => by cases (show false = true from h)
  | _, _, .dct _ _, h => by cases (show false = true from h)
theorem Rps.dp {K : PySem.W.Frag} {S : List Addr} {H : Hp} : ∀ {vs : List V} {ds : List D}, Rps S H vs ds → D.cleans ds = true → DpAll K H vs (D.pys ds)
  | _, _, .nil, _ => .nil
  | _, _, .cons r t, h => by
    have h' := (Bool.and_eq_true_iff.mp h)
    exact .cons (Rp.dp r h'.1) (Rps.dp t h'.2)
end
mutual
theorem eqv_py : ∀ (a b : D), a.clean = true → b.clean = true → (PyData.eqv a.py b.py = true ↔ a = b)
  | .non, b, _, hb => by cases b <;> simp [D.py, PyData.eqv] <;> cases hb
  | .int i, b, _, hb => by cases b <;> simp [D.py, PyData.eqv] <;> cases hb
  | .str x, b, _, hb => by cases b <;> simp [D.py, PyData.eqv] <;> cases hb
  | .lst ds, b, ha, hb => by
    cases b with
    | lst es =>
      have h := eqvs_py ds es ha hb
      simp only [D.py, PyData.eqv, D.lst.injEq]
      exact h
    | _ => simp [D.py, PyData.eqv] <;> cases hb
  | .tup ds, b, ha, hb => by
    cases b with
    | tup es =>
      have h := eqvs_py ds es ha hb
      simp only [D.py, PyData.eqv, D.tup.injEq]
      exact h
    | _ => simp [D.py, PyData.eqv] <;> cases hb
  | .bl b, _, h, _ => by cases (show false = true from h)
  | .dct, _, h, _ => by cases (show false = true from h)
theorem eqvs_py : ∀ (as bs : List D), D.cleans as = true → D.cleans bs = true → (PyData.eqvAll (D.pys as) (D.pys bs) = true ↔ as = bs)
  | [], [], _, _ => by simp [D.pys, PyData.eqvAll]
  | [], _ :: _, _, _ => by simp [D.pys, PyData.eqvAll]
  | _ :: _, [], _, _ => by simp [D.pys, PyData.eqvAll]
  | a :: as, b :: bs, ha, hb => by
    have h1 := Bool.and_eq_true_iff.mp ha
    have h2 := Bool.and_eq_true_iff.mp hb
    simp only [D.pys, PyData.eqvAll, Bool.and_eq_true, List.cons.injEq]
    rw [eqv_py a b h1.1 h2.1, eqvs_py as bs h1.2 h2.2]
end
theorem pys_eq : ∀ ds : List D, D.pys ds = ds.map D.py
  | [] => rfl
  | d :: ds => by rw [List.map_cons, ← pys_eq ds]; rfl
theorem cleans_eq : ∀ ds : List D, D.cleans ds = ds.all D.clean
  | [] => rfl
  | d :: ds => by rw [List.all_cons, ← cleans_eq ds]; rfl
/-- not nested deeply -/
def D.flat2 (d : D) : Prop := d.py.depth ≤ 64
theorem depth_all {n : Nat} : ∀ ds : List PyData, (∀ d ∈ ds, d.depth ≤ n) → PyData.depthAll ds ≤ n
  | [], _ => Nat.zero_le _
  | d :: ds, h => by
    have h1 := h d (List.mem_cons_self ..)
    have h2 := depth_all ds fun e he => h e (List.mem_cons_of_mem _ he)
    simp only [PyData.depthAll]
    omega
/-- d is data nested below n -/
inductive Low : Nat → D → Prop
  | non : Low 0 .non
  | int (i : Int) : Low 0 (.int i)
  | str (x : Str) (h : PyData.strOk x = true) : Low 0 (.str x)
  | lst {n : Nat} {ds : List D} : (∀ d ∈ ds, Low n d) → Low (n + 1) (.lst ds)
  | tup {n : Nat} {ds : List D} : (∀ d ∈ ds, Low n d) → Low (n + 1) (.tup ds)
theorem Low.depth : ∀ {n : Nat} {d : D}, Low n d → d.py.depth ≤ n
  | _, _, .non => by simp [D.py, PyData.depth]
  | _, _, .int _ => by simp [D.py, PyData.depth]
  | _, _, .str _ _ => by simp [D.py, PyData.depth]
  | _, _, .lst (n := n) (ds := ds) h => by
    have z := depth_all (n := n) (D.pys ds) (fun e he => by
      rw [pys_eq] at he
      obtain ⟨d, hd, rfl⟩ := List.mem_map.mp he
      exact (h d hd).depth)
    simp only [D.py, PyData.depth]
    omega
  | _, _, .tup (n := n) (ds := ds) h => by
    have z := depth_all (n := n) (D.pys ds) (fun e he => by
      rw [pys_eq] at he
      obtain ⟨d, hd, rfl⟩ := List.mem_map.mp he
      exact (h d hd).depth)
    simp only [D.py, PyData.depth]
    omega
theorem Low.clean : ∀ {n : Nat} {d : D}, Low n d → d.clean = true
  | _, _, .non => rfl
  | _, _, .int _ => rfl
  | _, _, .str _ _ => rfl
  | _, _, .lst (ds := ds) h => by
    show D.cleans ds = true
    rw [cleans_eq, List.all_eq_true]
    exact fun d hd => (h d hd).clean
  | _, _, .tup (ds := ds) h => by
    show D.cleans ds = true
    rw [cleans_eq, List.all_eq_true]
    exact fun d hd => (h d hd).clean
theorem lays_all : ∀ ds : List PyData, (∀ d ∈ ds, d.canLay0 = true) → PyData.canLayAll0 ds = true
  | [], _ => by simp [PyData.canLayAll0]
  | d :: ds, h => by simp [PyData.canLayAll0, h d (List.mem_cons_self ..), lays_all ds fun e he => h e (List.mem_cons_of_mem _ he)]
theorem Low.lay : ∀ {n : Nat} {d : D}, Low n d → d.py.canLay0 = true
  | _, _, .non => by simp [D.py, PyData.canLay0]
  | _, _, .int _ => by simp [D.py, PyData.canLay0]
  | _, _, .str _ h => by simpa [D.py, PyData.canLay0] using h
  | _, _, .lst (ds := ds) h => by
    have z := lays_all (D.pys ds) (fun e he => by
      rw [pys_eq] at he
      obtain ⟨d, hd, rfl⟩ := List.mem_map.mp he
      exact (h d hd).lay)
    simpa [D.py, PyData.canLay0] using z
  | _, _, .tup (ds := ds) h => by
    have z := lays_all (D.pys ds) (fun e he => by
      rw [pys_eq] at he
      obtain ⟨d, hd, rfl⟩ := List.mem_map.mp he
      exact (h d hd).lay)
    simpa [D.py, PyData.canLay0] using z
theorem low_rowT (r : List Int) : Low 1 (rowT r) := .tup fun d hd => by
  obtain ⟨i, _, rfl⟩ := List.mem_map.mp hd
  exact .int i
theorem low_rowD (r : List Int) : Low 1 (rowD r) := .lst fun d hd => by
  obtain ⟨i, _, rfl⟩ := List.mem_map.mp hd
  exact .int i
theorem low_mvT (m : List (List Int)) : Low 2 (mvT m) := .tup fun d hd => by
  obtain ⟨i, _, rfl⟩ := List.mem_map.mp hd
  exact low_rowT i
theorem low_mvD (m : List (List Int)) : Low 2 (mvD m) := .lst fun d hd => by
  obtain ⟨i, _, rfl⟩ := List.mem_map.mp hd
  exact low_rowD i
theorem map_inj {α β : Type} {f : α → β} (h : ∀ a b, f a = f b → a = b) : ∀ {x y : List α}, x.map f = y.map f → x = y
  | [], [], _ => rfl
  | [], _ :: _, e => by cases e
  | _ :: _, [], e => by cases e
  | a :: x, b :: y, e => by
    rw [List.map_cons, List.map_cons] at e
    injection e with e1 e2
    rw [h a b e1, map_inj h e2]
theorem rowT_inj {a b : List Int} (h : rowT a = rowT b) : a = b := map_inj (fun _ _ e => D.int.inj e) (D.tup.inj h)
theorem mvT_inj {a b : List (List Int)} (h : mvT a = mvT b) : a = b := map_inj (fun _ _ e => rowT_inj e) (D.tup.inj h)
theorem rowD_inj {a b : List Int} (h : rowD a = rowD b) : a = b := map_inj (fun _ _ e => D.int.inj e) (D.lst.inj h)
theorem mvD_inj {a b : List (List Int)} (h : mvD a = mvD b) : a = b := map_inj (fun _ _ e => rowD_inj e) (D.lst.inj h)
/-- x == y, x != y of low data -/
theorem eq_low {K : PySem.W.Frag} {S T : List Addr} {H : Hp} {x y : V} {a b : D} {n m : Nat} {Q : VK} (rx : Rp S H x a) (ry : Rp T H y b) (la : Low n a) (lb : Low m b) (hn : n ≤ 64) (hm : m ≤ 64) (p : Prop) [Decidable p] (hp : a = b ↔ p) (q : Q (.bl (decide p)) H) : rEqD K x y H Q := by
  refine ⟨a.py, b.py, rx.dp la.clean, ry.dp lb.clean, ?_, ?_, ?_⟩
  · unfold SeqAt.shaped
    rw [la.lay, decide_eq_true (Nat.le_trans la.depth hn)]
    rfl
  · unfold SeqAt.shaped
    rw [lb.lay, decide_eq_true (Nat.le_trans lb.depth hm)]
    rfl
  · have e : PyData.eqv a.py b.py = decide p := by
      rw [Bool.eq_iff_iff, eqv_py a b la.clean lb.clean, hp, decide_eq_true_iff]
    rw [e]
    exact q
theorem ne_low {K : PySem.W.Frag} {S T : List Addr} {H : Hp} {x y : V} {a b : D} {n m : Nat} {Q : VK} (rx : Rp S H x a) (ry : Rp T H y b) (la : Low n a) (lb : Low m b) (hn : n ≤ 64) (hm : m ≤ 64) (p : Prop) [Decidable p] (hp : a = b ↔ p) (q : Q (.bl (!decide p)) H) : rNeD K x y H Q := by
  refine ⟨a.py, b.py, rx.dp la.clean, ry.dp lb.clean, ?_, ?_, ?_⟩
  · unfold SeqAt.shaped
    rw [la.lay, decide_eq_true (Nat.le_trans la.depth hn)]
    rfl
  · unfold SeqAt.shaped
    rw [lb.lay, decide_eq_true (Nat.le_trans lb.depth hm)]
    rfl
  · have e : PyData.eqv a.py b.py = decide p := by
      rw [Bool.eq_iff_iff, eqv_py a b la.clean lb.clean, hp, decide_eq_true_iff]
    rw [e]
    exact q
/-- an int among ints -/
theorem inV_ints (z : Int) (g : List Int) : inV (.int z) (g.map V.int) = decide (z ∈ g) := by
  unfold inV
  induction g with
  | nil => rfl
  | cons a g ih =>
    rw [List.map_cons, List.any_cons, ih]
    rw [Bool.eq_iff_iff, Bool.or_eq_true, decide_eq_true_iff, decide_eq_true_iff, List.mem_cons]
    have e : eqV (V.int a) (V.int z) = true ↔ z = a := by
      simp [eqV]
      exact eq_comm
    rw [e]
theorem flat_ints (g : List Int) : (g.map V.int).all flatV = true := by
  rw [List.all_eq_true]
  intro x hx
  obtain ⟨i, _, rfl⟩ := List.mem_map.mp hx
  rfl

/-! ## comprehensions, the items told by a word on values and heap -/
theorem lc_G {A S : List Addr} {J : It} {n : Nat} {G : Hp → Prop} {Y : Nat → Hp → V → Hp → Prop} {Xp : Nat → V → Prop} {j : Nat} {tt : TT} {te : TE} {vs : List Nat} {σ : L2.St} {H1 : Hp} {L : Addr} {Qd : Hp → Prop}
    (I : Nat → List V → Hp → Prop) (w : Walk J n G Y) (hY : ∀ i H x H', i < n → Y i H x H' → H' = H ∧ Xp i x) (W : Wd A S H1) (hD : H1 L = none) (hn : n ≤ 100000)
    (hG : ∀ H, Keep (L :: A) H1 H → G H) (h0 : ∀ H, I 0 [] H) (hl : ∀ i ys H, I i ys H → ys.length ≤ i) (hK : ∀ i ys H H', Keep (L :: A) H H' → I i ys H → I i ys H') (hw : ∀ x, wipe ((wipe σ vs).set j (some x)) vs = wipe σ vs)
    (hs : ∀ i ys x H, i < n → I i ys H → Xp i x → Wd A (L :: S) H → Keep (L :: A) H1 H → ∀ (Kt : V → Hp → Prop) (Kf : Hp → Prop),
      (∀ y H', Go A H H' → I (i + 1) (ys ++ [y]) H' → Kt y H') → (∀ H', Go A H H' → I (i + 1) ys H' → Kf H') →
      tt ((wipe σ vs).set j (some x)) H fun b H3 => if b = true then te ((wipe σ vs).set j (some x)) H3 Kt else Kf H3)
    (hd : ∀ ys H, I n ys H → Go A H1 H → H L = some (.lst ys) → Wd A (L :: S) H → Qd H) :
    ∃ W : Nat → Nat → Hp → Prop, (∃ m, W 0 m (upd H1 L (.lst []))) ∧ ∀ i m H, W i m H →
      (J.stop i H ∧ Qd H) ∨ (J.go i H ∧ ∃ Nx : Hp → Prop, (∀ H', Nx H' → ∃ m', m' < m ∧ W (i + 1) m' H') ∧ ∀ x H', J.yld i H x H' → gName j x (wipe σ vs) H' fun σ2 H2 => wipe σ2 vs = wipe σ vs ∧ tt σ2 H2 fun b H3 =>
        if b = true then te σ2 H3 fun y H4 => ∃ acc, H4 L = some (.lst acc) ∧ acc.length < sizeLine ∧ Nx (upd H4 L (.lst (acc ++ [y]))) else Nx H3) := by
  have nD : L ∉ S := W.fresh hD
  have nA : L ∉ A := fun q => nD (W.sub L q)
  have wd : ∀ {H : Hp} {ys : List V}, Keep (L :: A) H1 H → (∀ a ∈ A, Src H a) → H L = some (.lst ys) → Wd A (L :: S) H := fun {H ys} k hsr hDl => ⟨fun a ha => List.mem_cons_of_mem _ (W.sub a ha), hsr, fun a ha => by
    rcases List.mem_cons.mp ha with e | ha
    · rw [e]; exact ⟨_, hDl⟩
    · by_cases hm : a ∈ A
      · obtain ⟨x, s, c, q⟩ := hsr a hm
        exact ⟨_, q⟩
      · obtain ⟨o, e⟩ := W.ex a ha
        refine ⟨o, k a o (fun q => ?_) e⟩
        rcases List.mem_cons.mp q with q | q
        · rw [q, hD] at e; cases e
        · exact hm q⟩
  have kL : ∀ {H : Hp} {o : HO}, Keep (L :: A) H (upd H L o) := Keep.upd (List.mem_cons_self ..)
  refine lc_it w (fun i H => ∃ ys, I i ys H ∧ Keep (L :: A) H1 H ∧ (∀ a ∈ A, Src H a) ∧ H L = some (.lst ys)) ⟨[], h0 _, fun b o hb e => ?_, fun a ha => ?_, upd_same⟩ (fun i H _ p => ?_) (fun i x H H' hi p y => ?_) (fun H p => ?_)
  · rw [upd_ne (ne_of_none e hD)]
    exact e
  · obtain ⟨x, s, c, q⟩ := W.src a ha
    exact ⟨x, s, c, by rw [upd_ne (ne_of_none q hD)]; exact q⟩
  · obtain ⟨ys, _, k, _⟩ := p
    exact hG H k
  · obtain ⟨e1, hx⟩ := hY i H x H' hi y
    rw [e1]
    clear e1 y
    obtain ⟨ys, hI, k, hsr, hDl⟩ := p
    refine ⟨hw x, hs i ys x H hi hI hx (wd k hsr hDl) k _ _ (fun y H' g hI' => ?_) (fun H' g hI' => ?_)⟩
    · have e := g.keep L _ nA hDl
      refine ⟨ys, e, ?_, ys ++ [y], hK _ _ _ _ kL hI', ?_, ?_, upd_same⟩
      · have h2 := hl i ys H hI
        exact Nat.lt_of_lt_of_le (show ys.length < 100001 by omega) (by decide)
      · exact (k.trans (g.keep.mono fun a ha => List.mem_cons_of_mem _ ha)).trans kL
      · intro a ha
        obtain ⟨x, s, c, q⟩ := g.src hsr a ha
        exact ⟨x, s, c, by rw [upd_ne (fun z : a = L => nA (by rw [← z]; exact ha))]; exact q⟩
    · exact ⟨ys, hI', k.trans (g.keep.mono fun a ha => List.mem_cons_of_mem _ ha), g.src hsr, g.keep L _ nA hDl⟩
  · obtain ⟨ys, hI, k, hsr, hDl⟩ := p
    refine hd ys H hI ⟨fun b o hb e => k b o (fun q => ?_) e, fun _ => hsr⟩ hDl (wd k hsr hDl)
    rcases List.mem_cons.mp q with q | q
    · rw [q, hD] at e; cases e
    · exact hb q
/-- one by one -/
inductive Rws (P : V → List Int → Prop) : List V → List (List Int) → Prop
  | nil : Rws P [] []
  | cons {y : V} {r : List Int} {ys : List V} {rs : List (List Int)} : P y r → Rws P ys rs → Rws P (y :: ys) (r :: rs)
theorem Rws.snoc {P : V → List Int → Prop} {y : V} {r : List Int} (h : P y r) : ∀ {ys : List V} {rs : List (List Int)}, Rws P ys rs → Rws P (ys ++ [y]) (rs ++ [r])
  | _, _, .nil => .cons h .nil
  | _, _, .cons a t => .cons a (Rws.snoc h t)
theorem Rws.imp {P Q : V → List Int → Prop} (h : ∀ y r, P y r → Q y r) : ∀ {ys : List V} {rs : List (List Int)}, Rws P ys rs → Rws Q ys rs
  | _, _, .nil => .nil
  | _, _, .cons a t => .cons (h _ _ a) (Rws.imp h t)
theorem Rws.len {P : V → List Int → Prop} : ∀ {ys : List V} {rs : List (List Int)}, Rws P ys rs → ys.length = rs.length
  | _, _, .nil => rfl
  | _, _, .cons _ t => congrArg (· + 1) (Rws.len t)
theorem Rws.mem {P : V → List Int → Prop} : ∀ {ys : List V} {rs : List (List Int)}, Rws P ys rs → ∀ y ∈ ys, ∃ r, P y r
  | _, _, .nil, _, h => by cases h
  | _, _, .cons a t, y, h => by
    rcases List.mem_cons.mp h with e | h
    · rw [e]; exact ⟨_, a⟩
    · exact Rws.mem t y h
theorem Rws.data {S : List Addr} {H : Hp} : ∀ {ys : List V} {rs : List (List Int)}, Rws (fun y r => ∃ d, Rp S H y d ∧ d.seq? = some (r.map D.int)) ys rs → ∃ ds, Rps S H ys ds ∧ ds.map D.seq? = rs.map fun r => some (r.map D.int)
  | _, _, .nil => ⟨[], .nil, rfl⟩
  | _, _, .cons a t => by
    obtain ⟨d, h1, h2⟩ := a
    obtain ⟨ds, h3, h4⟩ := Rws.data t
    exact ⟨d :: ds, .cons h1 h3, by rw [List.map_cons, List.map_cons, h2, h4]⟩
section
open PyProof.Rows
/-- over the items of a list or tuple that stays, whatever else changes -/
def iSeqH (te : TE) : TI := fun σ H R => te σ H fun x H1 => ∃ a xs, x = .ref a ∧ (H1 a = some (.lst xs) ∨ H1 a = some (.tup xs)) ∧ ∀ (J : It) (G : Hp → Prop), Walk J xs.length G (YAt xs) → (∀ H2, H2 a = H1 a → G H2) → R J H1
theorem pi_seqH {X : Cx} {tg e : Expr} {te : TE} (he : PE X e te) : PI X tg e (iSeqH te) := by
  refine ⟨fun pins s σ H R I h => thn (he.run pins s σ H _ I h) fun v s1 hh => ?_⟩
  obtain ⟨x, H1, I1, r1, a, xs, rfl, hq, k⟩ := hh
  cases (show v = Value.ref a from r1)
  have fp : ∀ b ∈ [s1.heap.objs.size], FpOk X pins H1 b := fun b hb => by
    rw [List.mem_singleton.mp hb]
    exact I1.fpOk (Nat.le_refl _) (I1.hok.fresh (Nat.le_refl _))
  rcases hq with hq | hq
  · obtain ⟨its, rv, p, hz⟩ := I1.list (SqL.of hq)
    exact wpAny_pyIter_list p.isList ⟨_, _, _, _, H1, rfl, I1.kept (t' := s1.toks) fun b o e => Heap.get?_push_of_some _ e, turn_list a _, ⟨_, Heap.get?_push_size _ rfl, rfl, rfl⟩, fp, k _ _ walk_list fun H2 s => SqL.of (s.trans hq)⟩
  · obtain ⟨its, rv, p, hz⟩ := I1.tuple (show SqT X.K H1 a xs from .inl (.inl hq))
    exact wpAny_pyIter_tuple (show s1.heap.IsTuple a its.toArray from p) ⟨_, _, _, _, H1, rfl, I1.kept (t' := s1.toks) fun b o e => Heap.get?_push_of_some _ e, turn_tuple a _, ⟨_, Heap.get?_push_size _ rfl, rfl, rfl⟩, fp, k _ _ walk_tup fun H2 s => .inl (.inl (s.trans hq))⟩
end

/-! ## rows copied one by one: new lists, no two the same -/
structure Cps (H0 H : Hp) (L : Addr) (mv : List (List Int)) (i : Nat) (ys : List V) : Prop where
  ex : ∃ bs : List Addr, ys = bs.map V.ref ∧ bs.Nodup ∧ bs.length = i ∧ ∀ (j : Nat) (b : Addr), bs[j]? = some b → H0 b = none ∧ b ≠ L ∧ ∃ r : List Int, mv[j]? = some r ∧ H b = some (.lst (r.map V.int))
theorem Cps.zero {H0 H : Hp} {L : Addr} {mv : List (List Int)} : Cps H0 H L mv 0 [] := ⟨[], rfl, List.nodup_nil, rfl, fun j b h => by simp at h⟩
theorem Cps.len {H0 H : Hp} {L : Addr} {mv : List (List Int)} {i : Nat} {ys : List V} (h : Cps H0 H L mv i ys) : ys.length = i := by
  obtain ⟨bs, rfl, _, h, _⟩ := h
  rw [List.length_map, h]
theorem Cps.keep {H0 H H' : Hp} {L : Addr} {A : List Addr} {mv : List (List Int)} {i : Nat} {ys : List V} (hA : ∀ a ∈ A, ∃ o, H0 a = some o) (k : Keep (L :: A) H H') (h : Cps H0 H L mv i ys) : Cps H0 H' L mv i ys := by
  obtain ⟨bs, e, nd, hl, h⟩ := h
  refine ⟨bs, e, nd, hl, fun j b hb => ?_⟩
  obtain ⟨h1, h2, r, h3, h4⟩ := h j b hb
  refine ⟨h1, h2, r, h3, k b _ (fun hm => ?_) h4⟩
  rcases List.mem_cons.mp hm with e | hm
  · exact h2 e
  · obtain ⟨o, e⟩ := hA b hm
    rw [h1] at e
    cases e
theorem Cps.step {H0 H : Hp} {L b : Addr} {mv : List (List Int)} {i : Nat} {ys : List V} {r : List Int} (h : Cps H0 H L mv i ys) (hr : mv[i]? = some r) (hb : H b = none) (h0 : H0 b = none) (hL : b ≠ L) : Cps H0 (L2.upd H b (.lst (r.map V.int))) L mv (i + 1) (ys ++ [.ref b]) := by
  obtain ⟨bs, rfl, nd, hl, h⟩ := h
  have nb : ∀ c ∈ bs, c ≠ b := fun c hc e => by
    obtain ⟨j, hj⟩ := List.mem_iff_getElem?.mp hc
    obtain ⟨_, _, r2, _, h4⟩ := h j c hj
    rw [e, hb] at h4
    cases h4
  refine ⟨bs ++ [b], by rw [List.map_append]; rfl, ?_, by rw [List.length_append, hl]; rfl, fun j c hc => ?_⟩
  · rw [List.nodup_append]
    refine ⟨nd, by simp, fun x hx y hy => ?_⟩
    rw [List.mem_singleton.mp hy]
    exact nb x hx
  · by_cases hj : j < bs.length
    · rw [List.getElem?_append_left hj] at hc
      obtain ⟨h1, h2, r2, h3, h4⟩ := h j c hc
      exact ⟨h1, h2, r2, h3, by rw [upd_ne (nb c (List.mem_of_getElem? hc))]; exact h4⟩
    · rw [List.getElem?_append_right (by omega)] at hc
      have e : j = bs.length := by
        by_cases e : j - bs.length = 0
        · omega
        · rw [List.getElem?_eq_none (by simp; omega)] at hc
          cases hc
      subst e
      simp at hc
      subst hc
      exact ⟨h0, hL, r, by rw [hl]; exact hr, upd_same⟩
theorem Rps.of_get {S : List Addr} {H : Hp} : ∀ {xs : List V} {ds : List D}, xs.length = ds.length → (∀ (j : Nat) (y : V) (d : D), xs[j]? = some y → ds[j]? = some d → Rp S H y d) → Rps S H xs ds
  | [], [], _, _ => .nil
  | y :: xs, d :: ds, hl, h => .cons (h 0 y d rfl rfl) (Rps.of_get (by simpa using hl) fun j z e h1 h2 => h (j + 1) z e (by simpa using h1) (by simpa using h2))
/-- the copies stand for the rows; the one at j, and the others apart from it -/
theorem Cps.data {A S : List Addr} {H0 H : Hp} {L : Addr} {mv : List (List Int)} {ys : List V} (W : Wd A S H0) (h : Cps H0 H L mv mv.length ys) : Rps S H ys (mv.map rowD) := by
  refine Rps.of_get (by rw [h.len, List.length_map]) fun j y d h1 h2 => ?_
  obtain ⟨bs, rfl, nd, hl, h⟩ := h
  rw [List.getElem?_map] at h1 h2
  cases hb : bs[j]? with
  | none => rw [hb] at h1; cases h1
  | some b =>
  rw [hb] at h1
  cases h1
  obtain ⟨q1, q2, r, q3, q4⟩ := h j b hb
  rw [q3] at h2
  cases h2
  exact .lst (W.fresh q1) q4 (Rps.ints r)
theorem Cps.row {A S : List Addr} {H0 H : Hp} {L : Addr} {mv : List (List Int)} {ys : List V} (W : Wd A S H0) (h : Cps H0 H L mv mv.length ys) {i : Nat} {r : List Int} (hr : mv[i]? = some r) :
    ∃ b, ys[i]? = some (.ref b) ∧ H0 b = none ∧ b ≠ L ∧ b ∉ S ∧ H b = some (.lst (r.map V.int)) ∧ ∀ (j : Nat) (y : V) (d : D), j ≠ i → ys[j]? = some y → (mv.map rowD)[j]? = some d → Rp (b :: S) H y d := by
  obtain ⟨bs, rfl, nd, hl, h⟩ := h
  have hi : i < bs.length := by
    rw [hl]
    exact (List.getElem?_eq_some_iff.mp hr).1
  have hb : bs[i]? = some bs[i] := List.getElem?_eq_getElem hi
  obtain ⟨q1, q2, r2, q3, q4⟩ := h i _ hb
  rw [hr] at q3
  cases q3
  refine ⟨bs[i], by rw [List.getElem?_map, hb]; rfl, q1, q2, W.fresh q1, q4, fun j y d hj h1 h2 => ?_⟩
  rw [List.getElem?_map] at h1 h2
  cases hc : bs[j]? with
  | none => rw [hc] at h1; cases h1
  | some c =>
  rw [hc] at h1
  cases h1
  obtain ⟨p1, p2, r3, p3, p4⟩ := h j c hc
  rw [p3] at h2
  cases h2
  refine .lst (fun hm => ?_) p4 (Rps.ints r3)
  rcases List.mem_cons.mp hm with e | hm
  · have hj2 := (List.getElem?_eq_some_iff.mp hc).1
    rw [List.getElem?_eq_getElem hj2] at hc
    have e2 : bs[j] = bs[i] := (Option.some.inj hc).trans e
    exact hj ((List.getElem_inj nd).mp e2)
  · exact W.fresh p1 hm
/-- the one at i changed -/
theorem Rps.row_set {S : List Addr} {H : Hp} {ys zs : List V} {ds es : List D} {b : Addr} {i : Nat} (hl : ys.length = ds.length) (hy : ys[i]? = some (.ref b)) (hb : b ∉ S) (h : ∀ (j : Nat) (y : V) (d : D), j ≠ i → ys[j]? = some y → ds[j]? = some d → Rp (b :: S) H y d) (hz : Rps (b :: S) H zs es) :
    Rps S (L2.upd H b (.lst zs)) ys (ds.set i (.lst es)) := by
  have k : Keep (b :: S) H (L2.upd H b (.lst zs)) := Keep.upd (List.mem_cons_self ..)
  refine Rps.of_get (by rw [List.length_set]; exact hl) fun j y d h1 h2 => ?_
  by_cases e : j = i
  · subst e
    have hi : j < ds.length := by rw [← hl]; exact (List.getElem?_eq_some_iff.mp hy).1
    rw [List.getElem?_set_self hi] at h2
    rw [hy] at h1
    cases h1
    cases h2
    exact .lst hb upd_same ((hz.keep k).less fun _ h => List.mem_cons_of_mem _ h)
  · rw [List.getElem?_set_ne (Ne.symm e)] at h2
    exact ((h j y d e h1 h2).keep k).less fun _ h => List.mem_cons_of_mem _ h
theorem Rps.set {S : List Addr} {H : Hp} {y : V} {d : D} (r : Rp S H y d) : ∀ {xs : List V} {ds : List D} (i : Nat), Rps S H xs ds → Rps S H (xs.set i y) (ds.set i d)
  | _, _, _, .nil => .nil
  | _, _, 0, .cons _ t => .cons r t
  | _, _, i + 1, .cons a t => .cons a (Rps.set r i t)
section
open PyProof.Rows
/-- in, the written part named -/
theorem op_inQ {X : Cx} {K : PySem.W.Frag} (h : X.K = K) : OpR X (compareOp .In) (rIn K false) := by
  subst h
  exact op_in_seq
/-- pi_seqW, the written part named -/
theorem pi_seqWK {X : Cx} {K : PySem.W.Frag} {tg e : Expr} {te : TE} (h : X.K = K) (he : PE X e te) : PI X tg e (iSeqW K te) := by
  subst h
  exact pi_seqW he
/-- x[i] of a list, the written part named -/
theorem ixLK {X : Cx} {K : PySem.W.Frag} (h : X.K = K) : IxR X (rIxL K) := by
  subst h
  exact ix_list
end
section
open PyProof.Rows
/-- a text times a number -/
def rMulS : R2 := fun x y H Q => ∃ (z : Str) (n : Int), x = .str z ∧ y = .int n ∧ MulOk z n ∧ Q (.str (Txt.mul z n)) H
theorem op_mulS {X : Cx} : OpR X (binaryOp .Mult) rMulS := by
  intro pins s σ H x y v u Q I rx ry h
  obtain ⟨z, n, rfl, rfl, hok, q⟩ := h
  obtain ⟨t, rfl⟩ := rx
  obtain ⟨t', rfl⟩ := ry
  exact SB.mul hok fun t'' k => ⟨.str (Txt.mul z n), H, I.tok _, ⟨_, rfl⟩, q⟩
theorem mulok_zero {n : Int} (h : n = 1 ∨ n = 2 ∨ n = 3) : MulOk (Str.ofString "0") n := by
  rcases h with rfl | rfl | rfl <;> (unfold MulOk; decide +kernel)
end
/-- as Cps.data, Cps.row, apart from the list of the rows, too -/
theorem Cps.dataL {A S : List Addr} {H0 H : Hp} {L : Addr} {mv : List (List Int)} {ys : List V} (W : Wd A S H0) (h : Cps H0 H L mv mv.length ys) : Rps (L :: S) H ys (mv.map rowD) := by
  refine Rps.of_get (by rw [h.len, List.length_map]) fun j y d h1 h2 => ?_
  obtain ⟨bs, rfl, nd, hl, h⟩ := h
  rw [List.getElem?_map] at h1 h2
  cases hb : bs[j]? with
  | none => rw [hb] at h1; cases h1
  | some b =>
  rw [hb] at h1
  cases h1
  obtain ⟨q1, q2, r, q3, q4⟩ := h j b hb
  rw [q3] at h2
  cases h2
  exact .lst (fun hm => (List.mem_cons.mp hm).elim q2 (W.fresh q1)) q4 (Rps.ints r)
theorem Cps.rowL {A S : List Addr} {H0 H : Hp} {L : Addr} {mv : List (List Int)} {ys : List V} (W : Wd A S H0) (h : Cps H0 H L mv mv.length ys) {i : Nat} {r : List Int} (hr : mv[i]? = some r) :
    ∃ b, ys[i]? = some (.ref b) ∧ H0 b = none ∧ b ∉ L :: S ∧ H b = some (.lst (r.map V.int)) ∧ ∀ (j : Nat) (y : V) (d : D), j ≠ i → ys[j]? = some y → (mv.map rowD)[j]? = some d → Rp (b :: L :: S) H y d := by
  obtain ⟨bs, rfl, nd, hl, h⟩ := h
  have hi : i < bs.length := by
    rw [hl]
    exact (List.getElem?_eq_some_iff.mp hr).1
  have hb : bs[i]? = some bs[i] := List.getElem?_eq_getElem hi
  obtain ⟨q1, q2, r2, q3, q4⟩ := h i _ hb
  rw [hr] at q3
  cases q3
  refine ⟨bs[i], by rw [List.getElem?_map, hb]; rfl, q1, fun hm => (List.mem_cons.mp hm).elim q2 (W.fresh q1), q4, fun j y d hj h1 h2 => ?_⟩
  rw [List.getElem?_map] at h1 h2
  cases hc : bs[j]? with
  | none => rw [hc] at h1; cases h1
  | some c =>
  rw [hc] at h1
  cases h1
  obtain ⟨p1, p2, r3, p3, p4⟩ := h j c hc
  rw [p3] at h2
  cases h2
  refine .lst (fun hm => ?_) p4 (Rps.ints r3)
  rcases List.mem_cons.mp hm with e | hm
  · have hj2 := (List.getElem?_eq_some_iff.mp hc).1
    rw [List.getElem?_eq_getElem hj2] at hc
    have e2 : bs[j] = bs[i] := (Option.some.inj hc).trans e
    exact hj ((List.getElem_inj nd).mp e2)
  · rcases List.mem_cons.mp hm with e | hm
    · exact p2 e
    · exact W.fresh p1 hm

local macro_rules | `(tactic| walk_at "rd1") => `(tactic| first
  | (refine And.intro (by first | omega | assumption | (show ∃ _ : Str, _; exact ⟨_, rfl⟩) | (exact .inl ⟨by decide, by decide⟩) | (exact .inr ⟨by decide, by decide⟩) | (exact .inl ⟨by omega, by omega⟩) | (exact ⟨by decide, by decide⟩) | (exact ⟨by omega, by omega⟩) | decide | (exact szl rfl) | (show (0 : Int) < _; omega) | (show _ = _; exact rfl)) ?_)
  | (refine ⟨_, rfl, ?_⟩)
  | (refine ⟨_, _, rfl, rfl, ?_⟩)
  | (refine ⟨_, _, _, _, rfl, rfl, SqL.of (by first | assumption | exact upd_same), rfl, ?_⟩)
  | (refine ⟨_, _, _, _, rfl, rfl, (by first | assumption | exact upd_same), rfl, ?_⟩)
  | (refine .inl ⟨_, rfl, ?_⟩))
local macro_rules | `(tactic| walk_at "rd") => `(tactic| repeat walk_at "rd1")

/-! the text by its places -/
def top (i : Nat) : Stmt := PySem.Challenge.pw_vouchedlots_k07_reader_kept.main.body.getD i (.Pass ⟨0, 0, 0, 0⟩)
abbrev sPick : Stmt := top 41
/-- the j-th row of the class that stands i-th -/
def sub (i j : Nat) : Stmt := match top i with
  | .ClassDef (body := b) .. => b.getD j (.Pass ⟨0, 0, 0, 0⟩)
  | _ => .Pass ⟨0, 0, 0, 0⟩
/-- what the top's names hold, as far as built-ins go -/
structure Txt (mg : Str → Option Value) : Prop where
  len : mg "len" = none
  int : mg "int" = none
  abs : mg "abs" = none
  range : mg "range" = none
  isinstance : mg "isinstance" = none
  «repr» : mg "repr" = none
  «str» : mg "str" = none
  tuple : mg "tuple" = none
  list : mg "list" = none
  all : mg "all" = none
  any : mg "any" = none
  enumerate : mg "enumerate" = none
  ValueError : mg "ValueError" = none
  bool : mg "bool" = none
  min : mg "min" = none
  set : mg "set" = none
  max : mg "max" = none
  sum : mg "sum" = none
  sorted : mg "sorted" = none
section
variable {P : Program} {w : World} {K : PySem.W.Frag} {mg : Str → Option Value} {base : Heap}
theorem scPick : FnScope ["source", "many", "digit", "mixed"] ["source", "many"] (C8.fnScope sPick) := C8.fnScope_by (by decide +kernel)
theorem ok_pick {f : Addr} {fd : FuncData} (F : C8.Def K mg "_law_pick" sPick f fd) (b : Binds K fd ["source", "many"] []) (T : Txt mg) : C8.Cal P w K mg base 1 "_law_pick" spPick [] := by
  refine C8.cal0 F b .nil scPick (fun vs H Q E h => ?_) (fun cdv A outer s H vs Q E hr h => ?_)
  · obtain ⟨A, a, m, rfl, _⟩ := h
    rfl
  · obtain ⟨_, a, m, rfl, hmem, hS, hm, hm2, k⟩ := h
    obtain ⟨x, sd, c, ha⟩ := hS a hmem
    refine ⟨_,
      (pss_cons (ps_if (pt_cmpR op_gt (pe_ix ix_list (pv 0) pe_int (fun _ _ => rfl)) pe_int (nomark _)) 
        (pss_cons (ps_set (i := 2) scPick.nd rfl (Or.inl rfl) (pe_op op_mod (pe_callTy call_int1 (by rfl) T.int (by decide +kernel) (pa_cons (pe_ix ix_list (pv 0) pe_int (fun _ _ => rfl)) pa_nil)) (pv 1)))
        (pss_cons (ps_asg (pe_op op_fdiv (pe_ix ix_list (pv 0) pe_int (fun _ _ => rfl)) (pv 1)) (pg_sub (pv 0) pe_int set_list))
        (pss_one (ps_ret (pv 2))))) pss_nil)
      (pss_cons (ps_asg (pe_op op_add (pe_ix ix_list (pv 0) pe_int (fun _ _ => rfl)) pe_int) (pg_sub (pv 0) pe_int set_list))
      (pss_cons (ps_set (i := 3) scPick.nd rfl (Or.inl rfl) (pe_op op_mod (pe_callTy call_int1 (by rfl) T.int (by decide +kernel) (pa_cons (pe_op op_mul (pe_op op_add (pe_ix ix_list (pv 0) pe_int (fun _ _ => rfl)) (pe_op op_mul pe_int (pe_ix ix_list (pv 0) pe_int (fun _ _ => rfl)))) pe_int) pa_nil)) pe_int))
      (pss_cons (ps_set (i := 3) scPick.nd rfl (Or.inl rfl) (pe_op op_mod (pe_callTy call_int1 (by rfl) T.int (by decide +kernel) (pa_cons (pe_op op_add (pe_op op_add (pe_op op_mul (pv 3) (pv 3)) (pe_op op_mul pe_int (pe_ix ix_list (pv 0) pe_int (fun _ _ => rfl)))) (pe_ix ix_list (pv 0) pe_int (fun _ _ => rfl))) pa_nil)) pe_int))
      (pss_cons (ps_set (i := 3) scPick.nd rfl (Or.inl rfl) (pe_op op_mod (pe_callTy call_int1 (by rfl) T.int (by decide +kernel) (pa_cons (pe_op op_add (pe_op op_mul (pv 3) pe_int) pe_int) pa_nil)) pe_int))
      (pss_cons (ps_set (i := 3) scPick.nd rfl (Or.inl rfl) (pe_op op_mod (pe_callTy call_int1 (by rfl) T.int (by decide +kernel) (pa_cons (pe_op op_add (pe_op op_mul (pv 3) (pv 3)) (pv 3)) pa_nil)) pe_int))
      (pss_one (ps_ret (pe_op op_mod (pe_callTy call_int1 (by rfl) T.int (by decide +kernel) (pa_cons (pe_op op_fdiv (pv 3) pe_int) pa_nil)) (pv 1)))))))))), ?_⟩
    walk_at "rd"
    refine ite2 (fun _ => ?_) (fun _ => ?_)
    · walk_at "rd"
      exact k _ _ (Int.emod_nonneg _ (by omega)) (Int.emod_lt_of_pos _ hm) (Go.draw hmem)
    · walk_at "rd"
      refine k _ _ (Int.emod_nonneg _ (by omega)) (Int.emod_lt_of_pos _ hm) (Go.draw hmem)
end

abbrev sSource : Stmt := top 40
/-- the source's digits and seed, made of the script; a new list -/
def spSource (K : PySem.W.Frag) : Sp := fun vs H Q _ => ∃ (a : Addr) (ns : List Int) (p : Int), vs = [.ref a, .int p] ∧ SqL K H a (ns.map V.int) ∧ (∀ n ∈ ns, Builtin.Int.intBits n ≤ 1048576) ∧ 0 ≤ p ∧ p < 10 ∧
  ∀ (q : Addr) (x s c : Int) (H' : Hp), H q = none → Same H H' → H' q = some (.lst [.int x, .int s, .int c]) → Q (.ref q) H'
section
variable {P : Program} {w : World} {K : PySem.W.Frag} {mg : Str → Option Value} {base : Heap}
theorem scSource : FnScope ["script", "place", "cell", "seed", "one", "number"] ["script", "place"] (C8.fnScope sSource) := C8.fnScope_by (by decide +kernel)
theorem ok_source {f : Addr} {fd : FuncData} (F : C8.Def K mg "_law_source" sSource f fd) (b : Binds K fd ["script", "place"] []) (T : Txt mg) : C8.Cal P w K mg base 1 "_law_source" (spSource K) [] := by
  refine C8.cal0 F b .nil scSource (fun vs H Q E h => ?_) (fun cdv A outer s H vs Q E hr h => ?_)
  · obtain ⟨a, ns, p, rfl, _⟩ := h
    rfl
  · obtain ⟨a, ns, p, rfl, hS, hb, hp0, hp1, k⟩ := h
    have sc := scSource
    refine ⟨_, -- _law_source: 0 script 1 place 2 cell 3 seed 4 one 5 number

      (C8.pss_cut (ps_set (i := 2) sc.nd rfl (Or.inl rfl) (pe_ifExp (pt_cmpR op_lt (pv 1) (pe_callB (call_lenQ (K := K) rfl) (by rfl) T.len PySem.boot_len (pa_cons (pv 0) pa_nil)) (nomark _)) (pe_ix ix_list (pv 0) (pv 1) (fun _ _ => rfl)) (pe_op op_add (pe_op op_mul pe_int (pv 1)) pe_int)))
      (pss_cons (ps_set (i := 3) sc.nd rfl (Or.inl rfl) (pe_op op_add (pe_op op_mul pe_int (pv 1)) pe_int))
      (C8.pss_cut (ps_for PassesOwn.never rfl (pi_list (pe_slice sl_list (pv 0) po_none (po_some pe_int))) (pg_name (i := 4) sc.nd rfl (Or.inl rfl)) 
        (pss_one (ps_set (i := 3) sc.nd rfl (Or.inl rfl) (pe_op op_mod (pe_callTy (T := "int") call_int1 (by rfl) T.int (by decide +kernel) (pa_cons (pe_op op_add (pe_op op_mul (pv 3) pe_int) (pe_op op_mod (pe_callTy (T := "int") call_int1 (by rfl) T.int (by decide +kernel) (pa_cons (pv 4) pa_nil)) pe_int)) pa_nil)) pe_int))))
      (pss_cons (ps_set (i := 3) sc.nd rfl (Or.inl rfl) (pe_op op_mod (pe_callTy (T := "int") call_int1 (by rfl) T.int (by decide +kernel) (pa_cons (pe_op op_add (pe_op op_mul (pv 3) pe_int) (pe_op op_mod (pe_callTy (T := "int") call_int1 (by rfl) T.int (by decide +kernel) (pa_cons (pv 2) pa_nil)) pe_int)) pa_nil)) pe_int))
      (pss_cons (ps_set (i := 5) sc.nd rfl (Or.inl rfl) (pe_callB (id := "abs") call_abs (by rfl) T.abs (by decide +kernel) (pa_cons (pv 2) pa_nil)))
      (pss_cons (ps_if (pt_cmpR op_lt (pv 5) (pe_op op_pow pe_int pe_int) (nomark _)) 
        (pss_one (ps_ret (pe_lst (pa_cons pe_int (pa_cons (pv 3) (pa_cons pe_int pa_nil)))))) pss_nil)
      (C8.pss_cut (ps_if (pt_cmpR op_gt (pe_op op_shr (pv 5) pe_int) pe_int (nomark _)) 
        (pss_one (ps_set (i := 5) sc.nd rfl (Or.inl rfl) (pe_op op_sub (pv 5) (pe_op op_shlW (pe_op op_shr (pv 5) pe_int) pe_int)))) pss_nil)
      (pss_one (ps_ret (pe_lst (pa_cons (pv 5) (pa_cons (pv 3) (pa_cons pe_int pa_nil))))))))))))), ?_⟩
    -- cell
    refine ⟨fun σ' H' => H' = H ∧ ∃ cv : Int, Builtin.Int.intBits cv ≤ 1048576 ∧ σ' = [some (.ref a), some (.int p), some (.int cv), none, none, none], ?_, ?_⟩
    · refine ⟨_, rfl, _, rfl, _, _, rfl, .inl hS, _, _, rfl, rfl, _, rfl, ?_⟩
      refine ite2 (fun hlt => ?_) (fun _ => ?_)
      · have hlt : p < ((ns.map V.int).length : Int) := by simpa using hlt
        rw [List.length_map] at hlt
        obtain ⟨n, hn⟩ : ∃ n, ns[p.toNat]? = some n := ⟨ns[p.toNat]'(by omega), by simp⟩
        refine ⟨_, rfl, _, rfl, _, _, _, .int n, rfl, rfl, hS, at_of (j := p.toNat) (by omega) (by rw [List.getElem?_map, hn]; rfl), ?_⟩
        exact ⟨rfl, n, hb n (List.mem_of_getElem? hn), rfl⟩
      · walk_at "rd"
        refine ⟨5 * p + 3, ?_, rfl⟩
        exact Nat.le_trans (PyProof.Rows.intBits_le (show (5 * p + 3).natAbs < 2 ^ 7 by omega)) (by decide)
    · rintro σ1 H1 ⟨rfl, cv, hcv, rfl⟩
      walk_at "rd"
      refine ⟨fun σ' H' => ∃ (z : Int) (v : Option V), Same H1 H' ∧ σ' = [some (.ref a), some (.int p), some (.int cv), some (.int z), v, none], ?_, ?_⟩
      · refine ⟨_, rfl, _, rfl, _, _, rfl, hS, fun l hl => ?_⟩
        refine ⟨l, rfl, ⟨_, SqL.of upd_same⟩, for_list (xs := cutV (ns.map V.int) none (some 3)) (fun i σ H' => Iv (∃ (z : Int) (v : Option V), Same H1 H' ∧ H' l = some (.lst (cutV (ns.map V.int) none (some 3))) ∧ σ = [some (.ref a), some (.int p), some (.int cv), some (.int z), v, none]))
          (Iv.of ⟨_, _, Same.new hl, upd_same, rfl⟩) (fun i σ H' _ h => by obtain ⟨_, _, _, q, _⟩ := h.get; exact SqL.of q) ?_ ?_⟩
        · intro i x σ H' hx h
          obtain ⟨z, v, e, q, rfl⟩ := h.get
          obtain ⟨n, rfl⟩ : ∃ n, x = V.int n := by
            have h1 := List.mem_of_getElem? hx
            have h2 := List.mem_of_mem_drop (List.mem_of_mem_take h1)
            obtain ⟨n, _, e⟩ := List.mem_map.mp h2
            exact ⟨n, e.symm⟩
          walk_at "rd"
          exact .of ⟨_, _, e, q, rfl⟩
        · intro σ H' h
          obtain ⟨z, v, e, q, rfl⟩ := h.get
          exact ⟨z, v, e, rfl⟩
      · rintro σ2 H2 ⟨z, v, e2, rfl⟩
        walk_at "rd"
        refine ite2 (fun _ => ?_) (fun _ => ?_)
        · walk_at "rd"
          exact fun q hq => k q _ _ _ _ (e2.free hq) (e2.trans (Same.new hq)) upd_same
        · have hb1 : Builtin.Int.intBits (if cv < 0 then -cv else cv) ≤ 1048576 := by
            split
            · refine Nat.le_trans (Nat.le_of_eq ?_) hcv
              unfold Builtin.Int.intBits
              simp
            · exact hcv
          refine ⟨fun σ' H' => Iv (∃ y : Int, Same H2 H' ∧ σ' = [some (.ref a), some (.int p), some (.int cv), some (.int ((z * 31 + cv % 2147483587) % 2147483629)), v, some (.int y)]), ?_, ?_⟩
          · walk_at "rd"
            refine ite2 (fun _ => ?_) (fun _ => ?_)
            · walk_at "rd"
              refine ⟨shl_part (by split <;> omega) hb1 _, ?_⟩
              walk_at "rd"
              exact .of ⟨_, Same.refl _, rfl⟩
            · exact .of ⟨_, Same.refl _, rfl⟩
          · intro σ3 H3 h3
            obtain ⟨y, e3, rfl⟩ := h3.get
            walk_at "rd"
            exact fun q hq => k q _ _ _ _ ((e2.trans e3).free hq) ((e2.trans e3).trans (Same.new hq)) upd_same
end

/-! ### alphabets and texts -/
def alphs : List (List Nat) := [[97, 98], [98, 100], [120, 121, 122], [97], [97, 98, 99], [99, 101], [113]]
def IsAl (al : Str) : Prop := ∃ l ∈ alphs, al = SX.S l
def Over (al t : Str) : Prop := ∀ c ∈ t.cps.toList, c ∈ al.cps.toList
theorem IsAl.len {al : Str} (h : IsAl al) : 1 ≤ al.length ∧ al.length ≤ 3 := by
  obtain ⟨l, hl, rfl⟩ := h
  rw [SX.S_len]
  revert l
  decide
theorem join1 : ∀ cs : List Nat, TL.joinL [] (cs.map fun c => [c]) = cs
  | [] => rfl
  | [_] => rfl
  | c :: d :: r => by
    have ih := join1 (d :: r)
    show [c] ++ ([] ++ TL.joinL [] ((d :: r).map fun c => [c])) = c :: d :: r
    rw [ih]
    rfl
theorem join_signs (cs : List Nat) : Txt.join ("" : Str) (cs.map fun c => (⟨#[c]⟩ : Str)) = SX.S cs := by
  have e := SX.join_S [] (cs.map fun c => [c])
  rw [join1, List.map_map] at e
  exact e
theorem sum_ones (cs : List Nat) : ((cs.map fun c => (⟨#[c]⟩ : Str)).map (·.length)).sum = cs.length := by
  induction cs with
  | nil => rfl
  | cons c r ih =>
    rw [List.map_cons, List.map_cons, List.sum_cons, ih, List.length_cons]
    show 1 + r.length = r.length + 1
    omega
abbrev sAlphabet : Stmt := top 42
abbrev sWord : Stmt := top 43
def spAlphabet : Sp := fun vs H Q _ => ∃ (A : List Addr) (a : Addr), vs = [.ref a] ∧ a ∈ A ∧ (∀ a ∈ A, Src H a) ∧ ∀ (al : Str) (H' : Hp), IsAl al → Go A H H' → Q (.str al) H'
def spWord : Sp := fun vs H Q _ => ∃ (A : List Addr) (a : Addr) (al : Str) (m : Int), vs = [.ref a, .str al, .int m] ∧ a ∈ A ∧ (∀ a ∈ A, Src H a) ∧ IsAl al ∧ 0 ≤ m ∧ m ≤ 1000 ∧
  ∀ (cs : List Nat) (H' : Hp), (∀ c ∈ cs, c ∈ al.cps.toList) → (cs.length : Int) ≤ m → Go A H H' → Q (.str (SX.S cs)) H'
/-- only the sources are taken -/
theorem Wd.of {A : List Addr} {H : Hp} (h : ∀ a ∈ A, Src H a) : Wd A A H := ⟨fun _ h => h, h, fun a ha => by
  obtain ⟨x, s, c, q⟩ := h a ha
  exact ⟨_, q⟩⟩
section
variable {P : Program} {w : World} {K : PySem.W.Frag} {mg : Str → Option Value} {base : Heap}
theorem scAlphabet : FnScope ["source", "menu"] ["source"] (C8.fnScope sAlphabet) := C8.fnScope_by (by decide +kernel)
theorem ok_alphabet {f : Addr} {fd : FuncData} (F : C8.Def K mg "_law_alphabet" sAlphabet f fd) (b : Binds K fd ["source"] []) (T : Txt mg) (c_law_pick : C8.Cal P w K mg base 1 "_law_pick" spPick []) : C8.Cal P w K mg base 2 "_law_alphabet" spAlphabet [] := by
  refine C8.cal0 F b .nil scAlphabet (fun vs H Q E h => ?_) (fun cdv A outer s H vs Q E hr h => ?_)
  · obtain ⟨A, a, rfl, _⟩ := h
    rfl
  · obtain ⟨A, a, rfl, hm, hS, k⟩ := h
    have sc := scAlphabet
    refine ⟨_, -- _law_alphabet: 0 source 1 menu

      (pss_cons (ps_set (i := 1) sc.nd rfl (Or.inl rfl) (pe_lst (pa_cons pe_str (pa_cons pe_str (pa_cons pe_str (pa_cons pe_str (pa_cons pe_str (pa_cons pe_str (pa_cons pe_str (pa_cons pe_str (pa_cons pe_str (pa_cons pe_str (pa_cons pe_str (pa_cons pe_str pa_nil))))))))))))))
      (pss_one (ps_ret (pe_ix ix_list (pv 1) (C8.pe_c c_law_pick hr (by decide) rfl (pa_cons (pv 0) (pa_cons (pe_callB (call_lenQ (K := K) rfl) (by rfl) T.len PySem.boot_len (pa_cons (pv 1) pa_nil)) pa_nil))) (fun _ _ => rfl))))), ?_⟩
    refine ⟨by show 12 ≤ sizeLine; decide, fun p hp => ?_⟩
    have W := Wd.of hS
    have g1 := Go.new (A := A) (o := .lst [.str "ab", .str "ab", .str "ab", .str "ab", .str "bd", .str "ab", .str "xyz", .str "a", .str "abc", .str "ce", .str "ab", .str "q"]) hp
    refine ⟨_, rfl, _, rfl, _, rfl, _, _, rfl, .inl (SqL.of upd_same), A, a, _, rfl, hm, g1.src hS, by decide, by decide, fun r H' h0 h1 g => ?_⟩
    have e := g.keep p _ (W.fresh hp) upd_same
    have hr' : r < 12 := h1
    obtain ⟨n, rfl⟩ : ∃ n : Nat, r = (n : Int) := ⟨r.toNat, by omega⟩
    have hn : n < 12 := by omega
    have fin : ∀ x, ([.str "ab", .str "ab", .str "ab", .str "ab", .str "bd", .str "ab", .str "xyz", .str "a", .str "abc", .str "ce", .str "ab", .str "q"] : List V)[n]? = some x → ∃ l ∈ alphs, x = .str (SX.S l) := by
      intro x hx
      match n, hn with
      | 0, _ => exact ⟨[97, 98], by decide, (Option.some.inj hx).symm⟩
      | 1, _ => exact ⟨[97, 98], by decide, (Option.some.inj hx).symm⟩
      | 2, _ => exact ⟨[97, 98], by decide, (Option.some.inj hx).symm⟩
      | 3, _ => exact ⟨[97, 98], by decide, (Option.some.inj hx).symm⟩
      | 4, _ => exact ⟨[98, 100], by decide, (Option.some.inj hx).symm⟩
      | 5, _ => exact ⟨[97, 98], by decide, (Option.some.inj hx).symm⟩
      | 6, _ => exact ⟨[120, 121, 122], by decide, (Option.some.inj hx).symm⟩
      | 7, _ => exact ⟨[97], by decide, (Option.some.inj hx).symm⟩
      | 8, _ => exact ⟨[97, 98, 99], by decide, (Option.some.inj hx).symm⟩
      | 9, _ => exact ⟨[99, 101], by decide, (Option.some.inj hx).symm⟩
      | 10, _ => exact ⟨[97, 98], by decide, (Option.some.inj hx).symm⟩
      | 11, _ => exact ⟨[113], by decide, (Option.some.inj hx).symm⟩
    obtain ⟨x, hx⟩ : ∃ x, ([.str "ab", .str "ab", .str "ab", .str "ab", .str "bd", .str "ab", .str "xyz", .str "a", .str "abc", .str "ce", .str "ab", .str "q"] : List V)[n]? = some x := ⟨_, List.getElem?_eq_getElem hn⟩
    obtain ⟨l, hl, rfl⟩ := fin x hx
    exact ⟨p, _, _, _, rfl, rfl, SqL.of e, atI_nat hx, k _ _ ⟨l, hl, rfl⟩ (g1.trans g)⟩
theorem scWord : FnScope ["source", "alphabet", "most", "size", "k"] ["source", "alphabet", "most"] (C8.fnScope sWord) := C8.fnScope_by (by decide +kernel)
/-- a drawn sign -/
theorem sign_at {al : Str} {r : Int} (h0 : 0 ≤ r) (h1 : r < (al.length : Int)) : ∃ c, c ∈ al.cps.toList ∧ atI al.cps.toList r = some c := by
  have e : al.cps.toList.length = al.length := by simp [Str.length]
  obtain ⟨n, rfl⟩ : ∃ n : Nat, r = (n : Int) := ⟨r.toNat, by omega⟩
  have h2 : n < al.cps.toList.length := by omega
  exact ⟨al.cps.toList[n], List.getElem_mem h2, atI_nat (List.getElem?_eq_getElem h2)⟩
theorem ok_word {f : Addr} {fd : FuncData} (F : C8.Def K mg "_law_word" sWord f fd) (b : Binds K fd ["source", "alphabet", "most"] []) (T : Txt mg) (c_law_pick : C8.Cal P w K mg base 1 "_law_pick" spPick []) : C8.Cal P w K mg base 2 "_law_word" spWord [] := by
  refine C8.cal0 F b .nil scWord (fun vs H Q E h => ?_) (fun cdv A outer s H vs Q E hr h => ?_)
  · obtain ⟨A, a, al, m, rfl, _⟩ := h
    rfl
  · obtain ⟨A, a, al, m, rfl, hm, hS, hal, h0, h1, k⟩ := h
    have sc := scWord
    refine ⟨_, -- _law_word: 0 source* 1 alphabet* 2 most 3 size 4 k

      (pss_cons (ps_set (i := 3) sc.nd rfl (Or.inl rfl) (C8.pe_c c_law_pick hr (by decide) rfl (pa_cons (pv 0) (pa_cons (pe_op op_add (pv 2) pe_int) pa_nil))))
      (pss_one (ps_ret (pe_join pe_str (pe_lc (own := [("k", 4)]) (g := gName 4) rfl sc.nd (pi_range1 (by rfl) T.range (pa_cons (pv 3) pa_nil)) (blkOk_by (own := [("k", 4)]) (by kernel_rfl)) (fun _ _ _ _ _ => (pg_name (i := 4) sc.nd rfl (Or.inl rfl))) (fun _ _ _ _ _ => pts_nil) (fun _ _ _ _ _ => (pe_ix ix_str (pv 1) (C8.pe_c c_law_pick hr (by decide) rfl (pa_cons (pv 0) (pa_cons (pe_callB call_len_str (by rfl) T.len PySem.boot_len (pa_cons (pv 1) pa_nil)) pa_nil))) (fun _ _ => rfl)))))))), ?_⟩
    have hl := hal.len
    have hsz : al.length ≤ sizeLine := Nat.le_trans hl.2 (by decide)
    walk_at "rd"
    refine ⟨A, a, _, rfl, hm, hS, by omega, by omega, ?_⟩
    intro z H1 hz0 hz1 g1
    have hz1 : z < m + 1 := hz1
    have W := Wd.of (g1.src hS)
    refine ⟨⟨_, rfl⟩, _, rfl, _, rfl, by omega, by omega, fun L hL => lc_D (A := A) (S := A) (j := 4) (Xp := fun _ _ => True) (fun i ds => ∃ cs : List Nat, cs.length = i ∧ (∀ c ∈ cs, c ∈ al.cps.toList) ∧ ds = cs.map fun c => D.str ⟨#[c]⟩)
      (walk_range (lo := 0)) (fun i H x H' _ y => ⟨y.1, trivial⟩) W hL (by omega) (fun _ _ => trivial) ⟨[], rfl, by simp, rfl⟩ (fun i ds h => ?_) (fun _ => rfl) (fun i ds x H2 hi h _ W2 k2 Kt Kf ht hf => ?_) (fun ys ds H2 h g2 hL2 hr2 => ?_)⟩
    · obtain ⟨cs, rfl, _, rfl⟩ := h
      simp
    · obtain ⟨cs, rfl, hcs, rfl⟩ := h
      walk_at "rd"
      refine ⟨A, a, _, rfl, hm, W2.src, by omega, by omega, fun r H3 hr0 hr1 g3 => ?_⟩
      obtain ⟨c, hc, e⟩ := sign_at hr0 hr1
      refine ⟨_, _, c, rfl, rfl, hsz, e, ht _ (.str ⟨#[c]⟩) H3 g3 (.str _) ⟨cs ++ [c], by simp, fun c' hc' => ?_, by simp⟩⟩
      rcases List.mem_append.mp hc' with h | h
      · exact hcs c' h
      · rw [List.mem_singleton.mp h]; exact hc
    · obtain ⟨cs, hc, hcs, rfl⟩ := h
      have ey : ys = (cs.map fun c => (⟨#[c]⟩ : Str)).map V.str := by
        rw [List.map_map]
        exact Rps.strs_eq (l := cs.map fun c => (⟨#[c]⟩ : Str)) (by rw [List.map_map]; exact hr2) |>.trans (by rw [List.map_map])
      subst ey
      refine ⟨_, _, cs.map fun c => (⟨#[c]⟩ : Str), rfl, rfl, .inl (SqL.of hL2), ?_, ?_⟩
      · rw [sum_ones, List.length_map, hc]
        show z.toNat + z.toNat * 0 ≤ 16777216
        omega
      · show Q (V.str (Txt.join ("" : Str) (cs.map fun c => (⟨#[c]⟩ : Str)))) H2
        rw [join_signs]
        exact k cs H2 hcs (by omega) (g1.trans g2)
end

abbrev sLetters : Stmt := top 53
def spLetters : Sp := fun vs H Q _ => ∃ (A : List Addr) (a : Addr) (al : Str) (m : Int), vs = [.ref a, .str al, .int m] ∧ a ∈ A ∧ (∀ a ∈ A, Src H a) ∧ IsAl al ∧ 0 ≤ m ∧ m ≤ 1000 ∧
  ∀ (cs : List Nat) (H' : Hp), (∀ c ∈ cs, c ∈ al.cps.toList) → (cs.length : Int) = m → Go A H H' → Q (.str (SX.S cs)) H'
section
variable {P : Program} {w : World} {K : PySem.W.Frag} {mg : Str → Option Value} {base : Heap}
theorem scLetters : FnScope ["source", "alphabet", "size", "k"] ["source", "alphabet", "size"] (C8.fnScope sLetters) := C8.fnScope_by (by decide +kernel)
theorem ok_letters {f : Addr} {fd : FuncData} (F : C8.Def K mg "_law_letters" sLetters f fd) (b : Binds K fd ["source", "alphabet", "size"] []) (T : Txt mg) (c_law_pick : C8.Cal P w K mg base 1 "_law_pick" spPick []) : C8.Cal P w K mg base 2 "_law_letters" spLetters [] := by
  refine C8.cal0 F b .nil scLetters (fun vs H Q E h => ?_) (fun cdv A outer s H vs Q E hr h => ?_)
  · obtain ⟨A, a, al, m, rfl, _⟩ := h
    rfl
  · obtain ⟨A, a, al, m, rfl, hm, hS, hal, h0, h1, k⟩ := h
    have sc := scLetters
    refine ⟨_, -- _law_letters: 0 source* 1 alphabet* 2 size 3 k

      (pss_one (ps_ret (pe_join pe_str (pe_lc (own := [("k", 3)]) (g := gName 3) rfl sc.nd (pi_range1 (by rfl) T.range (pa_cons (pv 2) pa_nil)) (blkOk_by (own := [("k", 3)]) (by kernel_rfl)) (fun _ _ _ _ _ => (pg_name (i := 3) sc.nd rfl (Or.inl rfl))) (fun _ _ _ _ _ => pts_nil) (fun _ _ _ _ _ => (pe_ix ix_str (pv 1) (C8.pe_c c_law_pick hr (by decide) rfl (pa_cons (pv 0) (pa_cons (pe_callB call_len_str (by rfl) T.len PySem.boot_len (pa_cons (pv 1) pa_nil)) pa_nil))) (fun _ _ => rfl))))))), ?_⟩
    have hl := hal.len
    have hsz : al.length ≤ sizeLine := Nat.le_trans hl.2 (by decide)
    have W := Wd.of hS
    refine ⟨⟨_, rfl⟩, _, rfl, _, rfl, by omega, by omega, fun L hL => lc_D (A := A) (S := A) (j := 3) (Xp := fun _ _ => True) (fun i ds => ∃ cs : List Nat, cs.length = i ∧ (∀ c ∈ cs, c ∈ al.cps.toList) ∧ ds = cs.map fun c => D.str ⟨#[c]⟩)
      (walk_range (lo := 0)) (fun i H x H' _ y => ⟨y.1, trivial⟩) W hL (by omega) (fun _ _ => trivial) ⟨[], rfl, by simp, rfl⟩ (fun i ds h => ?_) (fun _ => rfl) (fun i ds x H2 hi h _ W2 k2 Kt Kf ht hf => ?_) (fun ys ds H2 h g2 hL2 hr2 => ?_)⟩
    · obtain ⟨cs, rfl, _, rfl⟩ := h
      simp
    · obtain ⟨cs, rfl, hcs, rfl⟩ := h
      walk_at "rd"
      refine ⟨A, a, _, rfl, hm, W2.src, by omega, by omega, fun r H3 hr0 hr1 g3 => ?_⟩
      obtain ⟨c, hc, e⟩ := sign_at hr0 hr1
      refine ⟨_, _, c, rfl, rfl, hsz, e, ht _ (.str ⟨#[c]⟩) H3 g3 (.str _) ⟨cs ++ [c], by simp, fun c' hc' => ?_, by simp⟩⟩
      rcases List.mem_append.mp hc' with h | h
      · exact hcs c' h
      · rw [List.mem_singleton.mp h]; exact hc
    · obtain ⟨cs, hc, hcs, rfl⟩ := h
      have ey : ys = (cs.map fun c => (⟨#[c]⟩ : Str)).map V.str := by
        rw [List.map_map]
        exact Rps.strs_eq (l := cs.map fun c => (⟨#[c]⟩ : Str)) (by rw [List.map_map]; exact hr2) |>.trans (by rw [List.map_map])
      subst ey
      refine ⟨_, _, cs.map fun c => (⟨#[c]⟩ : Str), rfl, rfl, .inl (SqL.of hL2), ?_, ?_⟩
      · rw [sum_ones, List.length_map, hc]
        show m.toNat + m.toNat * 0 ≤ 16777216
        omega
      · show Q (V.str (Txt.join ("" : Str) (cs.map fun c => (⟨#[c]⟩ : Str)))) H2
        rw [join_signs]
        exact k cs H2 hcs (by omega) g2
end

abbrev sReader : Stmt := top 44
def spReader : Sp := fun vs H Q _ => ∃ (A S : List Addr) (a : Addr) (n m : Int), vs = [.ref a, .int n, .int m] ∧ a ∈ A ∧ Wd A S H ∧ 1 ≤ n ∧ n ≤ 3 ∧ 1 ≤ m ∧ m ≤ 60 ∧
  ∀ (v : V) (mv : List (List Int)) (g : List Int) (H' : Hp), Go A H H' → Rp S H' v (.tup [mvD mv, rowD g]) → Mach n.toNat mv g → Q v H'
section
variable {P : Program} {w : World} {K : PySem.W.Frag} {mg : Str → Option Value} {base : Heap}
theorem scReader : FnScope ["source", "many", "most", "size", "moves", "good", "p", "t"] ["source", "many", "most"] (C8.fnScope sReader) := C8.fnScope_by (by decide +kernel)
/-- [pick(source, size) for t in range(many)]: a row of draws -/
theorem ok_reader {f : Addr} {fd : FuncData} (F : C8.Def K mg "_law_reader" sReader f fd) (b : Binds K fd ["source", "many", "most"] []) (T : Txt mg) (c_law_pick : C8.Cal P w K mg base 1 "_law_pick" spPick []) : C8.Cal P w K mg base 2 "_law_reader" spReader [] := by
  refine C8.cal0 F b .nil scReader (fun vs H Q E h => ?_) (fun cdv A outer s H vs Q E hr h => ?_)
  · obtain ⟨A, S, a, n, m, rfl, _⟩ := h
    rfl
  · obtain ⟨A, S, a, n, m, rfl, hm, W, hn0, hn1, hm0, hm1, k⟩ := h
    have sc := scReader
    refine ⟨_, -- _law_reader: 0 source* 1 many* 2 most 3 size* 4 moves 5 good 6 p 7 t

      (pss_cons (ps_set (i := 3) sc.nd rfl (Or.inr rfl) (pe_op op_add pe_int (C8.pe_c c_law_pick hr (by decide) rfl (pa_cons (pv 0) (pa_cons (pv 2) pa_nil)))))
      (pss_cons (ps_setLc (i := 4) (own := [("p", 6)]) (g := gName 6) rfl sc.nd rfl rfl (sw_true rfl rfl rfl (by decide +kernel)) (pi_range1 (by rfl) T.range (pa_cons (pv 3) pa_nil)) (blkOk_by (own := [("p", 6)]) (by kernel_rfl)) (fun _ _ _ _ _ => (pg_name (i := 6) sc.nd rfl (Or.inl rfl))) (fun _ _ _ _ _ => pts_nil) (fun _ _ _ _ _ => (pe_lc (own := [("t", 7)]) (g := gName 7) rfl sc.nd (pi_range1 (by rfl) T.range (pa_cons (pv 1) pa_nil)) (blkOk_by (own := [("t", 7)]) (by kernel_rfl)) (fun _ _ _ _ _ => (pg_name (i := 7) sc.nd rfl (Or.inl rfl))) (fun _ _ _ _ _ => pts_nil) (fun _ _ _ _ _ => (C8.pe_c c_law_pick hr (by decide) rfl (pa_cons (pv 0) (pa_cons (pv 3) pa_nil)))))))
      (pss_cons (ps_setLc (i := 5) (own := [("p", 6)]) (g := gName 6) rfl sc.nd rfl rfl (sw_true rfl rfl rfl (by decide +kernel)) (pi_range1 (by rfl) T.range (pa_cons (pv 3) pa_nil)) (blkOk_by (own := [("p", 6)]) (by kernel_rfl)) (fun _ _ _ _ _ => (pg_name (i := 6) sc.nd rfl (Or.inl rfl))) (fun _ _ _ _ _ => (pts_one (pt_cmpR op_eq (C8.pe_c c_law_pick hr (by decide) rfl (pa_cons (pv 0) (pa_cons pe_int pa_nil))) pe_int (nomark _)))) (fun _ _ _ _ _ => (pv 6)))
      (C8.pss_cut (ps_if (PW.pt (pw_and (pt_cmpR op_eq (pe_callB (call_lenQ (K := K) rfl) (by rfl) T.len PySem.boot_len (pa_cons (pv 5) pa_nil)) pe_int (nomark _)) (pw_and1 (pt_cmpR op_gt (C8.pe_c c_law_pick hr (by decide) rfl (pa_cons (pv 0) (pa_cons pe_int pa_nil))) pe_int (nomark _))))) 
        (pss_one (ps_set (i := 5) sc.nd rfl (Or.inl rfl) (pe_lst (pa_cons (C8.pe_c c_law_pick hr (by decide) rfl (pa_cons (pv 0) (pa_cons (pv 3) pa_nil))) pa_nil)))) pss_nil)
      (pss_one (ps_ret (pe_tup (pa_cons (pv 4) (pa_cons (pv 5) pa_nil))))))))), ?_⟩
    walk_at "rd"
    refine ⟨A, a, _, rfl, hm, W.src, by omega, by omega, fun z H1 hz0 hz1 g1 => ?_⟩
    have W1 := W.go g1
    obtain ⟨N, rfl⟩ : ∃ N : Nat, z = (N : Int) := ⟨z.toNat, by omega⟩
    walk_at "rd"
    -- moves
    refine fun L hL => lc_D (A := A) (S := S) (j := 6) (Xp := fun _ _ => True) (fun i ds => ds.length = i ∧ ∀ d ∈ ds, ∃ r : List Int, d = rowD r ∧ (r.length = n.toNat ∧ ∀ x ∈ r, 0 ≤ x ∧ x < (1 + N : Int)))
      (walk_range (lo := 0)) (fun i H x H' _ y => ⟨y.1, trivial⟩) W1 hL (by omega) (fun _ _ => trivial) ⟨rfl, by simp⟩ (fun i ds h => by omega) (fun _ => rfl) (fun i ds x H2 hi h _ W2 k2 Kt Kf ht hf => ?_) (fun ys ds H2 h g2 hL2 hr2 => ?_)
    · refine yes_go ?_
      walk_at "rd"
      refine fun L1 hL1 => lc_D (A := A) (S := L :: S) (j := 7) (Xp := fun _ _ => True) (fun i ds => ds.length = i ∧ ∀ d ∈ ds, ∃ r : Int, d = .int r ∧ (0 ≤ r ∧ r < (1 + N : Int)))
        (walk_range (lo := 0)) (fun i H x H' _ y => ⟨y.1, trivial⟩) W2 hL1 (by omega) (fun _ _ => trivial) ⟨rfl, by simp⟩ (fun i ds h => by omega) (fun _ => rfl) (fun i ds x H2 hi h _ W2 k2 Kt Kf ht hf => ?_) (fun ys1 ds1 H3 h1 g3 hL3 hr3 => ?_)
      · refine yes_go ?_
        walk_at "rd"
        refine ⟨A, a, _, rfl, hm, W2.src, by omega, by omega, fun r H3 hr0 hr1 g3 => ht (.int r) (.int r) H3 g3 (.int r) ⟨by simp [h.1], fun d hd => ?_⟩⟩
        rcases List.mem_append.mp hd with hd | hd
        · exact h.2 d hd
        · exact ⟨r, List.mem_singleton.mp hd, hr0, hr1⟩
      · obtain ⟨rs, rfl, hrs⟩ := maps_of h1.2
        refine ht (.ref L1) (rowD rs) H3 g3 (.lst (W2.fresh hL1) hL3 (hr3.less fun _ q => List.mem_cons_of_mem _ q)) ⟨by simp [h.1], fun d hd => ?_⟩
        rcases List.mem_append.mp hd with hd | hd
        · exact h.2 d hd
        · exact ⟨rs, List.mem_singleton.mp hd, by have := h1.1; simp at this; omega, hrs⟩
    · obtain ⟨rows, rfl, hrows⟩ := maps_of h.2
      have hlen : rows.length = 1 + N := by have := h.1; simp at this; omega
      have r1 : Rp S H2 (.ref L) (mvD rows) := .lst (W1.fresh hL) hL2 (hr2.less fun _ q => List.mem_cons_of_mem _ q)
      clear hr2 h
      have W2 := W1.go g2
      walk_at "rd"
      -- good
      refine fun L1 hL1 => lc_D (A := A) (S := S) (j := 6) (Xp := fun i x => x = .int (0 + (i : Int))) (fun i ds => ∃ g : List Int, ds = g.map .int ∧ g.Pairwise (· < ·) ∧ ∀ x ∈ g, 0 ≤ x ∧ x < (i : Int))
        (walk_range (lo := 0)) (fun i H x H' _ y => ⟨y.1, y.2⟩) W2 hL1 (by omega) (fun _ _ => trivial) ⟨[], rfl, by simp, by simp⟩ (fun i ds h => ?_) (fun _ => rfl) (fun i ds x H3 hi h hx W3 k3 Kt Kf ht hf => ?_) (fun ys1 ds1 H3 h1 g3 hL3 hr3 => ?_)
      · obtain ⟨g, rfl, hg, hb⟩ := h
        rw [List.length_map]
        exact asc_le (lo := 0) hg (fun x hx => by have := hb x hx; omega)
      · obtain ⟨g, rfl, hg, hb⟩ := h
        subst hx
        walk_at "rd"
        refine ⟨A, a, _, rfl, hm, W3.src, by omega, by omega, fun r H4 hr0 hr1 g4 => ?_⟩
        walk_at "rd"
        refine ite2 (fun _ => ?_) (fun _ => ?_)
        · walk_at "rd"
          refine ht _ (.int (0 + (i : Int))) H4 g4 (.int _) ⟨g ++ [0 + (i : Int)], by simp, ?_, fun x hx => ?_⟩
          · refine List.pairwise_append.mpr ⟨hg, by simp, fun x hx y hy => ?_⟩
            rw [List.mem_singleton.mp hy]
            have := (hb x hx).2
            omega
          · rcases List.mem_append.mp hx with hx | hx
            · have := hb x hx
              omega
            · rw [List.mem_singleton.mp hx]
              omega
        · exact hf H4 g4 ⟨g, rfl, hg, fun x hx => by have := hb x hx; omega⟩
      · obtain ⟨g, rfl, hg, hb⟩ := h1
        have W3 := W2.go g3
        have r1' := r1.go W2 g3
        have e1 : ys1 = g.map V.int := hr3.ints_eq
        subst e1
        refine ⟨fun σ' H' => ∃ (L2 : Addr) (g2 : List Int), Go A H3 H' ∧ Rp S H' (.ref L2) (rowD g2) ∧ g2.Pairwise (· < ·) ∧ (∀ x ∈ g2, 0 ≤ x ∧ x < (1 + N : Int)) ∧
          σ' = [some (.ref a), some (.int n), some (.int m), some (.int (1 + N)), some (.ref L), some (.ref L2), none, none], ?_, ?_⟩
        · refine ⟨_, rfl, _, _, rfl, .inl (SqL.of hL3), ?_⟩
          walk_at "rd"
          refine ite2 (fun _ => ?_) (fun _ => ?_)
          · walk_at "rd"
            refine ⟨A, a, _, rfl, hm, W3.src, by omega, by omega, fun r H4 hr0 hr1 g4 => ?_⟩
            walk_at "rd"
            refine ite2 (fun _ => ?_) (fun _ => ?_)
            · walk_at "rd"
              refine ⟨A, a, _, rfl, hm, (W3.go g4).src, by omega, by omega, fun r5 H5 hr50 hr51 g5 => ?_⟩
              walk_at "rd"
              intro p hp
              have W5 := (W3.go g4).go g5
              exact ⟨p, [r5], (g4.trans g5).trans (Go.new hp), .lst (W5.fresh hp) upd_same (.cons (.int _) .nil), by simp, fun x hx => by rw [List.mem_singleton.mp hx]; exact ⟨hr50, hr51⟩, rfl⟩
            · exact ⟨L1, g, g4, (Rp.lst (W2.fresh hL1) hL3 (Rps.ints g)).go W3 g4, hg, fun x hx => by have := hb x hx; omega, rfl⟩
          · exact ⟨L1, g, Go.refl _ _, .lst (W2.fresh hL1) hL3 (Rps.ints g), hg, fun x hx => by have := hb x hx; omega, rfl⟩
        · rintro σ4 H4 ⟨L2, gl, g4, r2, hg2, hb2, rfl⟩
          walk_at "rd"
          intro p hp
          have W4 := W3.go g4
          have gp := Go.new (A := A) (o := .tup [.ref L, .ref L2]) hp
          refine k _ rows gl _ ((((g1.trans g2).trans g3).trans g4).trans gp) (.tup (W4.fresh hp) upd_same (.cons ((r1'.go W3 g4).go W4 gp) (.cons (r2.go W4 gp) .nil))) ⟨by omega, by omega, fun r hr => ?_, hg2, fun x hx => by have := hb2 x hx; omega⟩
          have := hrows r hr
          exact ⟨this.1, fun x hx => by have := this.2 x hx; omega⟩
end

/-! ### own classes, errors, _law_words -/
/-- where the own classes stand -/
structure Ad where
  (LotsError WrongThing BadAlphabet BadLetter BadNumber WrongItem BadText BadMoves BadGood BadLots BadTexts TooMany Unlike NoName Reader : Addr)
inductive Er | alphabet | text | moves | good
def Er.cls (ad : Ad) : Er → Addr
  | .alphabet => ad.BadAlphabet | .text => ad.BadText | .moves => ad.BadMoves | .good => ad.BadGood
def Er.fld : Er → Str
  | .alphabet => "thing" | _ => "at"
def Er.word : Er → Str
  | .alphabet => "alphabet" | .text => "text" | .moves => "moves" | .good => "good"
def Er.thing : Er → Bool
  | .alphabet => true | _ => false
def Er.is : Er → Er → Bool
  | .alphabet, .alphabet => true | .text, .text => true | .moves, .moves => true | .good, .good => true | _, _ => false
/-- what the written part says of an error's class -/
structure ErC (K : PySem.W.Frag) (ad : Ad) (e : Er) : Prop where
  exc : ExcC K (e.cls ad)
  xf : XfC K (e.cls ad)
  no : PySem.W.findIn K (.ref (e.cls ad)) e.fld = some none
  kV : PySem.W.kitOne K (.ref (e.cls ad)) (.type "ValueError") = some true
  kT : PySem.W.kitOne K (.ref (e.cls ad)) (.ref ad.WrongThing) = some e.thing
  kI : PySem.W.kitOne K (.ref (e.cls ad)) (.ref ad.WrongItem) = some (!e.thing)
  kE : ∀ e2 : Er, PySem.W.kitOne K (.ref (e.cls ad)) (.ref (e2.cls ad)) = some (e.is e2)
  kO : PySem.W.kitAny K (.ref (e.cls ad)) [.ref ad.BadLetter, .ref ad.BadLots, .ref ad.BadNumber, .ref ad.BadTexts, .ref ad.NoName, .ref ad.TooMany, .ref ad.Unlike] = some false
  kL : PySem.W.exmOne K (.ref (e.cls ad)) (.ref ad.LotsError) = some true
/-- where the module's names stand -/
structure Own (K : PySem.W.Frag) (mg : Str → Option Value) (ad : Ad) : Prop where
  g_LotsError : mg "LotsError" = some (.ref ad.LotsError)
  g_WrongThing : mg "WrongThing" = some (.ref ad.WrongThing)
  g_BadAlphabet : mg "BadAlphabet" = some (.ref ad.BadAlphabet)
  g_BadLetter : mg "BadLetter" = some (.ref ad.BadLetter)
  g_BadNumber : mg "BadNumber" = some (.ref ad.BadNumber)
  g_WrongItem : mg "WrongItem" = some (.ref ad.WrongItem)
  g_BadText : mg "BadText" = some (.ref ad.BadText)
  g_BadMoves : mg "BadMoves" = some (.ref ad.BadMoves)
  g_BadGood : mg "BadGood" = some (.ref ad.BadGood)
  g_BadLots : mg "BadLots" = some (.ref ad.BadLots)
  g_BadTexts : mg "BadTexts" = some (.ref ad.BadTexts)
  g_TooMany : mg "TooMany" = some (.ref ad.TooMany)
  g_Unlike : mg "Unlike" = some (.ref ad.Unlike)
  g_NoName : mg "NoName" = some (.ref ad.NoName)
  g_Reader : mg "Reader" = some (.ref ad.Reader)
  err : ∀ e, ErC K ad e
/-- what may be told of an error -/
def Er.okV : Er → V → Prop
  | .alphabet => fun _ => True
  | _ => fun v => ∃ i : Int, v = .int i ∧ i.natAbs.log2 < 1920
/-- how it is made -/
structure Sup (P : Program) (w : World) (K : PySem.W.Frag) (mg : Str → Option Value) (ad : Ad) (e : Er) : Prop where
  ex : ∃ (D fI : Addr) (arg : Expr) (ok : Value → Prop), SupX.SupTxt P w K mg (e.cls ad) D fI e.fld arg ok ∧ ∀ v u, RelV v u → e.okV v → ok u
/-- an error's one field: its value v, as data pd -/
structure ErV (H : Hp) (e : Er) (v : V) (pd : PyData) : Prop where
  sh : Sh H v pd
  sz : pd.shown.length ≤ 1000
  it : ∀ i, pd = .int i → i.natAbs.log2 < 1920
/-- the words told of an error -/
def Er.words (e : Er) (pd : PyData) : List Str := ["value", (if e.thing = true then "thing " else "item ") ++ pd.shown, e.word]
abbrev sWords : Stmt := top 48
def spWords (ad : Ad) (a : Addr) (c : Value) (d : Option Addr) : Sp := fun vs H Q _ => vs = [.ref a] ∧ ∃ (e : Er) (dd : Addr) (v : V) (pd : PyData), c = .ref (e.cls ad) ∧ d = some dd ∧ H dd = some (.xd [(e.fld, v)]) ∧ ErV H e v pd ∧
  ∀ (p : Addr) (H' : Hp), H p = none → Same H H' → H' p = some (.lst ((e.words pd).map V.str)) → Q (.ref p) H'
theorem Sh.go {H H1 : Hp} {v : V} {pd : PyData} (h : Sh H v pd) (s : Same H H1) : Sh H1 v pd := by
  cases h with
  | non => exact .non
  | bl b => exact .bl b
  | int i => exact .int i
  | str x => exact .str x
  | lst e => exact .lst (s _ _ e)
  | tup e => exact .tup (s _ _ e)
/-! the reading's steps -/
structure Wk (H : Hp) (dd : Addr) (fs : List (Str × V)) (l : Addr) (xs : List Str) (H1 : Hp) : Prop where
  same : Same H H1
  ex : H1 dd = some (.xd fs)
  at_ : H1 l = some (.lst (xs.map V.str))
theorem Wk.new {H : Hp} {dd l : Addr} {fs : List (Str × V)} (hd : H dd = some (.xd fs)) (hl : H l = none) : Wk H dd fs l [] (upd H l (.lst [])) := ⟨Same.new hl, by rw [upd_ne (ne_of_none hd hl)]; exact hd, upd_same⟩
theorem Wk.app {H H1 : Hp} {dd l : Addr} {fs : List (Str × V)} {xs : List Str} (h : Wk H dd fs l xs H1) (hl : H l = none) (y : Str) : Wk H dd fs l (xs ++ [y]) (upd H1 l (.lst (xs.map V.str ++ [V.str y]))) :=
  ⟨fun b u e => by rw [upd_ne (ne_of_none e hl)]; exact h.same b u e, by rw [upd_ne (ne_of h.ex h.at_ (fun z => by cases z))]; exact h.ex, by rw [upd_same, List.map_append]; rfl⟩
section
variable {K : PySem.W.Frag} {D dd a l : Addr} {y : V} {u : Value} {tA tN : TS} {E : Ends} {σ : L2.St} {H H1 : Hp} {fs : List (Str × V)} {xs : List Str}
theorem isP_yes (h0 : σ[0]? = some (some (.ref a))) (hy : ClsV y u) (hk : PySem.W.kitOne K (.ref D) u = some true) (w : Wk H dd fs l xs H1) (h : tA E σ H1) : tIfS (tB (tCB (rIsP K D dd a) (tCons (tVar 0) (tCons (tC y) tNil)))) tA tN E σ H1 :=
  ⟨_, h0, _, _, _, _, rfl, hy, hk, w.ex, _, rfl, iteT h⟩
theorem isP_no (h0 : σ[0]? = some (some (.ref a))) (hy : ClsV y u) (hk : PySem.W.kitOne K (.ref D) u = some false) (w : Wk H dd fs l xs H1) (h : tN E σ H1) : tIfS (tB (tCB (rIsP K D dd a) (tCons (tVar 0) (tCons (tC y) tNil)))) tA tN E σ H1 :=
  ⟨_, h0, _, _, _, _, rfl, hy, hk, w.ex, _, rfl, iteF h⟩
theorem app_step {z : Str} (hl : H l = none) (h0 : σ[1]? = some (some (.ref l))) (w : Wk H dd fs l xs H1) (hz : Nat.ble xs.length 100 = true) (h : ∀ H2, Wk H dd fs l (xs ++ [z]) H2 → E.nx σ H2) :
    tDrop (tBM K "list" rAppend (tVar 1) (tCons (tC (V.str z)) tNil)) E σ H1 :=
  ⟨_, h0, .inl ⟨rfl, _, SqL.of w.at_⟩, _, _, _, rfl, rfl, w.at_, Nat.lt_of_le_of_lt (by rw [List.length_map]; exact Nat.le_of_ble_eq_true hz) (by decide), h _ (w.app hl z)⟩
end
section
open PyProof.Rows
variable {P : Program} {w : World} {K : PySem.W.Frag} {mg : Str → Option Value} {base : Heap} {ad : Ad}
theorem scWords : FnScope ["error", "words"] ["error"] (C8.fnScope sWords) := C8.fnScope_by (by decide +kernel)
theorem ok_words {f : Addr} {fd : FuncData} (F : C8.Def K mg "_law_words" sWords f fd) (b : Binds K fd ["error"] []) (T : Txt mg) (O : Own K mg ad) : CalE Gd P w K mg base 1 "_law_words" (spWords ad) := by
  refine calE (fun A env h => h.deeper env) F b scWords (fun a c d vs H Q E h => ?_) (fun cdv A outer s H vs Q E p c d hz hr hc hf h => ?_)
  · rw [h.1]; rfl
  · obtain ⟨rfl, e, dd, v, pd, rfl, rfl, hd, hv, k⟩ := h
    have sc := scWords
    have hp : (p.1, p.2) ∈ ([p] : List (Addr × Obj)) := List.mem_cons_self ..
    have hg := hz
    have hu : (A.deeper (envOfC "_law_words" (C8.fnScope sWords) s.heap.objs.size f cdv)).units + 64 < cLine := by have := hr.un; omega
    have C := O.err e
    have hsz : ∀ x : Str, x.length ≤ 100 → x.length + pd.shown.length ≤ sizeLine := fun x hx => Nat.le_trans (Nat.add_le_add hx hv.sz) (by decide)
    cases e
    · refine ⟨_, -- _law_words: 0 error 1 words

      (pss_cons (ps_set (i := 1) sc.nd rfl (Or.inl rfl) (pe_lst pa_nil))
      (pss_cons (ps_if (pt_val (pe_callB (call_isP C.exc hp hc hf) (by rfl) T.isinstance (by decide +kernel) (pa_cons (pv 0) (pa_cons (pe_bltn (v := .ty "ValueError") (u := .type "ValueError") rfl T.ValueError (by decide +kernel) rfl) pa_nil)))) 
        (pss_one (ps_expr (pe_append (K := K) rfl (pv 1) (pa_cons pe_str pa_nil)))) pss_nil)
      (pss_cons (ps_if (pt_val (pe_callB (call_isP C.exc hp hc hf) (by rfl) T.isinstance (by decide +kernel) (pa_cons (pv 0) (pa_cons (pe_glob (v := .ref ad.WrongThing) rfl O.g_WrongThing rfl) pa_nil)))) 
        (pss_one (ps_expr (pe_append (K := K) rfl (pv 1) (pa_cons (pe_op op_add_str pe_str (pe_callB (call_repr hg hu) (by rfl) T.repr (by decide +kernel) (pa_cons (pe_xfP C.xf C.no hp hc hf (pv 0)) pa_nil))) pa_nil)))) pss_nil)
      (pss_cons (ps_if (pt_val (pe_callB (call_isP C.exc hp hc hf) (by rfl) T.isinstance (by decide +kernel) (pa_cons (pv 0) (pa_cons (pe_glob (v := .ref ad.WrongItem) rfl O.g_WrongItem rfl) pa_nil)))) (pss_one ps_never) pss_nil)
      (pss_cons (ps_if (pt_val (pe_callB (call_isP C.exc hp hc hf) (by rfl) T.isinstance (by decide +kernel) (pa_cons (pv 0) (pa_cons (pe_glob (v := .ref ad.BadAlphabet) rfl O.g_BadAlphabet rfl) pa_nil)))) 
        (pss_one (ps_expr (pe_append (K := K) rfl (pv 1) (pa_cons pe_str pa_nil)))) pss_nil)
      (pss_cons (ps_if (pt_val (pe_callB (call_isP C.exc hp hc hf) (by rfl) T.isinstance (by decide +kernel) (pa_cons (pv 0) (pa_cons (pe_glob (v := .ref ad.BadMoves) rfl O.g_BadMoves rfl) pa_nil)))) 
        (pss_one (ps_expr (pe_append (K := K) rfl (pv 1) (pa_cons pe_str pa_nil)))) pss_nil)
      (pss_cons (ps_if (pt_val (pe_callB (call_isP C.exc hp hc hf) (by rfl) T.isinstance (by decide +kernel) (pa_cons (pv 0) (pa_cons (pe_glob (v := .ref ad.BadGood) rfl O.g_BadGood rfl) pa_nil)))) 
        (pss_one (ps_expr (pe_append (K := K) rfl (pv 1) (pa_cons pe_str pa_nil)))) pss_nil)
      (pss_cons (ps_if (pt_val (pe_callB (call_isP C.exc hp hc hf) (by rfl) T.isinstance (by decide +kernel) (pa_cons (pv 0) (pa_cons (pe_glob (v := .ref ad.BadText) rfl O.g_BadText rfl) pa_nil)))) 
        (pss_one (ps_expr (pe_append (K := K) rfl (pv 1) (pa_cons pe_str pa_nil)))) pss_nil)
      (pss_cons (ps_if (pt_val (pe_callB (call_isPT C.exc hp hc hf) (by rfl) T.isinstance (by decide +kernel) (pa_cons (pv 0) (pa_cons (pe_tup (pa_cons (pe_glob (v := .ref ad.BadLetter) rfl O.g_BadLetter rfl) (pa_cons (pe_glob (v := .ref ad.BadLots) rfl O.g_BadLots rfl) (pa_cons (pe_glob (v := .ref ad.BadNumber) rfl O.g_BadNumber rfl) (pa_cons (pe_glob (v := .ref ad.BadTexts) rfl O.g_BadTexts rfl) (pa_cons (pe_glob (v := .ref ad.NoName) rfl O.g_NoName rfl) (pa_cons (pe_glob (v := .ref ad.TooMany) rfl O.g_TooMany rfl) (pa_cons (pe_glob (v := .ref ad.Unlike) rfl O.g_Unlike rfl) pa_nil)))))))) pa_nil)))) 
        (pss_one (ps_expr (pe_append (K := K) rfl (pv 1) (pa_cons pe_str pa_nil)))) pss_nil)
      (pss_one (ps_ret (pv 1)))))))))))), ?_⟩
      refine ⟨by show 0 ≤ sizeLine; exact Nat.zero_le _, fun l hl => ?_⟩
      refine isP_yes rfl (.ty _) C.kV (Wk.new hd hl) (app_step hl rfl (Wk.new hd hl) rfl fun H1 w1 => ?_)
      refine isP_yes rfl (.own _) C.kT w1 ?_
      refine ⟨_, rfl, .inl ⟨rfl, _, SqL.of w1.at_⟩, ?_⟩
      refine ⟨_, rfl, rfl, _, _, w1.ex, rfl, ?_⟩
      refine ⟨_, _, rfl, hv.sh.go w1.same, Nat.le_trans hv.sz (by decide), hv.it, ?_⟩
      refine ⟨_, _, rfl, rfl, hsz _ (by decide), _, _, _, rfl, rfl, w1.at_, by show 1 < sizeLine; decide, ?_⟩
      have w2 := w1.app hl ("thing " ++ pd.shown)
      revert w2
      generalize upd H1 l _ = H2
      intro w2
      refine isP_no rfl (.own _) C.kI w2 ?_
      refine isP_yes rfl (.own _) (C.kE .alphabet) w2 (app_step hl rfl w2 rfl fun H3 w3 => ?_)
      refine isP_no rfl (.own _) (C.kE .moves) w3 ?_
      refine isP_no rfl (.own _) (C.kE .good) w3 ?_
      refine isP_no rfl (.own _) (C.kE .text) w3 ?_
      refine ⟨_, rfl, by show 7 ≤ sizeLine; decide, fun q hq => ?_⟩
      have w3' := Same.new (o := .tup [V.ref ad.BadLetter, V.ref ad.BadLots, V.ref ad.BadNumber, V.ref ad.BadTexts, V.ref ad.NoName, V.ref ad.TooMany, V.ref ad.Unlike]) hq
      refine ⟨_, _, _, _, _, rfl, upd_same, .cons (.own _) (.cons (.own _) (.cons (.own _) (.cons (.own _) (.cons (.own _) (.cons (.own _) (.cons (.own _) .nil)))))), C.kO, w3' _ _ w3.ex, _, rfl, iteF ?_⟩
      exact ⟨_, rfl, k l _ hl (w3.same.trans w3') (w3' _ _ w3.at_)⟩
    · refine ⟨_, -- _law_words: 0 error 1 words

      (pss_cons (ps_set (i := 1) sc.nd rfl (Or.inl rfl) (pe_lst pa_nil))
      (pss_cons (ps_if (pt_val (pe_callB (call_isP C.exc hp hc hf) (by rfl) T.isinstance (by decide +kernel) (pa_cons (pv 0) (pa_cons (pe_bltn (v := .ty "ValueError") (u := .type "ValueError") rfl T.ValueError (by decide +kernel) rfl) pa_nil)))) 
        (pss_one (ps_expr (pe_append (K := K) rfl (pv 1) (pa_cons pe_str pa_nil)))) pss_nil)
      (pss_cons (ps_if (pt_val (pe_callB (call_isP C.exc hp hc hf) (by rfl) T.isinstance (by decide +kernel) (pa_cons (pv 0) (pa_cons (pe_glob (v := .ref ad.WrongThing) rfl O.g_WrongThing rfl) pa_nil)))) (pss_one ps_never) pss_nil)
      (pss_cons (ps_if (pt_val (pe_callB (call_isP C.exc hp hc hf) (by rfl) T.isinstance (by decide +kernel) (pa_cons (pv 0) (pa_cons (pe_glob (v := .ref ad.WrongItem) rfl O.g_WrongItem rfl) pa_nil)))) 
        (pss_one (ps_expr (pe_append (K := K) rfl (pv 1) (pa_cons (pe_op op_add_str pe_str (pe_callB (call_repr hg hu) (by rfl) T.repr (by decide +kernel) (pa_cons (pe_xfP C.xf C.no hp hc hf (pv 0)) pa_nil))) pa_nil)))) pss_nil)
      (pss_cons (ps_if (pt_val (pe_callB (call_isP C.exc hp hc hf) (by rfl) T.isinstance (by decide +kernel) (pa_cons (pv 0) (pa_cons (pe_glob (v := .ref ad.BadAlphabet) rfl O.g_BadAlphabet rfl) pa_nil)))) 
        (pss_one (ps_expr (pe_append (K := K) rfl (pv 1) (pa_cons pe_str pa_nil)))) pss_nil)
      (pss_cons (ps_if (pt_val (pe_callB (call_isP C.exc hp hc hf) (by rfl) T.isinstance (by decide +kernel) (pa_cons (pv 0) (pa_cons (pe_glob (v := .ref ad.BadMoves) rfl O.g_BadMoves rfl) pa_nil)))) 
        (pss_one (ps_expr (pe_append (K := K) rfl (pv 1) (pa_cons pe_str pa_nil)))) pss_nil)
      (pss_cons (ps_if (pt_val (pe_callB (call_isP C.exc hp hc hf) (by rfl) T.isinstance (by decide +kernel) (pa_cons (pv 0) (pa_cons (pe_glob (v := .ref ad.BadGood) rfl O.g_BadGood rfl) pa_nil)))) 
        (pss_one (ps_expr (pe_append (K := K) rfl (pv 1) (pa_cons pe_str pa_nil)))) pss_nil)
      (pss_cons (ps_if (pt_val (pe_callB (call_isP C.exc hp hc hf) (by rfl) T.isinstance (by decide +kernel) (pa_cons (pv 0) (pa_cons (pe_glob (v := .ref ad.BadText) rfl O.g_BadText rfl) pa_nil)))) 
        (pss_one (ps_expr (pe_append (K := K) rfl (pv 1) (pa_cons pe_str pa_nil)))) pss_nil)
      (pss_cons (ps_if (pt_val (pe_callB (call_isPT C.exc hp hc hf) (by rfl) T.isinstance (by decide +kernel) (pa_cons (pv 0) (pa_cons (pe_tup (pa_cons (pe_glob (v := .ref ad.BadLetter) rfl O.g_BadLetter rfl) (pa_cons (pe_glob (v := .ref ad.BadLots) rfl O.g_BadLots rfl) (pa_cons (pe_glob (v := .ref ad.BadNumber) rfl O.g_BadNumber rfl) (pa_cons (pe_glob (v := .ref ad.BadTexts) rfl O.g_BadTexts rfl) (pa_cons (pe_glob (v := .ref ad.NoName) rfl O.g_NoName rfl) (pa_cons (pe_glob (v := .ref ad.TooMany) rfl O.g_TooMany rfl) (pa_cons (pe_glob (v := .ref ad.Unlike) rfl O.g_Unlike rfl) pa_nil)))))))) pa_nil)))) 
        (pss_one (ps_expr (pe_append (K := K) rfl (pv 1) (pa_cons pe_str pa_nil)))) pss_nil)
      (pss_one (ps_ret (pv 1)))))))))))), ?_⟩
      refine ⟨by show 0 ≤ sizeLine; exact Nat.zero_le _, fun l hl => ?_⟩
      refine isP_yes rfl (.ty _) C.kV (Wk.new hd hl) (app_step hl rfl (Wk.new hd hl) rfl fun H1 w1 => ?_)
      refine isP_no rfl (.own _) C.kT w1 ?_
      refine isP_yes rfl (.own _) C.kI w1 ?_
      refine ⟨_, rfl, .inl ⟨rfl, _, SqL.of w1.at_⟩, ?_⟩
      refine ⟨_, rfl, rfl, _, _, w1.ex, rfl, ?_⟩
      refine ⟨_, _, rfl, hv.sh.go w1.same, Nat.le_trans hv.sz (by decide), hv.it, ?_⟩
      refine ⟨_, _, rfl, rfl, hsz _ (by decide), _, _, _, rfl, rfl, w1.at_, by show 1 < sizeLine; decide, ?_⟩
      have w2 := w1.app hl ("item " ++ pd.shown)
      revert w2
      generalize upd H1 l _ = H2
      intro w2
      refine isP_no rfl (.own _) (C.kE .alphabet) w2 ?_
      refine isP_no rfl (.own _) (C.kE .moves) w2 ?_
      refine isP_no rfl (.own _) (C.kE .good) w2 ?_
      refine isP_yes rfl (.own _) (C.kE .text) w2 (app_step hl rfl w2 rfl fun H3 w3 => ?_)
      refine ⟨_, rfl, by show 7 ≤ sizeLine; decide, fun q hq => ?_⟩
      have w3' := Same.new (o := .tup [V.ref ad.BadLetter, V.ref ad.BadLots, V.ref ad.BadNumber, V.ref ad.BadTexts, V.ref ad.NoName, V.ref ad.TooMany, V.ref ad.Unlike]) hq
      refine ⟨_, _, _, _, _, rfl, upd_same, .cons (.own _) (.cons (.own _) (.cons (.own _) (.cons (.own _) (.cons (.own _) (.cons (.own _) (.cons (.own _) .nil)))))), C.kO, w3' _ _ w3.ex, _, rfl, iteF ?_⟩
      exact ⟨_, rfl, k l _ hl (w3.same.trans w3') (w3' _ _ w3.at_)⟩
    · refine ⟨_, -- _law_words: 0 error 1 words

      (pss_cons (ps_set (i := 1) sc.nd rfl (Or.inl rfl) (pe_lst pa_nil))
      (pss_cons (ps_if (pt_val (pe_callB (call_isP C.exc hp hc hf) (by rfl) T.isinstance (by decide +kernel) (pa_cons (pv 0) (pa_cons (pe_bltn (v := .ty "ValueError") (u := .type "ValueError") rfl T.ValueError (by decide +kernel) rfl) pa_nil)))) 
        (pss_one (ps_expr (pe_append (K := K) rfl (pv 1) (pa_cons pe_str pa_nil)))) pss_nil)
      (pss_cons (ps_if (pt_val (pe_callB (call_isP C.exc hp hc hf) (by rfl) T.isinstance (by decide +kernel) (pa_cons (pv 0) (pa_cons (pe_glob (v := .ref ad.WrongThing) rfl O.g_WrongThing rfl) pa_nil)))) (pss_one ps_never) pss_nil)
      (pss_cons (ps_if (pt_val (pe_callB (call_isP C.exc hp hc hf) (by rfl) T.isinstance (by decide +kernel) (pa_cons (pv 0) (pa_cons (pe_glob (v := .ref ad.WrongItem) rfl O.g_WrongItem rfl) pa_nil)))) 
        (pss_one (ps_expr (pe_append (K := K) rfl (pv 1) (pa_cons (pe_op op_add_str pe_str (pe_callB (call_repr hg hu) (by rfl) T.repr (by decide +kernel) (pa_cons (pe_xfP C.xf C.no hp hc hf (pv 0)) pa_nil))) pa_nil)))) pss_nil)
      (pss_cons (ps_if (pt_val (pe_callB (call_isP C.exc hp hc hf) (by rfl) T.isinstance (by decide +kernel) (pa_cons (pv 0) (pa_cons (pe_glob (v := .ref ad.BadAlphabet) rfl O.g_BadAlphabet rfl) pa_nil)))) 
        (pss_one (ps_expr (pe_append (K := K) rfl (pv 1) (pa_cons pe_str pa_nil)))) pss_nil)
      (pss_cons (ps_if (pt_val (pe_callB (call_isP C.exc hp hc hf) (by rfl) T.isinstance (by decide +kernel) (pa_cons (pv 0) (pa_cons (pe_glob (v := .ref ad.BadMoves) rfl O.g_BadMoves rfl) pa_nil)))) 
        (pss_one (ps_expr (pe_append (K := K) rfl (pv 1) (pa_cons pe_str pa_nil)))) pss_nil)
      (pss_cons (ps_if (pt_val (pe_callB (call_isP C.exc hp hc hf) (by rfl) T.isinstance (by decide +kernel) (pa_cons (pv 0) (pa_cons (pe_glob (v := .ref ad.BadGood) rfl O.g_BadGood rfl) pa_nil)))) 
        (pss_one (ps_expr (pe_append (K := K) rfl (pv 1) (pa_cons pe_str pa_nil)))) pss_nil)
      (pss_cons (ps_if (pt_val (pe_callB (call_isP C.exc hp hc hf) (by rfl) T.isinstance (by decide +kernel) (pa_cons (pv 0) (pa_cons (pe_glob (v := .ref ad.BadText) rfl O.g_BadText rfl) pa_nil)))) 
        (pss_one (ps_expr (pe_append (K := K) rfl (pv 1) (pa_cons pe_str pa_nil)))) pss_nil)
      (pss_cons (ps_if (pt_val (pe_callB (call_isPT C.exc hp hc hf) (by rfl) T.isinstance (by decide +kernel) (pa_cons (pv 0) (pa_cons (pe_tup (pa_cons (pe_glob (v := .ref ad.BadLetter) rfl O.g_BadLetter rfl) (pa_cons (pe_glob (v := .ref ad.BadLots) rfl O.g_BadLots rfl) (pa_cons (pe_glob (v := .ref ad.BadNumber) rfl O.g_BadNumber rfl) (pa_cons (pe_glob (v := .ref ad.BadTexts) rfl O.g_BadTexts rfl) (pa_cons (pe_glob (v := .ref ad.NoName) rfl O.g_NoName rfl) (pa_cons (pe_glob (v := .ref ad.TooMany) rfl O.g_TooMany rfl) (pa_cons (pe_glob (v := .ref ad.Unlike) rfl O.g_Unlike rfl) pa_nil)))))))) pa_nil)))) 
        (pss_one (ps_expr (pe_append (K := K) rfl (pv 1) (pa_cons pe_str pa_nil)))) pss_nil)
      (pss_one (ps_ret (pv 1)))))))))))), ?_⟩
      refine ⟨by show 0 ≤ sizeLine; exact Nat.zero_le _, fun l hl => ?_⟩
      refine isP_yes rfl (.ty _) C.kV (Wk.new hd hl) (app_step hl rfl (Wk.new hd hl) rfl fun H1 w1 => ?_)
      refine isP_no rfl (.own _) C.kT w1 ?_
      refine isP_yes rfl (.own _) C.kI w1 ?_
      refine ⟨_, rfl, .inl ⟨rfl, _, SqL.of w1.at_⟩, ?_⟩
      refine ⟨_, rfl, rfl, _, _, w1.ex, rfl, ?_⟩
      refine ⟨_, _, rfl, hv.sh.go w1.same, Nat.le_trans hv.sz (by decide), hv.it, ?_⟩
      refine ⟨_, _, rfl, rfl, hsz _ (by decide), _, _, _, rfl, rfl, w1.at_, by show 1 < sizeLine; decide, ?_⟩
      have w2 := w1.app hl ("item " ++ pd.shown)
      revert w2
      generalize upd H1 l _ = H2
      intro w2
      refine isP_no rfl (.own _) (C.kE .alphabet) w2 ?_
      refine isP_yes rfl (.own _) (C.kE .moves) w2 (app_step hl rfl w2 rfl fun H3 w3 => ?_)
      refine isP_no rfl (.own _) (C.kE .good) w3 ?_
      refine isP_no rfl (.own _) (C.kE .text) w3 ?_
      refine ⟨_, rfl, by show 7 ≤ sizeLine; decide, fun q hq => ?_⟩
      have w3' := Same.new (o := .tup [V.ref ad.BadLetter, V.ref ad.BadLots, V.ref ad.BadNumber, V.ref ad.BadTexts, V.ref ad.NoName, V.ref ad.TooMany, V.ref ad.Unlike]) hq
      refine ⟨_, _, _, _, _, rfl, upd_same, .cons (.own _) (.cons (.own _) (.cons (.own _) (.cons (.own _) (.cons (.own _) (.cons (.own _) (.cons (.own _) .nil)))))), C.kO, w3' _ _ w3.ex, _, rfl, iteF ?_⟩
      exact ⟨_, rfl, k l _ hl (w3.same.trans w3') (w3' _ _ w3.at_)⟩
    · refine ⟨_, -- _law_words: 0 error 1 words

      (pss_cons (ps_set (i := 1) sc.nd rfl (Or.inl rfl) (pe_lst pa_nil))
      (pss_cons (ps_if (pt_val (pe_callB (call_isP C.exc hp hc hf) (by rfl) T.isinstance (by decide +kernel) (pa_cons (pv 0) (pa_cons (pe_bltn (v := .ty "ValueError") (u := .type "ValueError") rfl T.ValueError (by decide +kernel) rfl) pa_nil)))) 
        (pss_one (ps_expr (pe_append (K := K) rfl (pv 1) (pa_cons pe_str pa_nil)))) pss_nil)
      (pss_cons (ps_if (pt_val (pe_callB (call_isP C.exc hp hc hf) (by rfl) T.isinstance (by decide +kernel) (pa_cons (pv 0) (pa_cons (pe_glob (v := .ref ad.WrongThing) rfl O.g_WrongThing rfl) pa_nil)))) (pss_one ps_never) pss_nil)
      (pss_cons (ps_if (pt_val (pe_callB (call_isP C.exc hp hc hf) (by rfl) T.isinstance (by decide +kernel) (pa_cons (pv 0) (pa_cons (pe_glob (v := .ref ad.WrongItem) rfl O.g_WrongItem rfl) pa_nil)))) 
        (pss_one (ps_expr (pe_append (K := K) rfl (pv 1) (pa_cons (pe_op op_add_str pe_str (pe_callB (call_repr hg hu) (by rfl) T.repr (by decide +kernel) (pa_cons (pe_xfP C.xf C.no hp hc hf (pv 0)) pa_nil))) pa_nil)))) pss_nil)
      (pss_cons (ps_if (pt_val (pe_callB (call_isP C.exc hp hc hf) (by rfl) T.isinstance (by decide +kernel) (pa_cons (pv 0) (pa_cons (pe_glob (v := .ref ad.BadAlphabet) rfl O.g_BadAlphabet rfl) pa_nil)))) 
        (pss_one (ps_expr (pe_append (K := K) rfl (pv 1) (pa_cons pe_str pa_nil)))) pss_nil)
      (pss_cons (ps_if (pt_val (pe_callB (call_isP C.exc hp hc hf) (by rfl) T.isinstance (by decide +kernel) (pa_cons (pv 0) (pa_cons (pe_glob (v := .ref ad.BadMoves) rfl O.g_BadMoves rfl) pa_nil)))) 
        (pss_one (ps_expr (pe_append (K := K) rfl (pv 1) (pa_cons pe_str pa_nil)))) pss_nil)
      (pss_cons (ps_if (pt_val (pe_callB (call_isP C.exc hp hc hf) (by rfl) T.isinstance (by decide +kernel) (pa_cons (pv 0) (pa_cons (pe_glob (v := .ref ad.BadGood) rfl O.g_BadGood rfl) pa_nil)))) 
        (pss_one (ps_expr (pe_append (K := K) rfl (pv 1) (pa_cons pe_str pa_nil)))) pss_nil)
      (pss_cons (ps_if (pt_val (pe_callB (call_isP C.exc hp hc hf) (by rfl) T.isinstance (by decide +kernel) (pa_cons (pv 0) (pa_cons (pe_glob (v := .ref ad.BadText) rfl O.g_BadText rfl) pa_nil)))) 
        (pss_one (ps_expr (pe_append (K := K) rfl (pv 1) (pa_cons pe_str pa_nil)))) pss_nil)
      (pss_cons (ps_if (pt_val (pe_callB (call_isPT C.exc hp hc hf) (by rfl) T.isinstance (by decide +kernel) (pa_cons (pv 0) (pa_cons (pe_tup (pa_cons (pe_glob (v := .ref ad.BadLetter) rfl O.g_BadLetter rfl) (pa_cons (pe_glob (v := .ref ad.BadLots) rfl O.g_BadLots rfl) (pa_cons (pe_glob (v := .ref ad.BadNumber) rfl O.g_BadNumber rfl) (pa_cons (pe_glob (v := .ref ad.BadTexts) rfl O.g_BadTexts rfl) (pa_cons (pe_glob (v := .ref ad.NoName) rfl O.g_NoName rfl) (pa_cons (pe_glob (v := .ref ad.TooMany) rfl O.g_TooMany rfl) (pa_cons (pe_glob (v := .ref ad.Unlike) rfl O.g_Unlike rfl) pa_nil)))))))) pa_nil)))) 
        (pss_one (ps_expr (pe_append (K := K) rfl (pv 1) (pa_cons pe_str pa_nil)))) pss_nil)
      (pss_one (ps_ret (pv 1)))))))))))), ?_⟩
      refine ⟨by show 0 ≤ sizeLine; exact Nat.zero_le _, fun l hl => ?_⟩
      refine isP_yes rfl (.ty _) C.kV (Wk.new hd hl) (app_step hl rfl (Wk.new hd hl) rfl fun H1 w1 => ?_)
      refine isP_no rfl (.own _) C.kT w1 ?_
      refine isP_yes rfl (.own _) C.kI w1 ?_
      refine ⟨_, rfl, .inl ⟨rfl, _, SqL.of w1.at_⟩, ?_⟩
      refine ⟨_, rfl, rfl, _, _, w1.ex, rfl, ?_⟩
      refine ⟨_, _, rfl, hv.sh.go w1.same, Nat.le_trans hv.sz (by decide), hv.it, ?_⟩
      refine ⟨_, _, rfl, rfl, hsz _ (by decide), _, _, _, rfl, rfl, w1.at_, by show 1 < sizeLine; decide, ?_⟩
      have w2 := w1.app hl ("item " ++ pd.shown)
      revert w2
      generalize upd H1 l _ = H2
      intro w2
      refine isP_no rfl (.own _) (C.kE .alphabet) w2 ?_
      refine isP_no rfl (.own _) (C.kE .moves) w2 ?_
      refine isP_yes rfl (.own _) (C.kE .good) w2 (app_step hl rfl w2 rfl fun H3 w3 => ?_)
      refine isP_no rfl (.own _) (C.kE .text) w3 ?_
      refine ⟨_, rfl, by show 7 ≤ sizeLine; decide, fun q hq => ?_⟩
      have w3' := Same.new (o := .tup [V.ref ad.BadLetter, V.ref ad.BadLots, V.ref ad.BadNumber, V.ref ad.BadTexts, V.ref ad.NoName, V.ref ad.TooMany, V.ref ad.Unlike]) hq
      refine ⟨_, _, _, _, _, rfl, upd_same, .cons (.own _) (.cons (.own _) (.cons (.own _) (.cons (.own _) (.cons (.own _) (.cons (.own _) (.cons (.own _) .nil)))))), C.kO, w3' _ _ w3.ex, _, rfl, iteF ?_⟩
      exact ⟨_, rfl, k l _ hl (w3.same.trans w3') (w3' _ _ w3.at_)⟩
end

/-! ### is_integer, is_listed, is_alphabet, text_fault -/
def D.inr (lo hi : Int) : D → Bool
  | .int i => decide (lo ≤ i) && decide (i ≤ hi)
  | _ => false
abbrev sInteger : Stmt := top 18
abbrev sListed : Stmt := top 19
def spInteger : Sp := fun vs H Q _ => ∃ (S : List Addr) (v : V) (d : D) (lo hi : Int), vs = [v, .int lo, .int hi] ∧ Rp S H v d ∧ Q (.bl (d.inr lo hi)) H
def spListed : Sp := fun vs H Q _ => ∃ (S : List Addr) (v : V) (d : D), vs = [v] ∧ Rp S H v d ∧ ∀ H', Same H H' → Q (.bl (d.isa "tuple" || d.isa "list")) H'
section
open PyProof.Rows
variable {P : Program} {w : World} {K : PySem.W.Frag} {mg : Str → Option Value} {base : Heap}
theorem scInteger : FnScope ["thing", "low", "high"] ["thing", "low", "high"] (C8.fnScope sInteger) := C8.fnScope_by (by decide +kernel)
theorem ok_integer {f : Addr} {fd : FuncData} (F : C8.Def K mg "is_integer" sInteger f fd) (b : Binds K fd ["thing", "low", "high"] []) (T : Txt mg) : C8.Cal P w K mg base 1 "is_integer" spInteger [] := by
  refine C8.cal0 F b .nil scInteger (fun vs H Q E h => ?_) (fun cdv A outer s H vs Q E hr h => ?_)
  · obtain ⟨S, v, d, lo, hi, rfl, _⟩ := h
    rfl
  · obtain ⟨S, v, d, lo, hi, rfl, r, k⟩ := h
    have sc := scInteger
    refine ⟨_, -- is_integer: 0 thing 1 low 2 high

      (pss_cons (ps_if (PW.pt (pw_or (pt_val (pe_callB call_isi (by rfl) T.isinstance (by decide +kernel) (pa_cons (pv 0) (pa_cons (pe_bltn (v := .ty "bool") (u := .type "bool") rfl T.bool (by decide +kernel) rfl) pa_nil)))) (pw_or1 (pt_not (pt_val (pe_callB call_isi (by rfl) T.isinstance (by decide +kernel) (pa_cons (pv 0) (pa_cons (pe_bltn (v := .ty "int") (u := .type "int") rfl T.int (by decide +kernel) rfl) pa_nil)))))))) 
        (pss_one (ps_ret pe_bl)) pss_nil)
      (pss_one (ps_ret (pe_and (pe_cmpR op_ge (pv 0) (pv 1) (nomark _)) (pe_one (pe_or (pe_cmp (pc_isN (pv 2)) rfl) (pe_one (pe_cmpR op_le (pv 0) (pv 2) (nomark _))))))))), ?_⟩
    cases hb : d.isa "bool" with
    | true =>
      refine ⟨_, rfl, _, _, _, _, _, rfl, .ty _, r.ty, kit_lit (by decide) hb, _, rfl, iteT (iteT ?_)⟩
      have e : d.inr lo hi = false := by cases d <;> first | rfl | (simp [D.isa, D.tyn] at hb)
      rw [e] at k
      exact k
    | false =>
      refine ⟨_, rfl, _, _, _, _, _, rfl, .ty _, r.ty, kit_lit (by decide) hb, _, rfl, iteF ?_⟩
      cases hj : d.isa "int" with
      | false =>
        refine ⟨_, rfl, _, _, _, _, _, rfl, .ty _, r.ty, kit_lit (by decide) hj, ?_⟩
        have e : d.inr lo hi = false := by cases d <;> first | rfl | (simp [D.isa, D.tyn] at hj)
        refine ⟨_, rfl, iteT ?_⟩
        rw [e] at k
        exact k
      | true =>
        refine ⟨_, rfl, _, _, _, _, _, rfl, .ty _, r.ty, kit_lit (by decide) hj, ?_⟩
        obtain ⟨i, rfl⟩ : ∃ i, d = .int i := by cases d <;> first | exact ⟨_, rfl⟩ | (simp [D.isa, D.tyn] at hj hb)
        cases r
        refine ⟨_, rfl, iteF ?_⟩
        refine ⟨_, rfl, _, rfl, _, _, rfl, rfl, _, rfl, ?_⟩
        refine ite2 (fun h1 => ?_) (fun h1 => ?_)
        · refine ⟨_, rfl, _, rfl, iteF ?_⟩
          refine ⟨_, rfl, _, rfl, _, _, rfl, rfl, ?_⟩
          have e : (D.int i).inr lo hi = decide (i ≤ hi) := by
            show (decide (lo ≤ i) && decide (i ≤ hi)) = _
            rw [show decide (lo ≤ i) = true from h1]
            rfl
          rw [e] at k
          exact k
        · have e : (D.int i).inr lo hi = false := by
            show (decide (lo ≤ i) && decide (i ≤ hi)) = _
            rw [Bool.eq_false_iff.mpr h1]
            rfl
          rw [e] at k
          exact k
theorem scListed : FnScope ["thing"] ["thing"] (C8.fnScope sListed) := C8.fnScope_by (by decide +kernel)
theorem ok_listed {f : Addr} {fd : FuncData} (F : C8.Def K mg "is_listed" sListed f fd) (b : Binds K fd ["thing"] []) (T : Txt mg) : C8.Cal P w K mg base 1 "is_listed" spListed [] := by
  refine C8.cal0 F b .nil scListed (fun vs H Q E h => ?_) (fun cdv A outer s H vs Q E hr h => ?_)
  · obtain ⟨S, v, d, rfl, _⟩ := h
    rfl
  · obtain ⟨S, v, d, rfl, r, k⟩ := h
    have sc := scListed
    refine ⟨_, -- is_listed: 0 thing

      (pss_one (ps_ret (pe_callB call_isiT (by rfl) T.isinstance (by decide +kernel) (pa_cons (pv 0) (pa_cons (pe_tup (pa_cons (pe_bltn (v := .ty "tuple") (u := .type "tuple") rfl T.tuple (by decide +kernel) rfl) (pa_cons (pe_bltn (v := .ty "list") (u := .type "list") rfl T.list (by decide +kernel) rfl) pa_nil))) pa_nil))))), ?_⟩
    refine ⟨_, rfl, by show 2 ≤ sizeLine; decide, fun p hp => ?_⟩
    exact ⟨_, _, _, _, _, _, rfl, upd_same, .cons (.ty _) (.cons (.ty _) .nil), (r.same (Same.new hp)).ty, kit_listed K d, k _ (Same.new hp)⟩
end

/-! ### is_alphabet, check_alphabet, text_fault, check_text -/
def SMALLS : Str := "abcdefghijklmnopqrstuvwxyz"
/-- what is_alphabet says of a text -/
def alOk (x : Str) : Bool := decide (1 ≤ x.cps.toList.length) && decide (x.cps.toList.length ≤ 3) && (x.cps.toList.all fun c => SMALLS.cps.toList.contains c) && decide (x.cps.toList.Pairwise (· < ·))
def D.alOk : D → Bool
  | .str x => Vl.alOk x
  | _ => false
abbrev sIsAl : Stmt := top 20
def spIsAl : Sp := fun vs H Q _ => ∃ (S : List Addr) (v : V) (d : D), vs = [v] ∧ Rp S H v d ∧ (∀ x, d = .str x → x.length ≤ 1000) ∧ ∀ H', Same H H' → Q (.bl d.alOk) H'
section
open PyProof.Rows
variable {P : Program} {w : World} {K : PySem.W.Frag} {mg : Str → Option Value} {base : Heap}
theorem scIsAl : FnScope ["thing", "letter", "k"] ["thing"] (C8.fnScope sIsAl) := C8.fnScope_by (by decide +kernel)
theorem ok_isal {f : Addr} {fd : FuncData} (F : C8.Def K mg "is_alphabet" sIsAl f fd) (b : Binds K fd ["thing"] []) (T : Txt mg) (v_SMALL : ∃ u, mg "SMALL" = some u ∧ RelV (.str SMALLS) u) : C8.Cal P w K mg base 1 "is_alphabet" spIsAl [] := by
  refine C8.cal0 F b .nil scIsAl (fun vs H Q E h => ?_) (fun cdv A outer s H vs Q E hr h => ?_)
  · obtain ⟨S, v, d, rfl, _⟩ := h
    rfl
  · obtain ⟨S, v, d, rfl, r, hx, k⟩ := h
    have sc := scIsAl
    refine ⟨_, -- is_alphabet: 0 thing* 1 letter 2 k

      (pss_cons (ps_if (PW.pt (pw_or (pt_not (pt_val (pe_callB call_isi (by rfl) T.isinstance (by decide +kernel) (pa_cons (pv 0) (pa_cons (pe_bltn (v := .ty "str") (u := .type "str") rfl T.str (by decide +kernel) rfl) pa_nil))))) (pw_or1 (pt_not (pt_chain op_le op_le pe_int (pe_callB call_len_str (by rfl) T.len PySem.boot_len (pa_cons (pv 0) pa_nil)) pe_int))))) 
        (pss_one (ps_ret pe_bl)) pss_nil)
      (pss_cons (ps_if (pt_val (pe_callB (id := "any") (cr_any rfl) (by rfl) T.any (by decide +kernel) (pa_cons (pe_lc (own := [("letter", 1)]) (g := gName 1) rfl sc.nd (pi_str (pv 0)) (blkOk_by (own := [("letter", 1)]) (by kernel_rfl)) (fun _ _ _ _ _ => (pg_name (i := 1) sc.nd rfl (Or.inl rfl))) (fun _ _ _ _ _ => pts_nil) (fun _ _ _ _ _ => (pe_cmpR op_notIn_sign (pv 1) (C8.pe_gc rfl v_SMALL) (by rfl)))) pa_nil))) 
        (pss_one (ps_ret pe_bl)) pss_nil)
      (pss_one (ps_ret (pe_callB (id := "all") (cr_all rfl) (by rfl) T.all (by decide +kernel) (pa_cons (pe_lc (own := [("k", 2)]) (g := gName 2) rfl sc.nd (pi_range1 (by rfl) T.range (pa_cons (pe_op op_sub (pe_callB call_len_str (by rfl) T.len PySem.boot_len (pa_cons (pv 0) pa_nil)) pe_int) pa_nil)) (blkOk_by (own := [("k", 2)]) (by kernel_rfl)) (fun _ _ _ _ _ => (pg_name (i := 2) sc.nd rfl (Or.inl rfl))) (fun _ _ _ _ _ => pts_nil) (fun _ _ _ _ _ => (pe_cmpR op_lt_str (pe_ix ix_str (pv 0) (pv 2) (fun _ _ => rfl)) (pe_ix ix_str (pv 0) (pe_op op_add (pv 2) pe_int) (fun _ _ => rfl)) (nomark _)))) pa_nil)))))), ?_⟩
    cases hs : d.isa "str" with
    | false =>
      refine ⟨_, rfl, _, _, _, _, _, rfl, .ty _, r.ty, kit_lit (by decide) hs, _, rfl, iteT (iteT ?_)⟩
      have e : d.alOk = false := by cases d <;> first | rfl | (simp [D.isa, D.tyn] at hs)
      rw [e] at k
      exact k _ (Same.refl _)
    | true =>
      obtain ⟨x, rfl⟩ : ∃ x, d = .str x := by cases d <;> first | exact ⟨_, rfl⟩ | (simp [D.isa, D.tyn] at hs)
      cases r
      refine ⟨_, rfl, _, _, _, _, _, rfl, .ty _, .base (.str x), kit_lit (d := .str x) (by decide) hs, _, rfl, iteF ?_⟩
      have hx := hx x rfl
      have hz : x.length ≤ sizeLine := Nat.le_trans hx (by decide)
      have hl : x.length = x.cps.toList.length := by simp [Str.length]
      have no : ¬ (1 ≤ x.cps.toList.length ∧ x.cps.toList.length ≤ 3) → Vl.alOk x = false := fun h => by
        unfold Vl.alOk
        by_cases h1 : 1 ≤ x.cps.toList.length
        · rw [show decide (x.cps.toList.length ≤ 3) = false from decide_eq_false (fun h2 => h ⟨h1, h2⟩)]
          simp
        · rw [decide_eq_false h1]
          rfl
      refine ⟨_, rfl, _, rfl, hz, _, _, rfl, rfl, _, rfl, ?_⟩
      refine ite2 (fun h1 => ?_) (fun h1 => ?_)
      · refine ⟨_, _, rfl, rfl, _, rfl, ?_⟩
        refine ite2 (fun h2 => ?_) (fun h2 => ?_)
        · have h2 : ¬ (x.length : Int) ≤ 3 := by simpa using h2
          have k := k _ (Same.refl _)
          rw [show (D.str x).alOk = false from no (by omega)] at k
          exact k
        · have h2 : (x.length : Int) ≤ 3 := by simpa using h2
          have h1 : (1 : Int) ≤ (x.length : Int) := by simpa using h1
          have hn : x.cps.size = x.cps.toList.length := by simp
          refine ⟨_, rfl, x, rfl, fun L hL => lc_F (j := 1) (Xp := fun i v => ∃ c, x.cps[i]? = some c ∧ v = .str ⟨#[c]⟩) (fun i => .bl (!decide (x.cps.toList.getD i 0 ∈ SMALLS.cps.toList))) walk_str (fun i H v H' _ y => y) hL (by omega) (fun _ _ => trivial) (fun _ => rfl) (fun i v H2 hi hv s2 Kt ht => ?_) (fun ys H2 s2 e2 r2 => ?_)⟩
          · obtain ⟨c, hc, rfl⟩ := hv
            refine ⟨_, rfl, c, SMALLS, rfl, rfl, ht _ _ (Same.refl _) ?_⟩
            have e : x.cps.toList.getD i 0 = c := by
              rw [List.getD_eq_getElem?_getD, Array.getElem?_toList, hc]
              rfl
            rw [e]
            exact .bl _
          · have ey := r2.bls_eq (n := 0)
            subst ey
            have a1 := al_any SMALLS.cps.toList x.cps.toList (by omega) (by omega)
            refine ⟨_, _, rfl, SqL.of e2, _, rfl, ?_⟩
            rw [hn]
            refine ite2 (fun h3 => ?_) (fun h3 => ?_)
            · have e : Vl.alOk x = false := by
                unfold Vl.alOk
                rw [a1, h3]
                simp
              have k := k H2 s2
              rw [show (D.str x).alOk = false from e] at k
              exact k
            · have h3 := Bool.eq_false_iff.mpr h3
              have e : Vl.alOk x = ((List.range (x.cps.toList.length - 1)).map fun i => decide (x.cps.toList.getD i 0 < x.cps.toList.getD (i + 1) 0)).all id := by
                unfold Vl.alOk
                rw [a1, h3, decide_eq_true (show 1 ≤ x.cps.toList.length by omega), decide_eq_true (show x.cps.toList.length ≤ 3 by omega), al_asc _ (by omega) (by omega)]
                rfl
              refine ⟨_, rfl, x, rfl, hz, _, _, rfl, rfl, _, rfl, by omega, by omega, fun L2 hL2 => lc_F (j := 2) (Xp := fun i v => v = .int (0 + (i : Int))) (fun i => .bl (decide (x.cps.toList.getD i 0 < x.cps.toList.getD (i + 1) 0))) (walk_range (lo := 0)) (fun i H v H' _ y => ⟨y.1, y.2⟩) hL2 (by omega) (fun _ _ => trivial) (fun _ => rfl) (fun i v H3 hi hv s3 Kt ht => ?_) (fun ys H3 s3 e3 r3 => ?_)⟩
              · subst hv
                obtain ⟨a, ha⟩ : ∃ a, x.cps.toList[i]? = some a := ⟨_, List.getElem?_eq_getElem (by omega)⟩
                obtain ⟨b, hb⟩ : ∃ b, x.cps.toList[i + 1]? = some b := ⟨_, List.getElem?_eq_getElem (by omega)⟩
                have ia : atI x.cps.toList (0 + (i : Int)) = some a := by rw [Int.zero_add]; exact atI_nat ha
                have ib : atI x.cps.toList (0 + (i : Int) + 1) = some b := by rw [show (0 + (i : Int) + 1) = ((i + 1 : Nat) : Int) by omega]; exact atI_nat hb
                refine ⟨_, rfl, _, rfl, _, _, a, rfl, rfl, hz, ia, _, rfl, _, rfl, _, _, rfl, rfl, _, _, b, rfl, rfl, hz, ib, _, _, rfl, rfl, ht _ _ (Same.refl _) ?_⟩
                rw [List.getD_eq_getElem?_getD, List.getD_eq_getElem?_getD, ha, hb]
                show Rp _ _ (V.bl (decide (([a] : List Nat) < [b]))) _
                rw [lt_sign]
                exact .bl _
              · have ey := r3.bls_eq (n := 0)
                subst ey
                refine ⟨_, _, rfl, SqL.of e3, ?_⟩
                have k := k H3 (s2.trans s3)
                rw [show (D.str x).alOk = _ from e] at k
                rw [show ((x.length : Int) - 1).toNat = x.cps.toList.length - 1 by omega]
                exact k
      · have h1 : ¬ (1 : Int) ≤ (x.length : Int) := by simpa using h1
        have k := k _ (Same.refl _)
        rw [show (D.str x).alOk = false from no (by omega)] at k
        exact ⟨_, rfl, iteT k⟩
end

abbrev sChkAl : Stmt := top 21
abbrev sFault : Stmt := top 22
abbrev sChkText : Stmt := top 23
/-- no def that lets an exception out asks about the stack -/
abbrev ZT : Around → Prop := fun _ => True
/-- an error e is wished, its field v, nothing else changed -/
def Ex (ad : Ad) (e : Er) (v : V) (H : Hp) (E : XK) : Prop := ∀ (dd : Addr) (H' : Hp), Same H H' → H' dd = none → E (.ref (e.cls ad)) (some dd) (upd H' dd (.xd [(e.fld, v)]))
def spChkAl (ad : Ad) : Sp := fun vs H Q E => ∃ (S : List Addr) (v : V) (d : D), vs = [v] ∧ Rp S H v d ∧ (∀ x, d = .str x → x.length ≤ 1000) ∧ (d.alOk = true → ∀ H', Same H H' → Q .non H') ∧ (d.alOk = false → Ex ad .alphabet v H E)
/-- the fault of a text over the letters al, at most m -/
def D.fault (al : Str) (m : Int) : D → Option Int
  | .str x => if m < (x.length : Int) then some (-1) else Option.map (fun n : Nat => (n : Int)) (x.cps.toList.findIdx? fun c => !decide (c ∈ al.cps.toList))
  | _ => some (-1)
theorem fault_str (al : Str) (m : Int) (x : Str) : (D.str x).fault al m = if m < (x.length : Int) then some (-1) else Option.map (fun n : Nat => (n : Int)) (x.cps.toList.findIdx? fun c => !decide (c ∈ al.cps.toList)) := rfl
def optV : Option Int → V
  | some i => .int i
  | none => .non
def spFault : Sp := fun vs H Q _ => ∃ (S : List Addr) (al : Str) (v : V) (d : D) (m : Int), vs = [.str al, v, .int m] ∧ Rp S H v d ∧ (∀ x, d = .str x → x.length ≤ 1000) ∧ ∀ H', Same H H' → Q (optV (d.fault al m)) H'
def spChkText (ad : Ad) : Sp := fun vs H Q E => ∃ (S : List Addr) (al : Str) (v : V) (d : D), vs = [.str al, v] ∧ Rp S H v d ∧ (∀ x, d = .str x → x.length ≤ 1000) ∧ (d.fault al 40 = none → ∀ H', Same H H' → Q .non H') ∧ (∀ i, d.fault al 40 = some i → Ex ad .text (.int i) H E)
section
open PyProof.Rows
variable {P : Program} {w : World} {K : PySem.W.Frag} {mg : Str → Option Value} {base : Heap} {ad : Ad}
theorem scChkAl : FnScope ["thing"] ["thing"] (C8.fnScope sChkAl) := C8.fnScope_by (by decide +kernel)
theorem ok_chkal {f : Addr} {fd : FuncData} (F : C8.Def K mg "check_alphabet" sChkAl f fd) (b : Binds K fd ["thing"] []) (T : Txt mg) (O : Own K mg ad) (SU : Sup P w K mg ad .alphabet) (c_is_alphabet : C8.Cal P w K mg base 1 "is_alphabet" spIsAl []) : CalZ ZT P w K mg base 2 "check_alphabet" (spChkAl ad) := by
  refine calZ (fun _ _ _ => trivial) F b scChkAl (fun vs H Q E h => ?_) (fun cdv A outer s H vs Q E hz hr h => ?_)
  · obtain ⟨S, v, d, rfl, _⟩ := h
    rfl
  · obtain ⟨S, v, d, rfl, r, hx, k1, k2⟩ := h
    have sc := scChkAl
    obtain ⟨D0, fI, arg, ok, ST, hok⟩ := SU.ex
    refine ⟨_, -- check_alphabet: 0 thing

      (pss_one (ps_if (pt_not (pt_val (C8.pe_c c_is_alphabet hr (by decide) rfl (pa_cons (pv 0) pa_nil)))) 
        (pss_one (ps_raiseSup (okV := Er.okV .alphabet) rfl takesG ST hok hr O.g_BadAlphabet (pa_cons (pv 0) pa_nil))) pss_nil)), ?_⟩
    refine ⟨_, rfl, S, v, d, rfl, r, hx, fun H1 s1 => ⟨_, rfl, ?_⟩⟩
    cases hd : d.alOk with
    | true => exact iteF (k1 hd H1 s1)
    | false => exact iteT ⟨_, rfl, v, rfl, trivial, fun dd hdd => k2 hd dd H1 s1 hdd⟩
theorem scFault : FnScope ["alphabet", "thing", "most", "at", "letter"] ["alphabet", "thing", "most"] (C8.fnScope sFault) := C8.fnScope_by (by decide +kernel)
theorem ok_fault {f : Addr} {fd : FuncData} (F : C8.Def K mg "text_fault" sFault f fd) (b : Binds K fd ["alphabet", "thing", "most"] []) (T : Txt mg) : C8.Cal P w K mg base 1 "text_fault" spFault [] := by
  refine C8.cal0 F b .nil scFault (fun vs H Q E h => ?_) (fun cdv A outer s H vs Q E hr h => ?_)
  · obtain ⟨S, al, v, d, m, rfl, _⟩ := h
    rfl
  · obtain ⟨S, al, v, d, m, rfl, r, hx, k⟩ := h
    have sc := scFault
    refine ⟨_, -- text_fault: 0 alphabet 1 thing 2 most 3 at 4 letter

      (pss_cons (ps_if (PW.pt (pw_or (pt_not (pt_val (pe_callB call_isi (by rfl) T.isinstance (by decide +kernel) (pa_cons (pv 1) (pa_cons (pe_bltn (v := .ty "str") (u := .type "str") rfl T.str (by decide +kernel) rfl) pa_nil))))) (pw_or1 (pt_cmpR op_gt (pe_callB call_len_str (by rfl) T.len PySem.boot_len (pa_cons (pv 1) pa_nil)) (pv 2) (nomark _))))) 
        (pss_one (ps_ret (pe_un un_neg pe_int))) pss_nil)
      (pss_cons (ps_for PassesOwn.never rfl (pi_enumQ (by rfl) T.enumerate (pa_cons (pv 1) pa_nil)) (pg_tup rfl (pgs_cons (pg_name (i := 3) sc.nd rfl (Or.inl rfl)) (pgs_cons (pg_name (i := 4) sc.nd rfl (Or.inl rfl)) pgs_nil))) 
        (pss_one (ps_if (pt_cmpR op_notIn_sign (pv 4) (pv 0) (by rfl)) 
          (pss_one (ps_ret (pv 3))) pss_nil)))
      (pss_one (ps_ret pe_non)))), ?_⟩
    cases hs : d.isa "str" with
    | false =>
      refine ⟨_, rfl, _, _, _, _, _, rfl, .ty _, r.ty, kit_lit (by decide) hs, _, rfl, iteT (iteT ?_)⟩
      have e : d.fault al m = some (-1) := by cases d <;> first | rfl | (simp [D.isa, D.tyn] at hs)
      rw [e] at k
      exact ⟨_, rfl, k _ (Same.refl _)⟩
    | true =>
      obtain ⟨x, rfl⟩ : ∃ x, d = .str x := by cases d <;> first | exact ⟨_, rfl⟩ | (simp [D.isa, D.tyn] at hs)
      cases r
      have hx := hx x rfl
      have hz : x.length ≤ sizeLine := Nat.le_trans hx (by decide)
      refine ⟨_, rfl, _, _, _, _, _, rfl, .ty _, .base (.str x), kit_lit (d := .str x) (by decide) hs, _, rfl, iteF ?_⟩
      refine ⟨_, rfl, x, rfl, hz, _, rfl, _, _, rfl, rfl, _, rfl, ?_⟩
      refine ite2 (fun h1 => ?_) (fun h1 => ?_)
      · have h1 : m < (x.length : Int) := by simpa using h1
        have k := k H (Same.refl _)
        rw [show (D.str x).fault al m = some (-1) from if_pos h1] at k
        exact ⟨_, rfl, k⟩
      · have h1 : ¬ m < (x.length : Int) := by simpa using h1
        refine ⟨_, rfl, .inr (.inr ⟨x, rfl, ?_⟩)⟩
        refine for_it walk_enumS (fun i σ H' => Iv (Same H H' ∧ (∀ k < i, ∃ c, x.cps.toList[k]? = some c ∧ c ∈ al.cps.toList) ∧ ∃ a b, σ = [some (.str al), some (.str x), some (.int m), a, b])) (.of ⟨Same.refl _, fun k hk => absurd hk (Nat.not_lt_zero _), _, _, rfl⟩) (fun _ _ _ _ _ => trivial) (fun i y σ H1 H2 hi hp hy => ?_) (fun σ H1 hp => ?_)
        · obtain ⟨s1, hb, a, b, rfl⟩ := hp.get
          obtain ⟨p, y1, y2, rfl, hp0, rfl, e1, e2⟩ := hy
          cases e1
          obtain ⟨c, hc⟩ : ∃ c, x.cps.toList[i]? = some c := ⟨_, List.getElem?_eq_getElem (by simpa using hi)⟩
          have e2 : (x.cps[i]?).map (fun c => V.str ⟨#[c]⟩) = some y2 := e2
          rw [← Array.getElem?_toList, hc] at e2
          cases e2
          refine gTup2 ⟨_, rfl, _, rfl, c, al, rfl, rfl, _, rfl, ?_⟩
          have s2 := s1.trans (Same.new (o := .tup [.int (i : Int), .str ⟨#[c]⟩]) hp0)
          refine ite2 (fun h2 => ?_) (fun h2 => ?_)
          · have e : (D.str x).fault al m = some (i : Int) := by
              rw [fault_str, if_neg h1, List.findIdx?_eq_some_iff_getElem.mpr ⟨by simpa using hi, ?_, ?_⟩]
              · rfl
              · have e3 : x.cps.toList[i]'(by simpa using hi) = c := Option.some.inj ((List.getElem?_eq_getElem _).symm.trans hc)
                rw [e3]
                exact h2
              · intro j hj
                obtain ⟨c', e', hm⟩ := hb j hj
                have e3 : x.cps.toList[j]'(by have := (show i < x.cps.toList.length by simpa using hi); omega) = c' := Option.some.inj ((List.getElem?_eq_getElem _).symm.trans e')
                rw [e3]
                simpa using hm
            have k := k _ s2
            rw [e] at k
            exact ⟨_, rfl, k⟩
          · refine .of ⟨s2, fun j hj => ?_, _, _, rfl⟩
            rcases Nat.lt_succ_iff_lt_or_eq.mp hj with hj | rfl
            · exact hb j hj
            · exact ⟨c, hc, by simpa using h2⟩
        · obtain ⟨s1, hb, a, b, rfl⟩ := hp.get
          have e : (D.str x).fault al m = none := by
            rw [fault_str, if_neg h1, List.findIdx?_eq_none_iff.mpr]
            · rfl
            · intro c hc
              obtain ⟨k, hk, e⟩ := List.mem_iff_getElem.mp hc
              obtain ⟨c', e', hm⟩ := hb k (by simpa using hk)
              rw [List.getElem?_eq_getElem hk] at e'
              cases e'
              rw [← e]
              simpa using hm
          have k := k _ s1
          rw [e] at k
          exact k
theorem scChkText : FnScope ["alphabet", "thing", "fault"] ["alphabet", "thing"] (C8.fnScope sChkText) := C8.fnScope_by (by decide +kernel)
theorem fault_small {al : Str} {d : D} {i : Int} (hx : ∀ x, d = .str x → x.length ≤ 1000) (h : d.fault al 40 = some i) : -1 ≤ i ∧ i ≤ 1000 := by
  cases d with
  | str x =>
    have hx := hx x rfl
    rw [fault_str] at h
    by_cases h40 : (40 : Int) < (x.length : Int)
    · rw [if_pos h40] at h
      cases h
      omega
    · rw [if_neg h40] at h
      cases hf : x.cps.toList.findIdx? fun c => !decide (c ∈ al.cps.toList) with
      | none => rw [hf] at h; cases h
      | some n =>
        rw [hf] at h
        have h : (n : Int) = i := Option.some.inj h
        obtain ⟨h1, _⟩ := List.findIdx?_eq_some_iff_getElem.mp hf
        have e : x.length = x.cps.toList.length := by simp [Str.length]
        omega
  | _ => cases (show some (-1 : Int) = some i from h); omega
theorem small_log {i : Int} (h : -1 ≤ i ∧ i ≤ 1000) : i.natAbs.log2 < 1920 := by
  have h1 : i.natAbs ≤ 1000 := by omega
  by_cases h0 : i.natAbs = 0
  · rw [h0]; decide
  · exact Nat.lt_trans ((Nat.log2_lt h0).mpr (Nat.lt_of_le_of_lt h1 (by decide : 1000 < 2 ^ 10))) (by decide)
theorem ok_chktext {f : Addr} {fd : FuncData} (F : C8.Def K mg "check_text" sChkText f fd) (b : Binds K fd ["alphabet", "thing"] []) (T : Txt mg) (O : Own K mg ad) (SU : Sup P w K mg ad .text) (v_TEXT_LETTERS : ∃ u, mg "TEXT_LETTERS" = some u ∧ RelV (.int 40) u) (c_text_fault : C8.Cal P w K mg base 1 "text_fault" spFault []) : CalZ ZT P w K mg base 2 "check_text" (spChkText ad) := by
  refine calZ (fun _ _ _ => trivial) F b scChkText (fun vs H Q E h => ?_) (fun cdv A outer s H vs Q E hz hr h => ?_)
  · obtain ⟨S, al, v, d, rfl, _⟩ := h
    rfl
  · obtain ⟨S, al, v, d, rfl, r, hx, k1, k2⟩ := h
    have sc := scChkText
    obtain ⟨D0, fI, arg, ok, ST, hok⟩ := SU.ex
    refine ⟨_, -- check_text: 0 alphabet 1 thing 2 fault

      (pss_cons (ps_set (i := 2) sc.nd rfl (Or.inl rfl) (C8.pe_c c_text_fault hr (by decide) rfl (pa_cons (pv 0) (pa_cons (pv 1) (pa_cons (C8.pe_gc rfl v_TEXT_LETTERS) pa_nil)))))
      (pss_one (ps_if (pt_cmp (pc_notN (pv 2))) 
        (pss_one (ps_raiseSup (okV := Er.okV .text) rfl takesG ST hok hr O.g_BadText (pa_cons (pv 2) pa_nil))) pss_nil))), ?_⟩
    refine ⟨_, rfl, _, rfl, S, al, v, d, 40, rfl, r, hx, fun H1 s1 => ?_⟩
    cases hd : d.fault al 40 with
    | none => exact ⟨_, rfl, _, rfl, iteF (k1 hd H1 s1)⟩
    | some i =>
      refine ⟨_, rfl, _, rfl, iteT ⟨_, rfl, .int i, rfl, ⟨i, rfl, small_log (fault_small hx hd)⟩, fun dd hdd => k2 i hd dd H1 s1 hdd⟩⟩
end

/-! ### checked_moves, checked_good -/
/-- a row of k rooms below n -/
def D.rowOk (k n : Nat) (d : D) : Bool := match d.seq? with
  | some ds => decide (ds.length = k) && ds.all fun e => e.inr 0 ((n : Int) - 1)
  | none => false
/-- where moves are wrong -/
def D.mvFault (k : Nat) (d : D) : Option Int := match d.seq? with
  | some ds => if 1 ≤ ds.length ∧ ds.length ≤ 60 then Option.map (fun n : Nat => (n : Int)) (ds.findIdx? fun r => !r.rowOk k ds.length) else some (-1)
  | none => some (-1)
def D.row (d : D) : D := .tup (d.seq?.getD [])
def D.norm (d : D) : D := .tup ((d.seq?.getD []).map D.row)
/-- not too long -/
def D.fit (d : D) : Prop := ∀ ds, d.seq? = some ds → ds.length ≤ 1000 ∧ ∀ r ∈ ds, ∀ rs, r.seq? = some rs → rs.length ≤ 1000
theorem listed_seq (d : D) : (d.isa "tuple" || d.isa "list") = d.seq?.isSome := by cases d <;> rfl
theorem mv_none {k : Nat} {d : D} (h : d.seq? = none) : d.mvFault k = some (-1) := by
  unfold D.mvFault
  rw [h]
theorem mv_len {k : Nat} {d : D} {ds : List D} (h : d.seq? = some ds) (hn : ¬ (1 ≤ ds.length ∧ ds.length ≤ 60)) : d.mvFault k = some (-1) := by
  unfold D.mvFault
  rw [h]
  exact if_neg hn
theorem find_at {α : Type} {p : α → Bool} {l : List α} {i : Nat} {e : α} (hb : ∀ k < i, ∃ y, l[k]? = some y ∧ p y = false) (he : l[i]? = some e) (hp : p e = true) : Option.map (fun n : Nat => (n : Int)) (l.findIdx? p) = some (i : Int) := by
  obtain ⟨hi, e1⟩ := List.getElem?_eq_some_iff.mp he
  rw [List.findIdx?_eq_some_iff_getElem.mpr ⟨hi, by rw [e1]; exact hp, fun j hj => ?_⟩]
  · rfl
  · obtain ⟨y, h1, h2⟩ := hb j hj
    obtain ⟨_, e2⟩ := List.getElem?_eq_some_iff.mp h1
    rw [e2, h2]
    decide
theorem find_no {α : Type} {p : α → Bool} {l : List α} (hb : ∀ k < l.length, ∃ y, l[k]? = some y ∧ p y = false) : Option.map (fun n : Nat => (n : Int)) (l.findIdx? p) = none := by
  rw [List.findIdx?_eq_none_iff.mpr]
  · rfl
  · intro c hc
    obtain ⟨k, hk, e⟩ := List.mem_iff_getElem.mp hc
    obtain ⟨y, h1, h2⟩ := hb k hk
    obtain ⟨_, e2⟩ := List.getElem?_eq_some_iff.mp h1
    rw [← e, e2]
    exact h2
theorem mv_at {k i : Nat} {d e : D} {ds : List D} (h : d.seq? = some ds) (hn : 1 ≤ ds.length ∧ ds.length ≤ 60) (hb : ∀ j < i, ∃ y, ds[j]? = some y ∧ y.rowOk k ds.length = true) (he : ds[i]? = some e) (hp : e.rowOk k ds.length = false) : d.mvFault k = some (i : Int) := by
  unfold D.mvFault
  rw [h]
  show (if 1 ≤ ds.length ∧ ds.length ≤ 60 then _ else _) = _
  rw [if_pos hn]
  exact find_at (fun j hj => by obtain ⟨y, h1, h2⟩ := hb j hj; exact ⟨y, h1, by rw [h2]; rfl⟩) he (by rw [hp]; rfl)
theorem mv_ok {k : Nat} {d : D} {ds : List D} (h : d.seq? = some ds) (hn : 1 ≤ ds.length ∧ ds.length ≤ 60) (hb : ∀ j < ds.length, ∃ y, ds[j]? = some y ∧ y.rowOk k ds.length = true) : d.mvFault k = none := by
  unfold D.mvFault
  rw [h]
  show (if 1 ≤ ds.length ∧ ds.length ≤ 60 then _ else _) = _
  rw [if_pos hn]
  exact find_no (fun j hj => by obtain ⟨y, h1, h2⟩ := hb j hj; exact ⟨y, h1, by rw [h2]; rfl⟩)
theorem row_none {k n : Nat} {d : D} (h : d.seq? = none) : d.rowOk k n = false := by
  unfold D.rowOk
  rw [h]
theorem row_some {k n : Nat} {d : D} {ds : List D} (h : d.seq? = some ds) : d.rowOk k n = (decide (ds.length = k) && ds.all fun e => e.inr 0 ((n : Int) - 1)) := by
  unfold D.rowOk
  rw [h]
theorem map_range {α β : Type} (l : List α) (z : α) (p : α → β) : (List.range l.length).map (fun i => p (l.getD i z)) = l.map p := by
  refine List.ext_getElem (by simp) fun i h1 h2 => ?_
  have hi : i < l.length := by simpa using h1
  simp [List.getD_eq_getElem?_getD, List.getElem?_eq_getElem hi]
/-- ints stand for themselves anywhere -/
theorem Rps.inrs {lo hi : Int} {S T : List Addr} {H H' : Hp} : ∀ {vs : List V} {ds : List D}, Rps S H vs ds → (ds.all fun e => e.inr lo hi) = true → Rps T H' vs ds
  | _, _, .nil, _ => .nil
  | _, d :: ds, .cons r t, h => by
    rw [List.all_cons, Bool.and_eq_true] at h
    refine .cons ?_ (Rps.inrs t h.2)
    cases r with
    | int i => exact .int i
    | _ => exact absurd h.1 (by simp [D.inr])
theorem all_range {α : Type} (l : List α) (z : α) (p : α → Bool) : ((List.range l.length).map fun i => p (l.getD i z)).all id = l.all p := by
  rw [Bool.eq_iff_iff, List.all_eq_true, List.all_eq_true]
  constructor
  · intro h x hx
    obtain ⟨k, hk, e⟩ := List.mem_iff_getElem.mp hx
    have := h (p (l.getD k z)) (List.mem_map.mpr ⟨k, List.mem_range.mpr hk, rfl⟩)
    rw [List.getD_eq_getElem?_getD, List.getElem?_eq_getElem hk] at this
    rw [← e]
    exact this
  · intro h x hx
    obtain ⟨k, hk, rfl⟩ := List.mem_map.mp hx
    have hk := List.mem_range.mp hk
    show p (l.getD k z) = true
    rw [List.getD_eq_getElem?_getD, List.getElem?_eq_getElem hk]
    exact h _ (List.getElem_mem hk)
abbrev sMoves : Stmt := top 31
def spMoves (ad : Ad) : Sp := fun vs H Q E => ∃ (S U : List Addr) (al : Str) (v : V) (d : D), vs = [.str al, v] ∧ Rp S H v d ∧ d.fit ∧ al.length ≤ 1000 ∧ (∀ a ∈ U, ∃ xs, H a = some (.lst xs)) ∧
  (d.mvFault al.length = none → ∀ v' H', Same H H' → Rp U H' v' d.norm → Q v' H') ∧ (∀ i, d.mvFault al.length = some i → Ex ad .moves (.int i) H E)
section
open PyProof.Rows
variable {P : Program} {w : World} {K : PySem.W.Frag} {mg : Str → Option Value} {base : Heap} {ad : Ad}
theorem scMoves : FnScope ["alphabet", "moves", "at", "row", "target"] ["alphabet", "moves"] (C8.fnScope sMoves) := C8.fnScope_by (by decide +kernel)
theorem ok_moves {f : Addr} {fd : FuncData} (F : C8.Def K mg "checked_moves" sMoves f fd) (b : Binds K fd ["alphabet", "moves"] []) (T : Txt mg) (O : Own K mg ad) (SU : Sup P w K mg ad .moves) (v_MOST_ROOMS : ∃ u, mg "MOST_ROOMS" = some u ∧ RelV (.int 60) u)
    (c_is_listed : C8.Cal P w K mg base 1 "is_listed" spListed []) (c_is_integer : C8.Cal P w K mg base 1 "is_integer" spInteger []) : CalZ ZT P w K mg base 2 "checked_moves" (spMoves ad) := by
  refine calZ (fun _ _ _ => trivial) F b scMoves (fun vs H Q E h => ?_) (fun cdv A outer s H vs Q E hz hr h => ?_)
  · obtain ⟨S, U, al, v, d, rfl, _⟩ := h
    rfl
  · obtain ⟨S, U, al, v, d, rfl, r, fit, hal, hU, k1, k2⟩ := h
    have sc := scMoves
    obtain ⟨D0, fI, arg, ok, ST, hok⟩ := SU.ex
    refine ⟨_, -- checked_moves: 0 alphabet 1 moves* 2 at 3 row 4 target

      (pss_cons (ps_if (PW.pt (pw_or (pt_not (pt_val (C8.pe_c c_is_listed hr (by decide) rfl (pa_cons (pv 1) pa_nil)))) (pw_or1 (pt_not (pt_chain op_le op_le pe_int (pe_callB (call_lenQ (K := K) rfl) (by rfl) T.len PySem.boot_len (pa_cons (pv 1) pa_nil)) (C8.pe_gc rfl v_MOST_ROOMS)))))) 
        (pss_one (ps_raiseSup (okV := Er.okV .moves) rfl takesG ST hok hr O.g_BadMoves (pa_cons (pe_un un_neg pe_int) pa_nil))) pss_nil)
      (pss_cons (ps_for passesG rfl (pi_enumW (by rfl) T.enumerate (pa_cons (pv 1) pa_nil)) (pg_tup rfl (pgs_cons (pg_name (i := 2) sc.nd rfl (Or.inl rfl)) (pgs_cons (pg_name (i := 3) sc.nd rfl (Or.inl rfl)) pgs_nil))) 
        (pss_cons (ps_if (PW.pt (pw_or (pt_not (pt_val (C8.pe_c c_is_listed hr (by decide) rfl (pa_cons (pv 3) pa_nil)))) (pw_or1 (pt_cmpR op_ne (pe_callB (call_lenQ (K := K) rfl) (by rfl) T.len PySem.boot_len (pa_cons (pv 3) pa_nil)) (pe_callB call_len_str (by rfl) T.len PySem.boot_len (pa_cons (pv 0) pa_nil)) (nomark _))))) 
          (pss_one (ps_raiseSup (okV := Er.okV .moves) rfl takesG ST hok hr O.g_BadMoves (pa_cons (pv 2) pa_nil))) pss_nil)
        (pss_one (ps_if (pt_not (pt_val (pe_callB (id := "all") (cr_all rfl) (by rfl) T.all (by decide +kernel) (pa_cons (pe_lc (own := [("target", 4)]) (g := gName 4) rfl sc.nd (pi_seqW (pv 3)) (blkOk_by (own := [("target", 4)]) (by kernel_rfl)) (fun _ _ _ _ _ => (pg_name (i := 4) sc.nd rfl (Or.inl rfl))) (fun _ _ _ _ _ => pts_nil) (fun _ _ _ _ _ => (C8.pe_c c_is_integer hr (by decide) rfl (pa_cons (pv 4) (pa_cons pe_int (pa_cons (pe_op op_sub (pe_callB (call_lenQ (K := K) rfl) (by rfl) T.len PySem.boot_len (pa_cons (pv 1) pa_nil)) pe_int) pa_nil)))))) pa_nil)))) 
          (pss_one (ps_raiseSup (okV := Er.okV .moves) rfl takesG ST hok hr O.g_BadMoves (pa_cons (pv 2) pa_nil))) pss_nil))))
      (pss_one (ps_ret (pe_callTy (T := "tuple") (call_tupQ (K := K) rfl) (by rfl) T.tuple (by decide +kernel) (pa_cons (pe_lc (own := [("row", 3)]) (g := gName 3) rfl sc.nd (pi_seqW (pv 1)) (blkOk_by (own := [("row", 3)]) (by kernel_rfl)) (fun _ _ _ _ _ => (pg_name (i := 3) sc.nd rfl (Or.inl rfl))) (fun _ _ _ _ _ => pts_nil) (fun _ _ _ _ _ => (pe_callTy (T := "tuple") (call_tupQ (K := K) rfl) (by rfl) T.tuple (by decide +kernel) (pa_cons (pv 3) pa_nil)))) pa_nil)))))), ?_⟩
    refine ⟨_, rfl, S, v, d, rfl, r, fun H1 s1 => ⟨_, rfl, ?_⟩⟩
    rw [listed_seq]
    have bad : ∀ (H1 : Hp), Same H H1 → d.mvFault al.length = some (-1) → tMkSup (Er.cls ad .moves) (Er.fld .moves) (Er.okV .moves) (tCons (tUn (rU fun i => V.int (-i)) (tC (V.int 1))) tNil) (L2.start ["alphabet", "moves", "at", "row", "target"] [V.str al, v]) H1 fun cls d H' => E cls d H' := fun H1 s1 hf =>
      ⟨1, rfl, _, rfl, ⟨-1, rfl, by decide⟩, fun dd hdd => k2 (-1) hf dd H1 s1 hdd⟩
    cases hd : d.seq? with
    | none => exact iteT (iteT (bad H1 s1 (mv_none hd)))
    | some ds =>
      obtain ⟨a0, xs, rfl, hq, rs⟩ := r.seq (K := K) hd
      have hfit := fit ds hd
      have hlen := rs.len
      refine iteF ⟨_, rfl, a0, xs, rfl, hq.same s1, _, _, rfl, rfl, _, rfl, ?_⟩
      by_cases hn : 1 ≤ ds.length ∧ ds.length ≤ 60
      · rw [decide_eq_true (show (1 : Int) ≤ (xs.length : Int) by omega)]
        refine iteT ⟨_, _, rfl, rfl, _, rfl, ?_⟩
        rw [decide_eq_true (show (xs.length : Int) ≤ 60 by omega)]
        refine iteF ⟨_, rfl, a0, xs, rfl, hq.same s1, fun J G w hG => ?_⟩
        refine for_it w (fun i σ H' => Iv (Same H1 H' ∧ (∀ k < i, ∃ e, ds[k]? = some e ∧ e.rowOk al.length ds.length = true) ∧ ∃ a b, σ = [some (.str al), some (.ref a0), a, b, none])) (.of ⟨Same.refl _, fun k hk => absurd hk (Nat.not_lt_zero _), _, _, rfl⟩) (fun i σ H2 _ hp => hG H2 hp.get.1) (fun i y σ H2 H3 hi hp hy => ?_) (fun σ H2 hp => ?_)
        · obtain ⟨s2', hb, ea, eb, rfl⟩ := hp.get
          have s2 := s1.trans s2'
          obtain ⟨p, y1, y2, rfl, hp0, rfl, e1, e2⟩ := hy
          cases e1
          obtain ⟨e, he, re⟩ := rs.item e2
          have s3 : Same H (upd H2 p (.tup [.int (i : Int), y2])) := s2.trans (Same.new hp0)
          refine gTup2 ⟨_, rfl, S, y2, e, rfl, re.same s3, fun H4 s4 => ⟨_, rfl, ?_⟩⟩
          rw [listed_seq]
          have s5 : Same H H4 := s3.trans s4
          have s5' : Same H1 H4 := (s2'.trans (Same.new hp0)).trans s4
          have hil : (i : Int) ≤ 1000 := by have := hfit.1; omega
          have bad2 : ∀ (H1 : Hp) (σ : L2.St), Same H H1 → σ[2]? = some (some (.int (i : Int))) → e.rowOk al.length ds.length = false → tMkSup (Er.cls ad .moves) (Er.fld .moves) (Er.okV .moves) (tCons (tVar 2) tNil) σ H1 fun cls d H' => E cls d H' := fun H1 σ s1 hσ hf =>
            ⟨_, hσ, _, rfl, ⟨i, rfl, small_log (by omega)⟩, fun dd hdd => k2 i (mv_at hd hn hb he hf) dd H1 s1 hdd⟩
          cases hes : e.seq? with
          | none => exact iteT (iteT (bad2 H4 _ s5 rfl (row_none hes)))
          | some es =>
            obtain ⟨a1, zs, rfl, hq1, rs1⟩ := re.seq (K := K) hes
            have hze := rs1.len
            have hef := hfit.2 e (List.mem_of_getElem? he) es hes
            refine iteF ⟨_, rfl, a1, zs, rfl, hq1.same s5, _, rfl, _, rfl, Nat.le_trans hal (by decide), rfl, _, rfl, ?_⟩
            by_cases hl : es.length = al.length
            · rw [show V.int (zs.length : Int) = V.int (al.length : Int) by rw [hze, hl], decide_eq_true rfl]
              refine iteF ?_
              refine ⟨_, rfl, a1, zs, rfl, hq1.same s5, fun J2 G2 w2 hG2 L hL => lc_F (j := 4) (Xp := fun i v => zs[i]? = some v) (fun j => .bl ((es.getD j .non).inr 0 ((ds.length : Int) - 1))) w2 (fun i H v H' _ y => y) hL (by omega) (fun H s => hG2 H s) (fun _ => rfl) (fun j v H5 hj hv s6 Kt ht => ?_) (fun ys H5 s6 e6 r6 => ?_)⟩
              · obtain ⟨ej, hej, rej⟩ := rs1.item hv
                refine ⟨_, rfl, _, rfl, a0, xs, rfl, hq.same (s5.trans s6), _, _, rfl, rfl, S, v, ej, _, _, rfl, rej.same (s5.trans s6), ht _ _ (Same.refl _) ?_⟩
                rw [List.getD_eq_getElem?_getD, hej, hlen]
                exact .bl _
              · have ey := r6.bls_eq (n := 0)
                subst ey
                refine ⟨_, _, rfl, SqL.of e6, _, rfl, ?_⟩
                rw [hze, all_range es .non fun y => y.inr 0 ((ds.length : Int) - 1)]
                have s7 := s5.trans s6
                cases hall : es.all fun y => y.inr 0 ((ds.length : Int) - 1) with
                | false =>
                  have hro : e.rowOk al.length ds.length = false := by rw [row_some hes, decide_eq_true hl, hall]; rfl
                  exact iteT (bad2 H5 _ s7 rfl hro)
                | true =>
                  have hro : e.rowOk al.length ds.length = true := by rw [row_some hes, decide_eq_true hl, hall]; rfl
                  refine iteF (.of ⟨s5'.trans s6, fun j hj => ?_, _, _, rfl⟩)
                  rcases Nat.lt_succ_iff_lt_or_eq.mp hj with hj | rfl
                  · exact hb j hj
                  · exact ⟨e, he, hro⟩
            · rw [decide_eq_false (show ¬ V.int (zs.length : Int) = V.int (al.length : Int) from fun z => hl (by have := V.int.inj z; omega))]
              exact iteT (bad2 H4 _ s5 rfl (by rw [row_some hes, decide_eq_false hl]; rfl))
        · obtain ⟨s2', hb, ea, eb, rfl⟩ := hp.get
          have s2 := s1.trans s2'
          rw [hlen] at hb
          have hok := mv_ok hd hn hb
          refine ⟨_, rfl, a0, xs, rfl, hq.same s2, fun J2 G2 w2 hG2 L hL => lc_FS (j := 3) (Xp := fun i v => xs[i]? = some v) U (fun j => D.row (ds.getD j .non)) w2 (fun i H v H' _ y => y) (fun a ha => by obtain ⟨ys, e⟩ := hU a ha; exact ⟨_, s2 _ _ e⟩) hL (by omega) (fun H s => hG2 H s) (fun _ => rfl) (fun j v H5 hj hv s6 hex Kt ht => ?_) (fun ys H5 s6 e6 r6 => ?_)⟩
          · obtain ⟨e, he, re⟩ := rs.item hv
            obtain ⟨e', he', hro⟩ := hb j (by omega)
            rw [he] at he'
            cases he'
            have s7 := s2.trans s6
            cases hes : e.seq? with
            | none => rw [row_none hes] at hro; cases hro
            | some es =>
              rw [row_some hes, Bool.and_eq_true] at hro
              have er : e.row = .tup es := by unfold D.row; rw [hes]; rfl
              have ht' : ∀ y H', Same H5 H' → Rp (L :: U) H' y e.row → Kt y H' := fun y H' s r => ht y H' s (by rw [List.getD_eq_getElem?_getD, he]; exact r)
              rw [er] at ht'
              cases re with
              | @lst a1 zs _ n1 ha rs1 =>
                cases hes
                exact ⟨_, rfl, a1, zs, rfl, .inl ⟨SqL.of (s7 _ _ ha), fun l hl => ht' _ _ (Same.new hl) (.tup (fun hm => by obtain ⟨o, e⟩ := hex l hm; rw [hl] at e; cases e) upd_same (rs1.inrs hro.2))⟩⟩
              | @tup a1 zs _ n1 ha rs1 =>
                cases hes
                refine ⟨_, rfl, a1, zs, rfl, .inr ⟨.inl (.inl (s7 _ _ ha)), ht' _ _ (Same.refl _) (.tup (fun hm => ?_) (s7 _ _ ha) (rs1.inrs hro.2))⟩⟩
                rcases List.mem_cons.mp hm with rfl | hm
                · have z := s2 _ _ ha
                  rw [hL] at z
                  cases z
                · obtain ⟨ys, e⟩ := hU a1 hm
                  rw [ha] at e
                  cases e
              | _ => cases hes
          · rw [hlen, map_range ds .non D.row] at r6
            have s7 := s2.trans s6
            refine ⟨_, _, rfl, .inl ⟨SqL.of e6, fun l hl => k1 hok _ _ (s7.trans (Same.new hl)) ?_⟩⟩
            have en : d.norm = .tup (ds.map D.row) := by unfold D.norm; rw [hd]; rfl
            rw [en]
            refine .tup (fun hm => ?_) upd_same (r6.same (Same.new hl))
            obtain ⟨ys, e⟩ := hU l hm
            have z := s7 _ _ e
            rw [hl] at z
            cases z
      · have hbad := bad H1 s1 (mv_len hd hn)
        refine ite2 (fun h1 => ?_) (fun h1 => ?_)
        · have h1 : (1 : Int) ≤ (xs.length : Int) := by simpa using h1
          refine ⟨_, _, rfl, rfl, _, rfl, ?_⟩
          rw [decide_eq_false (show ¬ ((xs.length : Int) ≤ 60) by omega)]
          exact iteT hbad
        · exact ⟨_, rfl, iteT hbad⟩
end

def D.ltI : D → D → Bool
  | .int a, .int b => decide (a < b)
  | _, _ => false
def gdOk (n : Nat) (ds : List D) (i : Nat) : Bool := (ds.getD i .non).inr 0 ((n : Int) - 1) && (decide (i = 0) || (ds.getD (i - 1) .non).ltI (ds.getD i .non))
/-- where good rooms are wrong -/
def D.gdFault (n : Nat) (d : D) : Option Int := match d.seq? with
  | some ds => Option.map (fun n : Nat => (n : Int)) ((List.range ds.length).findIdx? fun i => !gdOk n ds i)
  | none => some (-1)
theorem gd_none {n : Nat} {d : D} (h : d.seq? = none) : d.gdFault n = some (-1) := by
  unfold D.gdFault
  rw [h]
theorem gd_at {n i : Nat} {d : D} {ds : List D} (h : d.seq? = some ds) (hi : i < ds.length) (hb : ∀ j < i, gdOk n ds j = true) (hp : gdOk n ds i = false) : d.gdFault n = some (i : Int) := by
  unfold D.gdFault
  rw [h]
  exact find_at (fun j hj => ⟨j, by rw [List.getElem?_range (by omega)], by rw [hb j hj]; rfl⟩) (List.getElem?_range hi) (by rw [hp]; rfl)
theorem gd_ok {n : Nat} {d : D} {ds : List D} (h : d.seq? = some ds) (hb : ∀ j < ds.length, gdOk n ds j = true) : d.gdFault n = none := by
  unfold D.gdFault
  rw [h]
  exact find_no (fun j hj => by rw [List.length_range] at hj; exact ⟨j, by rw [List.getElem?_range hj], by rw [hb j hj]; rfl⟩)
abbrev sGood : Stmt := top 32
def spGood (ad : Ad) : Sp := fun vs H Q E => ∃ (S S0 U : List Addr) (v0 v : V) (d d0 : D) (ms : List D), vs = [v0, v] ∧ Rp S0 H v0 d0 ∧ d0.seq? = some ms ∧ ms.length ≤ 1000 ∧ Rp S H v d ∧ d.fit ∧ (∀ a ∈ U, ∃ xs, H a = some (.lst xs)) ∧
  (d.gdFault ms.length = none → ∀ v' H', Same H H' → Rp U H' v' d.row → Q v' H') ∧ (∀ i, d.gdFault ms.length = some i → Ex ad .good (.int i) H E)
section
open PyProof.Rows
variable {P : Program} {w : World} {K : PySem.W.Frag} {mg : Str → Option Value} {base : Heap} {ad : Ad}
theorem scGood : FnScope ["moves", "good", "at", "room"] ["moves", "good"] (C8.fnScope sGood) := C8.fnScope_by (by decide +kernel)
theorem ok_good {f : Addr} {fd : FuncData} (F : C8.Def K mg "checked_good" sGood f fd) (b : Binds K fd ["moves", "good"] []) (T : Txt mg) (O : Own K mg ad) (SU : Sup P w K mg ad .good)
    (c_is_listed : C8.Cal P w K mg base 1 "is_listed" spListed []) (c_is_integer : C8.Cal P w K mg base 1 "is_integer" spInteger []) : CalZ ZT P w K mg base 2 "checked_good" (spGood ad) := by
  refine calZ (fun _ _ _ => trivial) F b scGood (fun vs H Q E h => ?_) (fun cdv A outer s H vs Q E hz hr h => ?_)
  · obtain ⟨S, S0, U, v0, v, d, d0, ms, rfl, _⟩ := h
    rfl
  · obtain ⟨S, S0, U, v0, v, d, d0, ms, rfl, r0, hd0, hms, r, fit, hU, k1, k2⟩ := h
    have sc := scGood
    obtain ⟨D0, fI, arg, ok, ST, hok⟩ := SU.ex
    refine ⟨_, -- checked_good: 0 moves 1 good 2 at 3 room

      (pss_cons (ps_if (pt_not (pt_val (C8.pe_c c_is_listed hr (by decide) rfl (pa_cons (pv 1) pa_nil)))) 
        (pss_one (ps_raiseSup (okV := Er.okV .good) rfl takesG ST hok hr O.g_BadGood (pa_cons (pe_un un_neg pe_int) pa_nil))) pss_nil)
      (pss_cons (ps_for passesG rfl (pi_enumW (by rfl) T.enumerate (pa_cons (pv 1) pa_nil)) (pg_tup rfl (pgs_cons (pg_name (i := 2) sc.nd rfl (Or.inl rfl)) (pgs_cons (pg_name (i := 3) sc.nd rfl (Or.inl rfl)) pgs_nil))) 
        (pss_cons (ps_if (pt_not (pt_val (C8.pe_c c_is_integer hr (by decide) rfl (pa_cons (pv 3) (pa_cons pe_int (pa_cons (pe_op op_sub (pe_callB (call_lenQ (K := K) rfl) (by rfl) T.len PySem.boot_len (pa_cons (pv 0) pa_nil)) pe_int) pa_nil)))))) 
          (pss_one (ps_raiseSup (okV := Er.okV .good) rfl takesG ST hok hr O.g_BadGood (pa_cons (pv 2) pa_nil))) pss_nil)
        (pss_one (ps_if (PW.pt (pw_and (pt_cmpR op_gt (pv 2) pe_int (nomark _)) (pw_and1 (pt_not (pt_cmpR op_lt (pe_ix (ixQ (K := K) rfl) (pv 1) (pe_op op_sub (pv 2) pe_int) (fun _ _ => rfl)) (pv 3) (nomark _)))))) 
          (pss_one (ps_raiseSup (okV := Er.okV .good) rfl takesG ST hok hr O.g_BadGood (pa_cons (pv 2) pa_nil))) pss_nil))))
      (pss_one (ps_ret (pe_callTy (T := "tuple") (call_tupQ (K := K) rfl) (by rfl) T.tuple (by decide +kernel) (pa_cons (pv 1) pa_nil)))))), ?_⟩
    refine ⟨_, rfl, S, v, d, rfl, r, fun H1 s1 => ⟨_, rfl, ?_⟩⟩
    rw [listed_seq]
    obtain ⟨am, xm, rfl, hqm, rm⟩ := r0.seq (K := K) hd0
    have hlm := rm.len
    cases hd : d.seq? with
    | none => exact iteT ⟨1, rfl, _, rfl, ⟨-1, rfl, by decide⟩, fun dd hdd => k2 (-1) (gd_none hd) dd H1 s1 hdd⟩
    | some ds =>
      obtain ⟨a0, xs, rfl, hq, rs⟩ := r.seq (K := K) hd
      have hfit := fit ds hd
      have hlen := rs.len
      refine iteF ⟨_, rfl, a0, xs, rfl, hq.same s1, fun J G w hG => ?_⟩
      refine for_it w (fun i σ H' => Iv (Same H1 H' ∧ (∀ k < i, gdOk ms.length ds k = true) ∧ ∃ a b, σ = [some (.ref am), some (.ref a0), a, b])) (.of ⟨Same.refl _, fun k hk => absurd hk (Nat.not_lt_zero _), _, _, rfl⟩) (fun i σ H2 _ hp => hG H2 hp.get.1) (fun i y σ H2 H3 hi hp hy => ?_) (fun σ H2 hp => ?_)
      · obtain ⟨s2', hb, ea, eb, rfl⟩ := hp.get
        have s2 := s1.trans s2'
        obtain ⟨p, y1, y2, rfl, hp0, rfl, e1, e2⟩ := hy
        cases e1
        obtain ⟨e, he, re⟩ := rs.item e2
        have hie : ds.getD i .non = e := by rw [List.getD_eq_getElem?_getD, he]; rfl
        have hid : i < ds.length := by omega
        have s3 : Same H (upd H2 p (.tup [.int (i : Int), y2])) := s2.trans (Same.new hp0)
        have s3' : Same H1 (upd H2 p (.tup [.int (i : Int), y2])) := s2'.trans (Same.new hp0)
        have hil : (i : Int) ≤ 1000 := by have := hfit.1; omega
        have bad2 : ∀ (H1 : Hp) (σ : L2.St), Same H H1 → σ[2]? = some (some (.int (i : Int))) → gdOk ms.length ds i = false → tMkSup (Er.cls ad .good) (Er.fld .good) (Er.okV .good) (tCons (tVar 2) tNil) σ H1 fun cls d H' => E cls d H' := fun H1 σ s1 hσ hf =>
          ⟨_, hσ, _, rfl, ⟨i, rfl, small_log (by omega)⟩, fun dd hdd => k2 i (gd_at hd hid hb hf) dd H1 s1 hdd⟩
        refine gTup2 ⟨_, rfl, _, rfl, am, xm, rfl, hqm.same s3, _, _, rfl, rfl, S, y2, e, _, _, rfl, re.same s3, _, rfl, ?_⟩
        rw [hlm]
        cases hin : e.inr 0 ((ms.length : Int) - 1) with
        | false => exact iteT (bad2 _ _ s3 rfl (by unfold gdOk; rw [hie, hin]; rfl))
        | true =>
          refine iteF ⟨_, rfl, _, _, rfl, rfl, _, rfl, ?_⟩
          obtain ⟨z, rfl⟩ : ∃ z, e = .int z := by cases e <;> first | exact ⟨_, rfl⟩ | (simp [D.inr] at hin)
          cases re
          by_cases h0 : i = 0
          · subst h0
            refine iteF (iteF (.of ⟨s3', fun j hj => ?_, _, _, rfl⟩))
            obtain rfl : j = 0 := by omega
            unfold gdOk
            rw [hie, hin]
            rfl
          · rw [decide_eq_true (show (0 : Int) < (i : Int) by omega)]
            have hprev := hb (i - 1) (by omega)
            unfold gdOk at hprev
            rw [Bool.and_eq_true] at hprev
            obtain ⟨z', hz'⟩ : ∃ z, ds.getD (i - 1) .non = .int z := by
              have h1 := hprev.1
              cases hq : ds.getD (i - 1) .non <;> first | exact ⟨_, rfl⟩ | (rw [hq] at h1; simp [D.inr] at h1)
            have hx : ds[i - 1]? = some (.int z') := by
              rw [List.getD_eq_getElem?_getD] at hz'
              rw [List.getElem?_eq_getElem (show i - 1 < ds.length by omega)] at hz' ⊢
              exact congrArg some hz'
            obtain ⟨u, hu, ru⟩ := rs.get hx
            cases ru
            have ha : atI xs ((i : Int) - 1) = some (V.int z') := by rw [show (i : Int) - 1 = ((i - 1 : Nat) : Int) by omega]; exact atI_nat hu
            refine iteT ⟨_, rfl, _, rfl, _, _, rfl, rfl, a0, xs, _, _, rfl, rfl, hq.same s3, ha, _, rfl, _, _, rfl, rfl, _, rfl, ?_⟩
            have ho : gdOk ms.length ds i = decide (z' < z) := by
              unfold gdOk
              rw [hie, hin, hz', decide_eq_false h0]
              rfl
            by_cases hlt : z' < z
            · rw [decide_eq_true hlt] at ho ⊢
              refine iteF (.of ⟨s3', fun j hj => ?_, _, _, rfl⟩)
              rcases Nat.lt_succ_iff_lt_or_eq.mp hj with hj | rfl
              · exact hb j hj
              · exact ho
            · rw [decide_eq_false hlt] at ho ⊢
              exact iteT (bad2 _ _ s3 rfl ho)
      · obtain ⟨s2', hb, ea, eb, rfl⟩ := hp.get
        rw [hlen] at hb
        have hok := gd_ok hd hb
        have s2 := s1.trans s2'
        have hall : (ds.all fun e => e.inr 0 ((ms.length : Int) - 1)) = true := by
          rw [List.all_eq_true]
          intro e he
          obtain ⟨k, hk, rfl⟩ := List.mem_iff_getElem.mp he
          have h1 := hb k hk
          unfold gdOk at h1
          rw [Bool.and_eq_true, List.getD_eq_getElem?_getD, List.getElem?_eq_getElem hk] at h1
          exact h1.1
        have er : d.row = .tup ds := by unfold D.row; rw [hd]; rfl
        rw [er] at k1
        cases r with
        | @lst a1 zs _ n1 ha rs1 =>
          cases hd
          refine ⟨_, rfl, _, zs, rfl, .inl ⟨SqL.of (s2 _ _ ha), fun l hl => k1 hok _ _ (s2.trans (Same.new hl)) (.tup (fun hm => ?_) upd_same (rs1.inrs hall))⟩⟩
          obtain ⟨ys, e⟩ := hU l hm
          have z := s2 _ _ e
          rw [hl] at z
          cases z
        | @tup a1 zs _ n1 ha rs1 =>
          cases hd
          refine ⟨_, rfl, _, zs, rfl, .inr ⟨.inl (.inl (s2 _ _ ha)), k1 hok _ _ s2 (.tup (fun hm => ?_) (s2 _ _ ha) (rs1.inrs hall))⟩⟩
          obtain ⟨ys, e⟩ := hU a0 hm
          rw [ha] at e
          cases e
        | dct n1 ha => cases hd
end

/-! ### Reader.__init__ -/
/-- what the written part says of Reader -/
structure RdC (K : PySem.W.Frag) (C : Addr) : Prop where
  cl : Cls K C
  n1 : NoAttr K C "alphabet"
  n2 : NoAttr K C "moves"
  n3 : NoAttr K C "good"
abbrev sInit : Stmt := sub 33 0
/-- an error e, all but the object x kept -/
def Exk (ad : Ad) (e : Er) (v : V) (x : Addr) (H : Hp) (E : XK) : Prop := ∀ (dd : Addr) (H' : Hp), Keep [x] H H' → H' dd = none → E (.ref (e.cls ad)) (some dd) (upd H' dd (.xd [(e.fld, v)]))
def rdF (va vm vg : V) : List (Str × V) := [("alphabet", va), ("moves", vm), ("good", vg)]
/-- making a Reader of da, dm, dg: what is made (apart from U), or which error -/
def spInit (K : PySem.W.Frag) (ad : Ad) : Sp := fun vs H Q E => ∃ (S U : List Addr) (x dx : Addr) (va vm vg : V) (da dm dg : D), vs = [.ref x, va, vm, vg] ∧ H x = some (.ins ad.Reader dx []) ∧ x ∉ U ∧ Rp S H va da ∧ Rp S H vm dm ∧ Rp S H vg dg ∧
  (∀ z, da = .str z → z.length ≤ 1000) ∧ dm.fit ∧ dg.fit ∧ (∀ a ∈ U, ∃ xs, H a = some (.lst xs)) ∧
  (da.alOk = false → Exk ad .alphabet va x H E) ∧
  (∀ al, da = .str al → alOk al = true → ∀ i, dm.mvFault al.length = some i → Exk ad .moves (.int i) x H E) ∧
  (∀ al ms, da = .str al → alOk al = true → dm.mvFault al.length = none → dm.seq? = some ms →
    (∀ i, dg.gdFault ms.length = some i → Exk ad .good (.int i) x H E) ∧
    (dg.gdFault ms.length = none → ∀ vm' vg' H', Keep [x] H H' → H' x = some (.ins ad.Reader dx (rdF va vm' vg')) → Rp U H' vm' dm.norm → Rp U H' vg' dg.row → Q .non H'))
section
open PyProof.Rows
variable {P : Program} {w : World} {K : PySem.W.Frag} {mg : Str → Option Value} {base : Heap} {ad : Ad}
theorem scInit : FnScope ["self", "alphabet", "moves", "good"] ["self", "alphabet", "moves", "good"] (C8.fnScope sInit) := C8.fnScope_by (by decide +kernel)
theorem ok_init {f : Addr} {fd : FuncData} (M : Mk K ad.Reader f) (R : RdC K ad.Reader) (F : C8.Fun K "__init__" "Reader.__init__" sInit f fd) (b : Binds K fd ["self", "alphabet", "moves", "good"] []) (T : Txt mg) (O : Own K mg ad)
    (c_check_alphabet : CalZ ZT P w K mg base 2 "check_alphabet" (spChkAl ad)) (c_checked_moves : CalZ ZT P w K mg base 2 "checked_moves" (spMoves ad)) (c_checked_good : CalZ ZT P w K mg base 2 "checked_good" (spGood ad)) : MakZ P w K mg base 3 "Reader" ad.Reader (spInit K ad) := by
  refine makZ M O.g_Reader F b scInit (fun vs H Q E h => ?_) (fun cdv A outer s H vs Q E hr h => ?_)
  · obtain ⟨S, U, x, dx, va, vm, vg, da, dm, dg, rfl, _⟩ := h
    rfl
  · obtain ⟨S, U, x, dx, va, vm, vg, da, dm, dg, rfl, hx, hxU, ra, rm, rg, hz, fm, fg, hU, k1, k2, k3⟩ := h
    have sc := scInit
    have pw := passW (takesG (P := P) (w := w) (K := K) (mg := mg) (base := base) (N := ["self", "alphabet", "moves", "good"]) (qual := "Reader.__init__") (scope := C8.fnScope sInit) (f := f) (cd := cdv) (A := A) (outer := outer) (s := s) (H := H) (E := E))
    refine ⟨_, -- Reader.__init__: 0 self 1 alphabet 2 moves 3 good

      (pss_cons (ps_expr (pe_z (E := WE (fun cls d _ H => E cls d H)) c_check_alphabet trivial hr (by decide) rfl pw (pa_cons (pv 1) pa_nil)))
      (pss_cons (ps_fld (pv 0) (pv 1) rfl)
      (pss_cons (ps_fld (pv 0) (pe_z (E := WE (fun cls d _ H => E cls d H)) c_checked_moves trivial hr (by decide) rfl pw (pa_cons (pv 1) (pa_cons (pv 2) pa_nil))) rfl)
      (pss_one (ps_fld (pv 0) (pe_z (E := WE (fun cls d _ H => E cls d H)) c_checked_good trivial hr (by decide) rfl pw (pa_cons (pe_fldK (K := K) rfl (pv 0)) (pa_cons (pv 3) pa_nil))) rfl))))), ?_⟩
    refine ⟨_, rfl, S, va, da, rfl, ra, hz, fun hal H1 s1 => ?_, fun hal dd H' s hdd => k1 hal dd H' (Keep.same s) hdd⟩
    obtain ⟨al, rfl⟩ : ∃ al, da = .str al := by cases da <;> first | exact ⟨_, rfl⟩ | (cases (show false = true from hal))
    cases ra
    have hal : alOk al = true := hal
    have hza := hz al rfl
    have e1 := s1 _ _ hx
    refine ⟨_, rfl, _, rfl, x, ad.Reader, dx, _, rfl, e1, R.cl, R.n1, by show 0 < 1000; decide, ?_⟩
    have h2 : Keep [x] H (upd H1 x (.ins ad.Reader dx (putF "alphabet" (.str al) []))) := (Keep.same s1).trans (Keep.at1 (by simp))
    generalize hH2 : upd H1 x (.ins ad.Reader dx (putF "alphabet" (.str al) [])) = H2 at h2
    have e2 : H2 x = some (.ins ad.Reader dx (putF "alphabet" (.str al) [])) := by rw [← hH2]; exact upd_same
    clear hH2
    have kx : ∀ {H' : Hp} {T : List Addr}, Keep [x] H H' → Keep (x :: T) H H' := fun k b o hb e => k b o (fun hm => hb (List.mem_cons.mpr (.inl (List.mem_singleton.mp hm)))) e
    have rm2 := (rm.off hx).keep (kx h2)
    have lst : ∀ {H' : Hp}, Keep [x] H H' → ∀ a ∈ U, ∃ xs, H' a = some (.lst xs) := fun k a ha => by
      obtain ⟨xs, e⟩ := hU a ha
      exact ⟨xs, k a _ (fun hm => hxU (by rw [← List.mem_singleton.mp hm]; exact ha)) e⟩
    refine ⟨_, rfl, _, rfl, x :: S, U, al, vm, dm, rfl, rm2, fm, hza, lst h2, fun hmv vm' H3 s3 r3 => ?_, fun i hi dd H' s hdd => k2 al rfl hal i hi dd H' (h2.trans (Keep.same s)) hdd⟩
    have h3 := h2.trans (Keep.same s3)
    have e3 := s3 _ _ e2
    refine ⟨_, rfl, x, ad.Reader, dx, _, rfl, e3, R.cl, R.n2, by show 1 < 1000; decide, ?_⟩
    obtain ⟨ms, hms⟩ : ∃ ms, dm.seq? = some ms := by
      cases hq : dm.seq? with
      | some ms => exact ⟨ms, rfl⟩
      | none => rw [mv_none hq] at hmv; cases hmv
    obtain ⟨k4, k5⟩ := k3 al ms rfl hal hmv hms
    have r3' := r3.off e3
    have h4 : Keep [x] H (upd H3 x (.ins ad.Reader dx (putF "moves" vm' (putF "alphabet" (.str al) [])))) := h3.trans (Keep.at1 (by simp))
    have k34 : Keep (x :: U) H3 (upd H3 x (.ins ad.Reader dx (putF "moves" vm' (putF "alphabet" (.str al) [])))) := Keep.at1 (by simp)
    generalize hH4 : upd H3 x (.ins ad.Reader dx (putF "moves" vm' (putF "alphabet" (.str al) []))) = H4 at h4 k34
    have e4 : H4 x = some (.ins ad.Reader dx (putF "moves" vm' (putF "alphabet" (.str al) []))) := by rw [← hH4]; exact upd_same
    clear hH4
    have r4 := r3'.keep k34
    have en : dm.norm.seq? = some (ms.map D.row) := by unfold D.norm; rw [hms]; rfl
    have hml : (ms.map D.row).length = ms.length := by simp
    refine ⟨_, rfl, x, ad.Reader, dx, _, vm', rfl, e4, R.cl, R.n2, ?_, _, rfl, x :: S, x :: U, U, vm', vg, dg, dm.norm, ms.map D.row, rfl, r4, en, by rw [hml]; exact (fm ms hms).1, (rg.off hx).keep (kx h4), fg, lst h4, ?_⟩
    · rw [lookup_putF, if_pos rfl]
    rw [hml]
    refine ⟨fun hgd vg' H5 s5 r5 => ?_, fun i hi dd H' s hdd => k4 i hi dd H' (h4.trans (Keep.same s)) hdd⟩
    have e5 := s5 _ _ e4
    refine ⟨_, rfl, x, ad.Reader, dx, _, rfl, e5, R.cl, R.n3, by show 2 < 1000; decide, ?_⟩
    refine k5 hgd vm' vg' _ ((h4.trans (Keep.same s5)).trans (Keep.at1 (by simp))) upd_same ?_ ?_
    · exact ((r4.same s5).keep (Keep.at1 (by simp))).less fun a ha => List.mem_cons_of_mem _ ha
    · exact ((r5.off e5).keep (Keep.at1 (by simp))).less fun a ha => List.mem_cons_of_mem _ ha
end

/-! ### a reader as it stands; room_of, _law_room -/
structure RdAt (ad : Ad) (U : List Addr) (H : Hp) (x : Addr) (al : Str) (mv : List (List Int)) (g : List Int) : Prop where
  ex : ∃ dx vm vg, H x = some (.ins ad.Reader dx (rdF (.str al) vm vg)) ∧ Rp U H vm (mvT mv) ∧ Rp U H vg (rowT g)
  mach : Mach al.length mv g
theorem RdAt.keep {ad : Ad} {U : List Addr} {H H' : Hp} {x : Addr} {al : Str} {mv : List (List Int)} {g : List Int} (r : RdAt ad U H x al mv g) (k : Keep U H H') (hx : x ∉ U) : RdAt ad U H' x al mv g := by
  obtain ⟨⟨dx, vm, vg, e, rm, rg⟩, M⟩ := r
  exact ⟨⟨dx, vm, vg, k _ _ hx e, rm.keep k, rg.keep k⟩, M⟩
theorem RdAt.same {ad : Ad} {U : List Addr} {H H' : Hp} {x : Addr} {al : Str} {mv : List (List Int)} {g : List Int} (r : RdAt ad U H x al mv g) (s : Same H H') : RdAt ad U H' x al mv g := by
  obtain ⟨⟨dx, vm, vg, e, rm, rg⟩, M⟩ := r
  exact ⟨⟨dx, vm, vg, s _ _ e, rm.same s, rg.same s⟩, M⟩
abbrev sRoomOf : Stmt := top 34
abbrev sLawRoom : Stmt := top 45
def spRoomOf (ad : Ad) : Sp := fun vs H Q _ => ∃ (U : List Addr) (x : Addr) (al t : Str) (mv : List (List Int)) (g : List Int), vs = [.ref x, .str t] ∧ RdAt ad U H x al mv g ∧ Over al t ∧ al.length ≤ 1000 ∧ Q (.int (roomF al mv t.cps.toList)) H
def spLawRoom : Sp := fun vs H Q _ => ∃ (U : List Addr) (v : V) (al t : Str) (mv : List (List Int)) (g : List Int), vs = [.str al, v, .str t] ∧ Rp U H v (mvT mv) ∧ Mach al.length mv g ∧ Over al t ∧ al.length ≤ 1000 ∧ Q (.int (roomF al mv t.cps.toList)) H
/-- moves[p][k] -/
theorem cell_at {K : PySem.W.Frag} {U : List Addr} {H : Hp} {v : V} {mv : List (List Int)} {p : Int} {r : List Int} {k : Nat} {z : Int} (r0 : Rp U H v (mvT mv)) (h0 : 0 ≤ p) (hr : mv[p.toNat]? = some r) (hz : r[k]? = some z) :
    ∃ a xs b ys, v = .ref a ∧ SqQ K H a xs ∧ atI xs p = some (.ref b) ∧ SqQ K H b ys ∧ atI ys (k : Int) = some (.int z) := by
  obtain ⟨a, xs, rfl, _, ha, rs⟩ := r0.tupItem
  obtain ⟨u, hu, ru⟩ := rs.get (i := p.toNat) (d := rowT r) (by rw [List.getElem?_map, hr]; rfl)
  obtain ⟨b, ys, rfl, _, hb, rs2⟩ := ru.tupItem
  obtain ⟨y, hy, ry⟩ := rs2.get (i := k) (d := .int z) (by rw [List.getElem?_map, hz]; rfl)
  cases ry
  refine ⟨a, xs, b, ys, rfl, .inr (.inl (.inl ha)), ?_, .inr (.inl (.inl hb)), atI_nat hy⟩
  rw [show p = ((p.toNat : Nat) : Int) by omega]
  exact atI_nat hu
section
open PyProof.Rows
variable {P : Program} {w : World} {K : PySem.W.Frag} {mg : Str → Option Value} {base : Heap} {ad : Ad}
theorem scRoomOf : FnScope ["reader", "text", "place", "letter"] ["reader", "text"] (C8.fnScope sRoomOf) := C8.fnScope_by (by decide +kernel)
theorem ok_roomof {f : Addr} {fd : FuncData} (F : C8.Def K mg "room_of" sRoomOf f fd) (b : Binds K fd ["reader", "text"] []) (T : Txt mg) (R : RdC K ad.Reader) : C8.Cal P w K mg base 1 "room_of" (spRoomOf ad) [] := by
  refine C8.cal0 F b .nil scRoomOf (fun vs H Q E h => ?_) (fun cdv A outer s H vs Q E hr h => ?_)
  · obtain ⟨U, x, al, t, mv, g, rfl, _⟩ := h
    rfl
  · obtain ⟨U, x, al, t, mv, g, rfl, hx, ho, hal, k⟩ := h
    have sc := scRoomOf
    obtain ⟨⟨dx, vm, vg, ex, rm, rg⟩, M⟩ := hx
    refine ⟨_, -- room_of: 0 reader 1 text 2 place 3 letter

      (pss_cons (ps_set (i := 2) sc.nd rfl (Or.inl rfl) pe_int)
      (pss_cons (ps_for PassesOwn.never rfl (pi_str (pv 1)) (pg_name (i := 3) sc.nd rfl (Or.inl rfl)) 
        (pss_one (ps_set (i := 2) sc.nd rfl (Or.inl rfl) (pe_ix (ixQ (K := K) rfl) (pe_ix (ixQ (K := K) rfl) (pe_fldK (K := K) rfl (pv 0)) (pv 2) (fun _ _ => rfl)) (pe_bm PySem.F.plainAttrs_str PySem.F.slot_str_index PySem.F.type_str_index mt_sindex (pe_fldK (K := K) rfl (pv 0)) (pa_cons (pv 3) pa_nil)) (fun _ _ => rfl)))))
      (pss_one (ps_ret (pv 2))))), ?_⟩
    refine ⟨_, rfl, t, rfl, ?_⟩
    refine for_it walk_str (fun i σ H' => Iv (H' = H ∧ (0 ≤ roomF al mv (t.cps.toList.take i) ∧ roomF al mv (t.cps.toList.take i) < (mv.length : Int)) ∧ ∃ b, σ = [some (.ref x), some (.str t), some (.int (roomF al mv (t.cps.toList.take i))), b])) (.of ⟨rfl, ⟨Int.le_refl 0, by have := M.pos; show (0 : Int) < _; omega⟩, _, rfl⟩) (fun _ _ _ _ _ => trivial) (fun i y σ H2 H3 hi hp hy => ?_) (fun σ H2 hp => ?_)
    · obtain ⟨rfl, ⟨h0, h1⟩, eb, rfl⟩ := hp.get
      obtain ⟨rfl, c, hc, rfl⟩ := hy
      rw [← Array.getElem?_toList] at hc
      have hm : c ∈ al.cps.toList := ho c (List.mem_of_getElem? hc)
      obtain ⟨rest, hocc, _⟩ := sIdx_at hm
      obtain ⟨r, hr1, hr2, hr3⟩ := step_in M h0 h1 hm
      obtain ⟨a, xs, b2, ys, rfl, hq, ha, hq2, hb⟩ := cell_at (K := K) rm h0 hr1 hr2
      refine ⟨_, rfl, x, ad.Reader, dx, _, _, rfl, ex, R.cl, R.n2, rfl, _, rfl, a, xs, _, _, rfl, rfl, hq, ha, ?_⟩
      refine ⟨_, rfl, x, ad.Reader, dx, _, _, rfl, ex, R.cl, R.n1, rfl, rfl, _, rfl, al, _, _, rest, rfl, rfl, hocc, ?_⟩
      refine ⟨b2, ys, _, _, rfl, rfl, hq2, hb, .of ?_⟩
      rw [take_snoc hc, roomF_snoc]
      exact ⟨rfl, hr3, _, rfl⟩
    · obtain ⟨rfl, _, eb, rfl⟩ := hp.get
      rw [show t.cps.size = t.cps.toList.length by simp, List.take_length]
      exact ⟨_, rfl, k⟩
theorem scLawRoom : FnScope ["alphabet", "moves", "text", "room", "letter"] ["alphabet", "moves", "text"] (C8.fnScope sLawRoom) := C8.fnScope_by (by decide +kernel)
theorem ok_lawroom {f : Addr} {fd : FuncData} (F : C8.Def K mg "_law_room" sLawRoom f fd) (b : Binds K fd ["alphabet", "moves", "text"] []) (T : Txt mg) : C8.Cal P w K mg base 1 "_law_room" spLawRoom [] := by
  refine C8.cal0 F b .nil scLawRoom (fun vs H Q E h => ?_) (fun cdv A outer s H vs Q E hr h => ?_)
  · obtain ⟨U, v, al, t, mv, g, rfl, _⟩ := h
    rfl
  · obtain ⟨U, v, al, t, mv, g, rfl, rm, M, ho, hal, k⟩ := h
    have sc := scLawRoom
    refine ⟨_, -- _law_room: 0 alphabet 1 moves 2 text 3 room 4 letter

      (pss_cons (ps_set (i := 3) sc.nd rfl (Or.inl rfl) pe_int)
      (pss_cons (ps_for PassesOwn.never rfl (pi_str (pv 2)) (pg_name (i := 4) sc.nd rfl (Or.inl rfl)) 
        (pss_one (ps_set (i := 3) sc.nd rfl (Or.inl rfl) (pe_ix (ixQ (K := K) rfl) (pe_ix (ixQ (K := K) rfl) (pv 1) (pv 3) (fun _ _ => rfl)) (pe_bm PySem.F.plainAttrs_str PySem.F.slot_str_index PySem.F.type_str_index mt_sindex (pv 0) (pa_cons (pv 4) pa_nil)) (fun _ _ => rfl)))))
      (pss_one (ps_ret (pv 3))))), ?_⟩
    refine ⟨_, rfl, t, rfl, ?_⟩
    refine for_it walk_str (fun i σ H' => Iv (H' = H ∧ (0 ≤ roomF al mv (t.cps.toList.take i) ∧ roomF al mv (t.cps.toList.take i) < (mv.length : Int)) ∧ ∃ b, σ = [some (.str al), some v, some (.str t), some (.int (roomF al mv (t.cps.toList.take i))), b])) (.of ⟨rfl, ⟨Int.le_refl 0, by have := M.pos; show (0 : Int) < _; omega⟩, _, rfl⟩) (fun _ _ _ _ _ => trivial) (fun i y σ H2 H3 hi hp hy => ?_) (fun σ H2 hp => ?_)
    · obtain ⟨rfl, ⟨h0, h1⟩, eb, rfl⟩ := hp.get
      obtain ⟨rfl, c, hc, rfl⟩ := hy
      rw [← Array.getElem?_toList] at hc
      have hm : c ∈ al.cps.toList := ho c (List.mem_of_getElem? hc)
      obtain ⟨rest, hocc, _⟩ := sIdx_at hm
      obtain ⟨r, hr1, hr2, hr3⟩ := step_in M h0 h1 hm
      obtain ⟨a, xs, b2, ys, rfl, hq, ha, hq2, hb⟩ := cell_at (K := K) rm h0 hr1 hr2
      refine ⟨_, rfl, _, rfl, a, xs, _, _, rfl, rfl, hq, ha, ?_⟩
      refine ⟨_, rfl, rfl, _, rfl, al, _, _, rest, rfl, rfl, hocc, ?_⟩
      refine ⟨b2, ys, _, _, rfl, rfl, hq2, hb, .of ?_⟩
      rw [take_snoc hc, roomF_snoc]
      exact ⟨rfl, hr3, _, rfl⟩
    · obtain ⟨rfl, _, eb, rfl⟩ := hp.get
      rw [show t.cps.size = t.cps.toList.length by simp, List.take_length]
      exact ⟨_, rfl, k⟩
end

/-! ### Reader's methods -/
abbrev sRoom : Stmt := sub 33 3
abbrev sContains : Stmt := sub 33 4
abbrev sLen : Stmt := sub 33 5
abbrev sEq : Stmt := sub 33 6
def spRoom (ad : Ad) : Sp := fun vs H Q E => ∃ (S U : List Addr) (x : Addr) (al : Str) (mv : List (List Int)) (g : List Int) (v : V) (d : D), vs = [.ref x, v] ∧ RdAt ad U H x al mv g ∧ al.length ≤ 1000 ∧ Rp S H v d ∧ (∀ x, d = .str x → x.length ≤ 1000) ∧
  (∀ t, d = .str t → d.fault al 40 = none → ∀ H', Same H H' → Q (.int (roomF al mv t.cps.toList)) H') ∧ (∀ i, d.fault al 40 = some i → Ex ad .text (.int i) H E)
def spContains (ad : Ad) : Sp := fun vs H Q E => ∃ (S U : List Addr) (x : Addr) (al : Str) (mv : List (List Int)) (g : List Int) (v : V) (d : D), vs = [.ref x, v] ∧ RdAt ad U H x al mv g ∧ al.length ≤ 1000 ∧ Rp S H v d ∧ (∀ x, d = .str x → x.length ≤ 1000) ∧
  (∀ t, d = .str t → d.fault al 40 = none → ∀ H', Same H H' → Q (.bl (decide (roomF al mv t.cps.toList ∈ g))) H') ∧ (∀ i, d.fault al 40 = some i → Ex ad .text (.int i) H E)
def spLen (ad : Ad) : Sp := fun vs H Q _ => ∃ (U : List Addr) (x : Addr) (al : Str) (mv : List (List Int)) (g : List Int), vs = [.ref x] ∧ RdAt ad U H x al mv g ∧ Q (.int mv.length) H
/-- with another reader; with a thing of another type -/
def spEqR (K : PySem.W.Frag) (ad : Ad) : Sp := fun vs H Q _ => ∃ (U : List Addr) (x : Addr) (al : Str) (mv : List (List Int)) (g : List Int) (y : V), vs = [.ref x, y] ∧ RdAt ad U H x al mv g ∧
  ((∃ (U2 : List Addr) (x2 : Addr) (al2 : Str) (mv2 : List (List Int)) (g2 : List Int), y = .ref x2 ∧ RdAt ad U2 H x2 al2 mv2 g2 ∧ Q (.bl (decide (al = al2 ∧ mv = mv2 ∧ g = g2))) H) ∨
    ∃ t, TyX K H y t ∧ PySem.W.kitOne K t (.ref ad.Reader) = some false ∧ Q (.bl false) H)
theorem fault_over {al t : Str} (h : (D.str t).fault al 40 = none) : Over al t := by
  rw [fault_str] at h
  by_cases h40 : (40 : Int) < (t.length : Int)
  · rw [if_pos h40] at h
    cases h
  · rw [if_neg h40] at h
    cases hf : t.cps.toList.findIdx? fun c => !decide (c ∈ al.cps.toList) with
    | some n => rw [hf] at h; cases h
    | none =>
      intro c hc
      have z := List.findIdx?_eq_none_iff.mp hf c hc
      simpa using z
theorem fault_str_of {al : Str} {d : D} (h : d.fault al 40 = none) : ∃ t, d = .str t := by
  cases d with
  | str t => exact ⟨t, rfl⟩
  | _ => cases h
/-- what isinstance asks of Reader's instances -/
structure RdI (K : PySem.W.Frag) (C : Addr) : Prop where
  ha : PySem.W.findIn K (.ref C) "__class__" = some (some (.builtin "object.__class__"))
  hn : PySem.W.specialIn K (.builtin "object.__class__") "__get__" = some (some (.builtin "getset_descriptor.__get__"))
  ht : PySem.W.takesIn K (.builtin "object.__class__") = some true
  hm : PySem.W.mroIn K C (.type "object") = some true
  self : PySem.W.kitOne K (.ref C) (.ref C) = some true
theorem RdAt.ty {K : PySem.W.Frag} {ad : Ad} {U : List Addr} {H : Hp} {x : Addr} {al : Str} {mv : List (List Int)} {g : List Int} (r : RdAt ad U H x al mv g) (R : RdC K ad.Reader) (I : RdI K ad.Reader) : TyX K H (.ref x) (.ref ad.Reader) := by
  obtain ⟨⟨dx, vm, vg, e, rm, rg⟩, M⟩ := r
  exact .base (.ins e R.cl I.ha I.hn I.ht I.hm)
section
open PyProof.Rows
variable {P : Program} {w : World} {K : PySem.W.Frag} {mg : Str → Option Value} {base : Heap} {ad : Ad}
theorem scRoom : FnScope ["self", "text"] ["self", "text"] (C8.fnScope sRoom) := C8.fnScope_by (by decide +kernel)
theorem ok_room {f : Addr} {fd : FuncData} (R : RdC K ad.Reader) (me : Meth K ad.Reader "room" f) (F : C8.Fun K "room" "Reader.room" sRoom f fd) (b : Binds K fd ["self", "text"] []) (T : Txt mg)
    (c_check_text : CalZ ZT P w K mg base 2 "check_text" (spChkText ad)) (c_room_of : C8.Cal P w K mg base 1 "room_of" (spRoomOf ad) []) : MetZ P w K mg base 3 ad.Reader "room" (spRoom ad) := by
  refine metZ R.cl me F b scRoom (fun vs H Q E h => ?_) (fun cdv A outer s H vs Q E hr h => ?_)
  · obtain ⟨S, U, x, al, mv, g, v, d, rfl, _⟩ := h
    rfl
  · obtain ⟨S, U, x, al, mv, g, v, d, rfl, hx, hal, rd, hz, k1, k2⟩ := h
    have sc := scRoom
    have pw := passW (takesG (P := P) (w := w) (K := K) (mg := mg) (base := base) (N := ["self", "text"]) (qual := "Reader.room") (scope := C8.fnScope sRoom) (f := f) (cd := cdv) (A := A) (outer := outer) (s := s) (H := H) (E := E))
    obtain ⟨dx, vm, vg, ex, rm, rg⟩ := hx.ex
    refine ⟨_, -- Reader.room: 0 self 1 text

      (pss_cons (ps_expr (pe_z (E := WE (fun cls d _ H => E cls d H)) c_check_text trivial hr (by decide) rfl pw (pa_cons (pe_fldK (K := K) rfl (pv 0)) (pa_cons (pv 1) pa_nil))))
      (pss_one (ps_ret (C8.pe_c c_room_of hr (by decide) rfl (pa_cons (pv 0) (pa_cons (pv 1) pa_nil)))))), ?_⟩
    refine ⟨_, rfl, x, ad.Reader, dx, _, _, rfl, ex, R.cl, R.n1, rfl, _, rfl, S, al, v, d, rfl, rd, hz, fun hf H1 s1 => ?_, fun i hi dd H' s hdd => k2 i hi dd H' s hdd⟩
    obtain ⟨t, rfl⟩ := fault_str_of hf
    cases rd
    exact ⟨_, rfl, _, rfl, U, x, al, t, mv, g, rfl, hx.same s1, fault_over hf, hal, k1 t rfl hf H1 s1⟩
theorem scContains : FnScope ["self", "text"] ["self", "text"] (C8.fnScope sContains) := C8.fnScope_by (by decide +kernel)
theorem ok_contains {f : Addr} {fd : FuncData} (R : RdC K ad.Reader) (me : Meth K ad.Reader "__contains__" f) (F : C8.Fun K "__contains__" "Reader.__contains__" sContains f fd) (b : Binds K fd ["self", "text"] []) (T : Txt mg)
    (c_check_text : CalZ ZT P w K mg base 2 "check_text" (spChkText ad)) (c_room_of : C8.Cal P w K mg base 1 "room_of" (spRoomOf ad) []) : MetZ P w K mg base 3 ad.Reader "__contains__" (spContains ad) := by
  refine metZ R.cl me F b scContains (fun vs H Q E h => ?_) (fun cdv A outer s H vs Q E hr h => ?_)
  · obtain ⟨S, U, x, al, mv, g, v, d, rfl, _⟩ := h
    rfl
  · obtain ⟨S, U, x, al, mv, g, v, d, rfl, hx, hal, rd, hz, k1, k2⟩ := h
    have sc := scContains
    have pw := passW (takesG (P := P) (w := w) (K := K) (mg := mg) (base := base) (N := ["self", "text"]) (qual := "Reader.__contains__") (scope := C8.fnScope sContains) (f := f) (cd := cdv) (A := A) (outer := outer) (s := s) (H := H) (E := E))
    obtain ⟨dx, vm, vg, ex, rm, rg⟩ := hx.ex
    refine ⟨_, -- Reader.__contains__: 0 self 1 text

      (pss_cons (ps_expr (pe_z (E := WE (fun cls d _ H => E cls d H)) c_check_text trivial hr (by decide) rfl pw (pa_cons (pe_fldK (K := K) rfl (pv 0)) (pa_cons (pv 1) pa_nil))))
      (pss_one (ps_ret (pe_cmpR (op_inQ (K := K) rfl) (C8.pe_c c_room_of hr (by decide) rfl (pa_cons (pv 0) (pa_cons (pv 1) pa_nil))) (pe_fldK (K := K) rfl (pv 0)) (by rfl))))), ?_⟩
    refine ⟨_, rfl, x, ad.Reader, dx, _, _, rfl, ex, R.cl, R.n1, rfl, _, rfl, S, al, v, d, rfl, rd, hz, fun hf H1 s1 => ?_, fun i hi dd H' s hdd => k2 i hi dd H' s hdd⟩
    obtain ⟨t, rfl⟩ := fault_str_of hf
    cases rd
    refine ⟨_, rfl, _, rfl, U, x, al, t, mv, g, rfl, hx.same s1, fault_over hf, hal, ?_⟩
    obtain ⟨ag, xg, rfl, _, hg, rsg⟩ := rg.tupItem
    have ey : xg = g.map V.int := rsg.ints_eq
    subst ey
    refine ⟨_, rfl, x, ad.Reader, dx, _, _, rfl, s1 _ _ ex, R.cl, R.n3, rfl, ag, _, rfl, .inr (.inl (.inl (s1 _ _ hg))), rfl, flat_ints g, ?_⟩
    have k := k1 t rfl hf H1 s1
    rw [← inV_ints] at k
    exact k
theorem scLen : FnScope ["self"] ["self"] (C8.fnScope sLen) := C8.fnScope_by (by decide +kernel)
theorem ok_len {f : Addr} {fd : FuncData} (R : RdC K ad.Reader) (me : Meth K ad.Reader "__len__" f) (F : C8.Fun K "__len__" "Reader.__len__" sLen f fd) (b : Binds K fd ["self"] []) (T : Txt mg) : C8.Met P w K mg base 1 ad.Reader "__len__" (spLen ad) [] := by
  refine C8.met0 R.cl me F b scLen (fun vs H Q E h => ?_) (fun cdv A outer s H vs Q E hr h => ?_)
  · obtain ⟨U, x, al, mv, g, rfl, _⟩ := h
    rfl
  · obtain ⟨U, x, al, mv, g, rfl, hx, k⟩ := h
    have sc := scLen
    obtain ⟨dx, vm, vg, ex, rm, rg⟩ := hx.ex
    refine ⟨_, -- Reader.__len__: 0 self

      (pss_one (ps_ret (pe_callB (call_lenQ (K := K) rfl) (by rfl) T.len PySem.boot_len (pa_cons (pe_fldK (K := K) rfl (pv 0)) pa_nil)))), ?_⟩
    obtain ⟨am, xm, rfl, _, hm, rsm⟩ := rm.tupItem
    have hl : (xm.length : Int) = (mv.length : Int) := by rw [rsm.len, List.length_map]
    refine ⟨_, rfl, x, ad.Reader, dx, _, _, rfl, ex, R.cl, R.n2, rfl, am, xm, rfl, .inr (.inl (.inl hm)), ?_⟩
    rw [hl]
    exact k
theorem scEq : FnScope ["self", "other"] ["self", "other"] (C8.fnScope sEq) := C8.fnScope_by (by decide +kernel)
theorem ok_eq {f : Addr} {fd : FuncData} (R : RdC K ad.Reader) (RI : RdI K ad.Reader) (me : Meth K ad.Reader "__eq__" f) (F : C8.Fun K "__eq__" "Reader.__eq__" sEq f fd) (b : Binds K fd ["self", "other"] []) (T : Txt mg) (O : Own K mg ad) : C8.Met P w K mg base 1 ad.Reader "__eq__" (spEqR K ad) [] := by
  refine C8.met0 R.cl me F b scEq (fun vs H Q E h => ?_) (fun cdv A outer s H vs Q E hr h => ?_)
  · obtain ⟨U, x, al, mv, g, y, rfl, _⟩ := h
    rfl
  · obtain ⟨U, x, al, mv, g, y, rfl, hx, k⟩ := h
    have sc := scEq
    obtain ⟨dx, vm, vg, ex, rm, rg⟩ := hx.ex
    refine ⟨_, -- Reader.__eq__: 0 self 1 other

      (pss_one (ps_ret (pe_and (pe_callB call_isi (by rfl) T.isinstance (by decide +kernel) (pa_cons (pv 1) (pa_cons (pe_glob (v := .ref ad.Reader) rfl O.g_Reader rfl) pa_nil))) (pe_and (pe_cmpR op_eq (pe_fldK (K := K) rfl (pv 0)) (pe_fldK (K := K) rfl (pv 1)) (nomark _)) (pe_and (pe_cmpR (op_eqD hr.units) (pe_fldK (K := K) rfl (pv 0)) (pe_fldK (K := K) rfl (pv 1)) (nomark _)) (pe_one (pe_cmpR (op_eqD hr.units) (pe_fldK (K := K) rfl (pv 0)) (pe_fldK (K := K) rfl (pv 1)) (nomark _)))))))), ?_⟩
    rcases k with ⟨U2, x2, al2, mv2, g2, rfl, hx2, k⟩ | ⟨t, ty, hk, k⟩
    · obtain ⟨dx2, vm2, vg2, ex2, rm2, rg2⟩ := hx2.ex
      refine ⟨_, rfl, _, _, _, _, _, rfl, .own _, hx2.ty R RI, RI.self, _, rfl, iteT ?_⟩
      refine ⟨_, rfl, x, ad.Reader, dx, _, _, rfl, ex, R.cl, R.n1, rfl, _, rfl, x2, ad.Reader, dx2, _, _, rfl, ex2, R.cl, R.n1, rfl, rfl, _, rfl, ?_⟩
      by_cases h1 : al = al2
      · subst h1
        rw [decide_eq_true (rfl : V.str al = V.str al)]
        refine iteT ⟨_, rfl, x, ad.Reader, dx, _, _, rfl, ex, R.cl, R.n2, rfl, _, rfl, x2, ad.Reader, dx2, _, _, rfl, ex2, R.cl, R.n2, rfl, ?_⟩
        refine eq_low rm rm2 (low_mvT _) (low_mvT _) (by decide) (by decide) (mv = mv2) ⟨mvT_inj, fun e => by rw [e]⟩ ⟨_, rfl, ?_⟩
        by_cases h2 : mv = mv2
        · subst h2
          rw [decide_eq_true (rfl : mv = mv)]
          refine iteT ⟨_, rfl, x, ad.Reader, dx, _, _, rfl, ex, R.cl, R.n3, rfl, _, rfl, x2, ad.Reader, dx2, _, _, rfl, ex2, R.cl, R.n3, rfl, ?_⟩
          refine eq_low rg rg2 (low_rowT _) (low_rowT _) (by decide) (by decide) (al = al ∧ mv = mv ∧ g = g2) ⟨fun e => ⟨rfl, rfl, rowT_inj e⟩, fun e => by rw [e.2.2]⟩ k
        · rw [decide_eq_false h2]
          rw [decide_eq_false (fun e : al = al ∧ mv = mv2 ∧ g = g2 => h2 e.2.1)] at k
          exact iteF k
      · rw [decide_eq_false (fun e : V.str al = V.str al2 => h1 (V.str.inj e))]
        rw [decide_eq_false (fun e : al = al2 ∧ mv = mv2 ∧ g = g2 => h1 e.1)] at k
        exact iteF k
    · refine ⟨_, rfl, _, _, _, _, _, rfl, .own _, ty, hk, _, rfl, ?_⟩
      exact k
end

/-! ### what is passed to Reader; Reader.full, Reader.bare -/
def MvOf (d : D) (mv : List (List Int)) : Prop := ∃ ms, d.seq? = some ms ∧ ms.map D.seq? = mv.map fun r => some (r.map D.int)
def GdOf (d : D) (g : List Int) : Prop := d.seq? = some (g.map D.int)
theorem MvOf.len {d : D} {mv : List (List Int)} {ms : List D} (h : d.seq? = some ms) (m : MvOf d mv) : ms.length = mv.length := by
  obtain ⟨ms', h1, h2⟩ := m
  rw [h] at h1
  cases h1
  have := congrArg List.length h2
  simpa using this
theorem MvOf.at {d : D} {mv : List (List Int)} {ms : List D} (h : d.seq? = some ms) (m : MvOf d mv) {i : Nat} {e : D} (he : ms[i]? = some e) : ∃ r, mv[i]? = some r ∧ e.seq? = some (r.map D.int) := by
  obtain ⟨ms', h1, h2⟩ := m
  rw [h] at h1
  cases h1
  have z := congrArg (fun l => l[i]?) h2
  simp only [List.getElem?_map, he] at z
  cases hr : mv[i]? with
  | none => rw [hr] at z; cases z
  | some r =>
    rw [hr] at z
    exact ⟨r, rfl, Option.some.inj z⟩
theorem MvOf.norm {d : D} {mv : List (List Int)} (m : MvOf d mv) : d.norm = mvT mv := by
  obtain ⟨ms, h1, h2⟩ := id m
  unfold D.norm mvT
  rw [h1]
  refine congrArg D.tup ?_
  refine List.ext_getElem? fun i => ?_
  show (ms.map D.row)[i]? = _
  rw [List.getElem?_map, List.getElem?_map]
  have hl := m.len h1
  cases he : ms[i]? with
  | none =>
    have : mv[i]? = none := by rw [List.getElem?_eq_none_iff] at he ⊢; omega
    rw [this]
    rfl
  | some e =>
    obtain ⟨r, hr, hs⟩ := m.at h1 he
    rw [hr]
    show some (D.row e) = some (rowT r)
    unfold D.row rowT
    rw [hs]
    rfl
theorem GdOf.row {d : D} {g : List Int} (m : GdOf d g) : d.row = rowT g := by
  unfold D.row rowT
  rw [m]
  rfl
theorem inr_int (lo hi z : Int) : (D.int z).inr lo hi = (decide (lo ≤ z) && decide (z ≤ hi)) := rfl
theorem MvOf.ok {d : D} {k : Nat} {mv : List (List Int)} {g : List Int} (m : MvOf d mv) (M : Mach k mv g) : d.mvFault k = none := by
  obtain ⟨ms, h1, h2⟩ := id m
  have hl := m.len h1
  have hp := M.pos
  have hm := M.most
  refine mv_ok h1 ⟨by omega, by omega⟩ fun j hj => ?_
  refine ⟨_, List.getElem?_eq_getElem hj, ?_⟩
  obtain ⟨r, hr, hs⟩ := m.at h1 (List.getElem?_eq_getElem hj)
  have hrow := M.row r (List.mem_of_getElem? hr)
  rw [row_some hs, List.length_map, decide_eq_true hrow.1, Bool.true_and, List.all_eq_true]
  intro e he
  obtain ⟨z, hz, rfl⟩ := List.mem_map.mp he
  have := hrow.2 z hz
  rw [inr_int, decide_eq_true this.1, Bool.true_and, decide_eq_true_iff]
  omega
theorem GdOf.ok {d : D} {k : Nat} {mv : List (List Int)} {g : List Int} (m : GdOf d g) (M : Mach k mv g) : d.gdFault mv.length = none := by
  refine gd_ok m fun j hj => ?_
  rw [List.length_map] at hj
  have e1 : (g.map D.int).getD j .non = .int g[j] := by rw [List.getD_eq_getElem?_getD, List.getElem?_map, List.getElem?_eq_getElem hj]; rfl
  unfold gdOk
  rw [e1]
  have h1 := M.inn g[j] (List.getElem_mem hj)
  rw [inr_int, decide_eq_true h1.1, decide_eq_true (show g[j] ≤ (mv.length : Int) - 1 by omega), Bool.true_and, Bool.true_and, Bool.or_eq_true]
  by_cases h0 : j = 0
  · exact .inl (decide_eq_true h0)
  · refine .inr ?_
    have e2 : (g.map D.int).getD (j - 1) .non = .int (g[j - 1]'(by omega)) := by rw [List.getD_eq_getElem?_getD, List.getElem?_map, List.getElem?_eq_getElem (show j - 1 < g.length by omega)]; rfl
    rw [e2]
    show decide _ = true
    rw [decide_eq_true_iff]
    exact List.pairwise_iff_getElem.mp M.asc (j - 1) j (by omega) hj (by omega)
theorem MvOf.fit {d : D} {k : Nat} {mv : List (List Int)} {g : List Int} (m : MvOf d mv) (M : Mach k mv g) (hk : k ≤ 1000) : d.fit := by
  intro ds hd
  have hl := m.len hd
  have hm := M.most
  refine ⟨by omega, fun r hr rs hrs => ?_⟩
  obtain ⟨i, hi, rfl⟩ := List.mem_iff_getElem.mp hr
  obtain ⟨z, hz, hs⟩ := m.at hd (List.getElem?_eq_getElem hi)
  rw [hs] at hrs
  cases hrs
  rw [List.length_map, (M.row z (List.mem_of_getElem? hz)).1]
  exact hk
theorem GdOf.fit {d : D} {k : Nat} {mv : List (List Int)} {g : List Int} (m : GdOf d g) (M : Mach k mv g) : d.fit := by
  intro ds hd
  rw [show d.seq? = _ from m] at hd
  cases hd
  have := M.glen
  refine ⟨by rw [List.length_map]; omega, fun r hr rs hrs => ?_⟩
  obtain ⟨z, _, rfl⟩ := List.mem_map.mp hr
  cases hrs
section
variable {K : PySem.W.Frag} {ad : Ad} {H : Hp} {S U : List Addr} {va vm vg : V} {da dm dg : D} {al : Str} {mv : List (List Int)} {g : List Int} {Q : VK} {E : XK}
/-- Reader(..) is made -/
theorem init_good (ra : Rp S H va da) (rm : Rp S H vm dm) (rg : Rp S H vg dg) (ea : da = .str al) (hal : alOk al = true) (hz : al.length ≤ 1000) (m : MvOf dm mv) (gd : GdOf dg g) (M : Mach al.length mv g) (hU : ∀ a ∈ U, ∃ xs, H a = some (.lst xs))
    {x dx : Addr} (hx : H x = none) (hdx : H dx = none) (hne : dx ≠ x) (k : ∀ H', Same H H' → RdAt ad U H' x al mv g → Q .non H') :
      spInit K ad (.ref x :: [va, vm, vg]) (upd (upd H dx (.own x)) x (.ins ad.Reader dx [])) Q E := by
  subst ea
  cases ra
  have s1 : Same H (upd H dx (.own x)) := Same.new hdx
  have hx1 : upd H dx (.own x) x = none := by rw [upd_ne (Ne.symm hne)]; exact hx
  have s2 : Same H (upd (upd H dx (.own x)) x (.ins ad.Reader dx [])) := s1.trans (Same.new hx1)
  have nU : x ∉ U := fun hm => by
    obtain ⟨xs, e⟩ := hU x hm
    rw [hx] at e
    cases e
  have sk : ∀ {H' : Hp}, Keep [x] (upd (upd H dx (.own x)) x (.ins ad.Reader dx [])) H' → Same H H' := fun kp b o e => kp b o (fun hm => by rw [List.mem_singleton.mp hm, hx] at e; cases e) (s2 b o e)
  refine ⟨S, U, x, dx, _, vm, vg, .str al, dm, dg, rfl, upd_same, nU, .str al, rm.same s2, rg.same s2, fun z e => by cases e; exact hz, m.fit M hz, gd.fit M, fun a ha => by obtain ⟨xs, e⟩ := hU a ha; exact ⟨xs, s2 _ _ e⟩, fun h => ?_, fun al2 e h2 i hi => ?_, fun al2 ms e h2 h3 h4 => ?_⟩
  · rw [show (D.str al).alOk = true from hal] at h
    cases h
  · cases e
    rw [m.ok M] at hi
    cases hi
  · cases e
    rw [m.len h4, gd.ok M]
    refine ⟨fun i hi => (by cases hi), fun _ vm' vg' H' kp ex r1 r2 => k H' (sk kp) ⟨⟨dx, vm', vg', ex, ?_, ?_⟩, M⟩⟩
    · rw [← m.norm]; exact r1
    · rw [← gd.row]; exact r2
/-- Reader(..) is refused -/
theorem init_bad (e : Er) (v : V) (ra : Rp S H va da) (rm : Rp S H vm dm) (rg : Rp S H vg dg) (hz : ∀ z, da = .str z → z.length ≤ 1000) (fm : dm.fit) (fg : dg.fit)
    (hb : (da.alOk = false ∧ e = .alphabet ∧ v = va) ∨ (∃ i, da = .str al ∧ alOk al = true ∧ dm.mvFault al.length = some i ∧ e = .moves ∧ v = .int i) ∨
      ∃ ms i, da = .str al ∧ alOk al = true ∧ dm.mvFault al.length = none ∧ dm.seq? = some ms ∧ dg.gdFault ms.length = some i ∧ e = .good ∧ v = .int i)
    {x dx : Addr} (hx : H x = none) (hdx : H dx = none) (hne : dx ≠ x) (k : Ex ad e v H E) :
      spInit K ad (.ref x :: [va, vm, vg]) (upd (upd H dx (.own x)) x (.ins ad.Reader dx [])) Q E := by
  have s1 : Same H (upd H dx (.own x)) := Same.new hdx
  have hx1 : upd H dx (.own x) x = none := by rw [upd_ne (Ne.symm hne)]; exact hx
  have s2 : Same H (upd (upd H dx (.own x)) x (.ins ad.Reader dx [])) := s1.trans (Same.new hx1)
  have ke : ∀ {e' : Er} {v' : V}, e' = e → v' = v → Exk ad e' v' x (upd (upd H dx (.own x)) x (.ins ad.Reader dx [])) E := by
    rintro e' v' rfl rfl dd H' kp hdd
    exact k dd H' (fun b o q => kp b o (fun hm => by rw [List.mem_singleton.mp hm, hx] at q; cases q) (s2 b o q)) hdd
  refine ⟨S, [], x, dx, va, vm, vg, da, dm, dg, rfl, upd_same, by simp, ra.same s2, rm.same s2, rg.same s2, hz, fm, fg, by simp, fun h => ?_, fun al2 e2 h2 i hi => ?_, fun al2 ms e2 h2 h3 h4 => ?_⟩
  · rcases hb with ⟨_, h1, h2⟩ | ⟨i, h1, h2, _⟩ | ⟨ms, i, h1, h2, _⟩
    · exact ke h1.symm h2.symm
    · rw [h1, show (D.str al).alOk = true from h2] at h; cases h
    · rw [h1, show (D.str al).alOk = true from h2] at h; cases h
  · rcases hb with ⟨h1, _⟩ | ⟨j, h1, _, h3, h5, h6⟩ | ⟨ms, j, h1, _, h3, _⟩
    · rw [e2, show (D.str al2).alOk = true from h2] at h1; cases h1
    · rw [h1] at e2; cases e2
      rw [h3] at hi; cases hi
      exact ke h5.symm h6.symm
    · rw [h1] at e2; cases e2
      rw [h3] at hi; cases hi
  · rcases hb with ⟨h1, _⟩ | ⟨j, h1, _, h5, _⟩ | ⟨ms', j, h1, _, _, h5, h6, h7, h8⟩
    · rw [e2, show (D.str al2).alOk = true from h2] at h1; cases h1
    · rw [h1] at e2; cases e2
      rw [h3] at h5; cases h5
    · rw [h4] at h5; cases h5
      refine ⟨fun i hi => ?_, fun hn => ?_⟩
      · rw [h6] at hi; cases hi
        exact ke h7.symm h8.symm
      · rw [h6] at hn; cases hn
end

/-! ### Reader.full, Reader.bare -/
abbrev sFull : Stmt := sub 33 1
abbrev sBare : Stmt := sub 33 2
def spEnd (ad : Ad) (g : List Int) : Sp := fun vs H Q E => ∃ (S U : List Addr) (v : V) (d : D), vs = [v] ∧ Rp S H v d ∧ (∀ z, d = .str z → z.length ≤ 1000) ∧ (∀ a ∈ U, ∃ xs, H a = some (.lst xs)) ∧
  (∀ al, d = .str al → alOk al = true → ∀ x H', H x = none → Same H H' → RdAt ad U H' x al [List.replicate al.length 0] g → Q (.ref x) H') ∧ (d.alOk = false → Ex ad .alphabet v H E)
theorem mach_end {k : Nat} {g : List Int} (hg : g = [0] ∨ g = []) : Mach k [List.replicate k 0] g := by
  refine ⟨Nat.le_refl 1, (by decide : 1 ≤ 60), fun r hr => ?_, ?_, fun x hx => ?_⟩
  · rw [List.mem_singleton.mp hr]
    refine ⟨List.length_replicate, fun x hx => ?_⟩
    rw [(List.mem_replicate.mp hx).2]
    exact ⟨Int.le_refl 0, (by decide : (0 : Int) < 1)⟩
  · rcases hg with rfl | rfl
    · exact List.pairwise_singleton ..
    · exact List.Pairwise.nil
  · rcases hg with rfl | rfl
    · rw [List.mem_singleton.mp hx]
      exact ⟨Int.le_refl 0, (by decide : (0 : Int) < 1)⟩
    · cases hx
theorem range_const {α : Type} (n : Nat) (z : α) : (List.range n).map (fun _ => z) = List.replicate n z := by
  refine List.ext_getElem (by simp) fun i h1 h2 => by simp
section
open PyProof.Rows
variable {P : Program} {w : World} {K : PySem.W.Frag} {mg : Str → Option Value} {base : Heap} {ad : Ad}
theorem scFull : FnScope ["alphabet", "letter"] ["alphabet"] (C8.fnScope sFull) := C8.fnScope_by (by decide +kernel)
theorem ok_full {f : Addr} {fd : FuncData} (F : C8.Fun K "full" "Reader.full" sFull f fd) (b : Binds K fd ["alphabet"] []) (T : Txt mg) (O : Own K mg ad) (c_check_alphabet : CalZ ZT P w K mg base 2 "check_alphabet" (spChkAl ad)) (m_Reader : MakZ P w K mg base 3 "Reader" ad.Reader (spInit K ad)) :
    FnZ ZT P w K mg base 5 f fd ["alphabet"] (spEnd ad [0]) := by
  refine fn_ofZ (fun _ _ _ => trivial) F scFull (fun vs H Q E h => ?_) (fun cdv A outer s H vs Q E _ hr h => ?_)
  · obtain ⟨S, U, v, d, rfl, _⟩ := h
    rfl
  · obtain ⟨S, U, v, d, rfl, rd, hz, hU, k1, k2⟩ := h
    have sc := scFull
    have pw := passW (takesG (P := P) (w := w) (K := K) (mg := mg) (base := base) (N := ["alphabet", "letter"]) (qual := "Reader.full") (scope := C8.fnScope sFull) (f := f) (cd := cdv) (A := A) (outer := outer) (s := s) (H := H) (E := E))
    refine ⟨_, -- Reader.full: 0 alphabet 1 letter

      (pss_cons (ps_expr (pe_z (E := WE (fun cls d _ H => E cls d H)) c_check_alphabet trivial hr (by decide) rfl pw (pa_cons (pv 0) pa_nil)))
      (pss_one (ps_ret (pe_makeZ (E := WE (fun cls d _ H => E cls d H)) m_Reader hr (by decide) rfl pw (pa_cons (pv 0) (pa_cons (pe_tup (pa_cons (pe_callTy (T := "tuple") (call_tupQ (K := K) rfl) (by rfl) T.tuple (by decide +kernel) (pa_cons (pe_lc (own := [("letter", 1)]) (g := gName 1) rfl sc.nd (pi_str (pv 0)) (blkOk_by (own := [("letter", 1)]) (by kernel_rfl)) (fun _ _ _ _ _ => (pg_name (i := 1) sc.nd rfl (Or.inl rfl))) (fun _ _ _ _ _ => pts_nil) (fun _ _ _ _ _ => pe_int)) pa_nil)) pa_nil)) (pa_cons (pe_tup (pa_cons pe_int pa_nil)) pa_nil))))))), ?_⟩
    refine ⟨_, rfl, S, v, d, rfl, rd, hz, fun hal H1 s1 => ?_, fun hal dd H' s hdd => k2 hal dd H' s hdd⟩
    obtain ⟨al, rfl⟩ : ∃ al, d = .str al := by cases d <;> first | exact ⟨_, rfl⟩ | (cases (show false = true from hal))
    cases rd
    have hza := hz al rfl
    refine ⟨_, rfl, _, rfl, al, rfl, fun L hL => lc_F (j := 1) (Xp := fun _ _ => True) (fun _ => .int 0) walk_str (fun i H v H' _ y => ⟨y.1, trivial⟩) hL (by show al.cps.size ≤ 100000; have : al.length = al.cps.size := rfl; omega) (fun _ _ => trivial) (fun _ => rfl) (fun i v H2 hi hv s2 Kt ht => ht _ _ (Same.refl _) (.int 0)) (fun ys H2 s2 e2 r2 => ?_)⟩
    have en : (List.range al.cps.size).map (fun _ => D.int 0) = (List.replicate al.length (0 : Int)).map D.int := by rw [range_const, List.map_replicate]; rfl
    rw [en] at r2
    refine ⟨_, _, rfl, .inl ⟨SqL.of e2, fun p1 hp1 => ⟨by show 1 ≤ sizeLine; decide, fun p2 hp2 => ⟨by show 1 ≤ sizeLine; decide, fun p3 hp3 => ?_⟩⟩⟩⟩
    have t1 : Same H2 (upd H2 p1 (.tup ys)) := Same.new hp1
    have t2 := Same.new (o := .tup [.ref p1]) hp2
    have t3 := Same.new (o := .tup [.int 0]) hp3
    have q1 : Rp [] (upd H2 p1 (.tup ys)) (.ref p1) (.tup ((List.replicate al.length (0 : Int)).map D.int)) := .tup (by simp) upd_same (r2.same t1)
    have q2 : Rp [] (upd (upd H2 p1 (.tup ys)) p2 (.tup [.ref p1])) (.ref p2) (.tup [.tup ((List.replicate al.length (0 : Int)).map D.int)]) := .tup (by simp) upd_same (.cons (q1.same t2) .nil)
    have q3 : Rp [] (upd (upd (upd H2 p1 (.tup ys)) p2 (.tup [.ref p1])) p3 (.tup [.int 0])) (.ref p3) (.tup [.int 0]) := .tup (by simp) upd_same (.cons (.int 0) .nil)
    have sa := (((s1.trans s2).trans t1).trans t2).trans t3
    intro x dx hx hdx hne
    exact init_good (.str al) (q2.same t3) q3 rfl hal hza (mv := [List.replicate al.length 0]) (g := [0]) ⟨[.tup ((List.replicate al.length (0 : Int)).map D.int)], rfl, rfl⟩ rfl (mach_end (.inl rfl)) (fun a ha => by obtain ⟨xs, e⟩ := hU a ha; exact ⟨xs, sa _ _ e⟩)
      hx hdx hne (fun H' s r => ⟨rfl, k1 al rfl hal x H' (by
        cases e : H x with
        | none => rfl
        | some o => rw [sa _ _ e] at hx; cases hx) (sa.trans s) r⟩)
theorem scBare : FnScope ["alphabet", "letter"] ["alphabet"] (C8.fnScope sBare) := C8.fnScope_by (by decide +kernel)
theorem ok_bare {f : Addr} {fd : FuncData} (F : C8.Fun K "bare" "Reader.bare" sBare f fd) (b : Binds K fd ["alphabet"] []) (T : Txt mg) (O : Own K mg ad) (c_check_alphabet : CalZ ZT P w K mg base 2 "check_alphabet" (spChkAl ad)) (m_Reader : MakZ P w K mg base 3 "Reader" ad.Reader (spInit K ad)) :
    FnZ ZT P w K mg base 5 f fd ["alphabet"] (spEnd ad []) := by
  refine fn_ofZ (fun _ _ _ => trivial) F scBare (fun vs H Q E h => ?_) (fun cdv A outer s H vs Q E _ hr h => ?_)
  · obtain ⟨S, U, v, d, rfl, _⟩ := h
    rfl
  · obtain ⟨S, U, v, d, rfl, rd, hz, hU, k1, k2⟩ := h
    have sc := scBare
    have pw := passW (takesG (P := P) (w := w) (K := K) (mg := mg) (base := base) (N := ["alphabet", "letter"]) (qual := "Reader.bare") (scope := C8.fnScope sBare) (f := f) (cd := cdv) (A := A) (outer := outer) (s := s) (H := H) (E := E))
    refine ⟨_, -- Reader.bare: 0 alphabet 1 letter

      (pss_cons (ps_expr (pe_z (E := WE (fun cls d _ H => E cls d H)) c_check_alphabet trivial hr (by decide) rfl pw (pa_cons (pv 0) pa_nil)))
      (pss_one (ps_ret (pe_makeZ (E := WE (fun cls d _ H => E cls d H)) m_Reader hr (by decide) rfl pw (pa_cons (pv 0) (pa_cons (pe_tup (pa_cons (pe_callTy (T := "tuple") (call_tupQ (K := K) rfl) (by rfl) T.tuple (by decide +kernel) (pa_cons (pe_lc (own := [("letter", 1)]) (g := gName 1) rfl sc.nd (pi_str (pv 0)) (blkOk_by (own := [("letter", 1)]) (by kernel_rfl)) (fun _ _ _ _ _ => (pg_name (i := 1) sc.nd rfl (Or.inl rfl))) (fun _ _ _ _ _ => pts_nil) (fun _ _ _ _ _ => pe_int)) pa_nil)) pa_nil)) (pa_cons (pe_tup pa_nil) pa_nil))))))), ?_⟩
    refine ⟨_, rfl, S, v, d, rfl, rd, hz, fun hal H1 s1 => ?_, fun hal dd H' s hdd => k2 hal dd H' s hdd⟩
    obtain ⟨al, rfl⟩ : ∃ al, d = .str al := by cases d <;> first | exact ⟨_, rfl⟩ | (cases (show false = true from hal))
    cases rd
    have hza := hz al rfl
    refine ⟨_, rfl, _, rfl, al, rfl, fun L hL => lc_F (j := 1) (Xp := fun _ _ => True) (fun _ => .int 0) walk_str (fun i H v H' _ y => ⟨y.1, trivial⟩) hL (by show al.cps.size ≤ 100000; have : al.length = al.cps.size := rfl; omega) (fun _ _ => trivial) (fun _ => rfl) (fun i v H2 hi hv s2 Kt ht => ht _ _ (Same.refl _) (.int 0)) (fun ys H2 s2 e2 r2 => ?_)⟩
    have en : (List.range al.cps.size).map (fun _ => D.int 0) = (List.replicate al.length (0 : Int)).map D.int := by rw [range_const, List.map_replicate]; rfl
    rw [en] at r2
    refine ⟨_, _, rfl, .inl ⟨SqL.of e2, fun p1 hp1 => ⟨by show 1 ≤ sizeLine; decide, fun p2 hp2 => ⟨by show 0 ≤ sizeLine; decide, fun p3 hp3 => ?_⟩⟩⟩⟩
    have t1 : Same H2 (upd H2 p1 (.tup ys)) := Same.new hp1
    have t2 := Same.new (o := .tup [.ref p1]) hp2
    have t3 := Same.new (o := .tup []) hp3
    have q1 : Rp [] (upd H2 p1 (.tup ys)) (.ref p1) (.tup ((List.replicate al.length (0 : Int)).map D.int)) := .tup (by simp) upd_same (r2.same t1)
    have q2 : Rp [] (upd (upd H2 p1 (.tup ys)) p2 (.tup [.ref p1])) (.ref p2) (.tup [.tup ((List.replicate al.length (0 : Int)).map D.int)]) := .tup (by simp) upd_same (.cons (q1.same t2) .nil)
    have q3 : Rp [] (upd (upd (upd H2 p1 (.tup ys)) p2 (.tup [.ref p1])) p3 (.tup [])) (.ref p3) (.tup []) := .tup (by simp) upd_same .nil
    have sa := (((s1.trans s2).trans t1).trans t2).trans t3
    intro x dx hx hdx hne
    exact init_good (.str al) (q2.same t3) q3 rfl hal hza (mv := [List.replicate al.length 0]) (g := []) ⟨[.tup ((List.replicate al.length (0 : Int)).map D.int)], rfl, rfl⟩ rfl (mach_end (.inr rfl)) (fun a ha => by obtain ⟨xs, e⟩ := hU a ha; exact ⟨xs, sa _ _ e⟩)
      hx hdx hne (fun H' s r => ⟨rfl, k1 al rfl hal x H' (by
        cases e : H x with
        | none => rfl
        | some o => rw [sa _ _ e] at hx; cases hx) (sa.trans s) r⟩)
end

/-! ### _law_is_number, _law_is_reader -/
abbrev sIsNum : Stmt := top 47
abbrev sIsRd : Stmt := top 46
def spIsRd (ad : Ad) : Sp := fun vs H Q _ => ∃ (U : List Addr) (x : Addr) (al : Str) (mv : List (List Int)) (g : List Int), vs = [.ref x, .str al] ∧ RdAt ad U H x al mv g ∧ al.length ≤ 1000 ∧ ∀ H', Same H H' → Q (.bl true) H'
theorem all_true {n : Nat} {f : Nat → Bool} (h : ∀ i < n, f i = true) : ((List.range n).map f).all id = true := by
  rw [List.all_eq_true]
  intro b hb
  obtain ⟨i, hi, rfl⟩ := List.mem_map.mp hb
  exact h i (List.mem_range.mp hi)
section
open PyProof.Rows
variable {P : Program} {w : World} {K : PySem.W.Frag} {mg : Str → Option Value} {base : Heap} {ad : Ad}
theorem scIsNum : FnScope ["thing", "low", "high"] ["thing", "low", "high"] (C8.fnScope sIsNum) := C8.fnScope_by (by decide +kernel)
theorem ok_isnum {f : Addr} {fd : FuncData} (F : C8.Def K mg "_law_is_number" sIsNum f fd) (b : Binds K fd ["thing", "low", "high"] []) (T : Txt mg) : C8.Cal P w K mg base 1 "_law_is_number" spInteger [] := by
  refine C8.cal0 F b .nil scIsNum (fun vs H Q E h => ?_) (fun cdv A outer s H vs Q E hr h => ?_)
  · obtain ⟨S, v, d, lo, hi, rfl, _⟩ := h
    rfl
  · obtain ⟨S, v, d, lo, hi, rfl, r, k⟩ := h
    have sc := scIsNum
    refine ⟨_, -- _law_is_number: 0 thing 1 low 2 high

      (pss_one (ps_ret (pe_and (pe_callB call_isi (by rfl) T.isinstance (by decide +kernel) (pa_cons (pv 0) (pa_cons (pe_bltn (v := .ty "int") (u := .type "int") rfl T.int (by decide +kernel) rfl) pa_nil))) (pe_and (pe_not (pe_callB call_isi (by rfl) T.isinstance (by decide +kernel) (pa_cons (pv 0) (pa_cons (pe_bltn (v := .ty "bool") (u := .type "bool") rfl T.bool (by decide +kernel) rfl) pa_nil)))) (pe_one (pe_chain op_le op_le (pv 1) (pv 0) (pv 2))))))), ?_⟩
    cases hj : d.isa "int" with
    | false =>
      refine ⟨_, rfl, _, _, _, _, _, rfl, .ty _, r.ty, kit_lit (by decide) hj, _, rfl, iteF ?_⟩
      have e : d.inr lo hi = false := by cases d <;> first | rfl | (simp [D.isa, D.tyn] at hj)
      rw [e] at k
      exact k
    | true =>
      refine ⟨_, rfl, _, _, _, _, _, rfl, .ty _, r.ty, kit_lit (by decide) hj, _, rfl, iteT ?_⟩
      cases hb : d.isa "bool" with
      | true =>
        refine ⟨_, rfl, _, _, _, _, _, rfl, .ty _, r.ty, kit_lit (by decide) hb, _, rfl, _, rfl, iteF ?_⟩
        have e : d.inr lo hi = false := by cases d <;> first | rfl | (simp [D.isa, D.tyn] at hb)
        rw [e] at k
        exact k
      | false =>
        obtain ⟨i, rfl⟩ : ∃ i, d = .int i := by cases d <;> first | exact ⟨_, rfl⟩ | (simp [D.isa, D.tyn] at hj hb)
        cases r
        refine ⟨_, rfl, _, _, _, _, _, rfl, .ty _, .base (.int i), kit_lit (d := .int i) (by decide) hb, _, rfl, _, rfl, iteT ?_⟩
        refine ⟨_, rfl, _, rfl, _, _, rfl, rfl, _, rfl, ?_⟩
        refine ite2 (fun h1 => ?_) (fun h1 => ?_)
        · refine ⟨_, rfl, _, _, rfl, rfl, ?_⟩
          rw [inr_int, show decide (lo ≤ i) = true from h1, Bool.true_and] at k
          exact k
        · rw [inr_int, Bool.eq_false_iff.mpr h1] at k
          exact k
theorem scIsRd : FnScope ["reader", "alphabet", "size", "row", "room", "k"] ["reader", "alphabet"] (C8.fnScope sIsRd) := C8.fnScope_by (by decide +kernel)
theorem ok_isrd {f : Addr} {fd : FuncData} (R : RdC K ad.Reader) (RI : RdI K ad.Reader) (F : C8.Def K mg "_law_is_reader" sIsRd f fd) (b : Binds K fd ["reader", "alphabet"] []) (T : Txt mg) (O : Own K mg ad) (c_law_is_number : C8.Cal P w K mg base 1 "_law_is_number" spInteger []) : C8.Cal P w K mg base 2 "_law_is_reader" (spIsRd ad) [] := by
  refine C8.cal0 F b .nil scIsRd (fun vs H Q E h => ?_) (fun cdv A outer s H vs Q E hr h => ?_)
  · obtain ⟨U, x, al, mv, g, rfl, _⟩ := h
    rfl
  · obtain ⟨U, x, al, mv, g, rfl, hx, hz, k⟩ := h
    have sc := scIsRd
    obtain ⟨⟨dx, vm, vg, ex, rm, rg⟩, M⟩ := id hx
    have hp := M.pos
    have hm60 := M.most
    have hg60 := M.glen
    obtain ⟨am, xm, rfl, _, hm, rsm⟩ := rm.tupItem
    obtain ⟨ag, xg, rfl, _, hg, rsg⟩ := rg.tupItem
    have ey : xg = g.map V.int := rsg.ints_eq
    subst ey
    have hl : xm.length = mv.length := by rw [rsm.len, List.length_map]
    refine ⟨_, -- _law_is_reader: 0 reader* 1 alphabet 2 size* 3 row 4 room 5 k

      (pss_cons (ps_if (PW.pt (pw_or (pt_not (pt_val (pe_callB call_isi (by rfl) T.isinstance (by decide +kernel) (pa_cons (pv 0) (pa_cons (pe_glob (v := .ref ad.Reader) rfl O.g_Reader rfl) pa_nil))))) (pw_or (pt_cmpR op_ne (pe_fldK (K := K) rfl (pv 0)) (pv 1) (nomark _)) (pw_or1 (pt_not (pt_val (pe_callB call_isi (by rfl) T.isinstance (by decide +kernel) (pa_cons (pe_fldK (K := K) rfl (pv 0)) (pa_cons (pe_bltn (v := .ty "tuple") (u := .type "tuple") rfl T.tuple (by decide +kernel) rfl) pa_nil))))))))) 
        (pss_one (ps_ret pe_bl)) pss_nil)
      (pss_cons (ps_set (i := 2) sc.nd rfl (Or.inr rfl) (pe_callB (call_lenQ (K := K) rfl) (by rfl) T.len PySem.boot_len (pa_cons (pe_fldK (K := K) rfl (pv 0)) pa_nil)))
      (pss_cons (ps_if (PW.pt (pw_or (pt_cmpR op_eq (pv 2) pe_int (nomark _)) (pw_or1 (pt_not (pt_val (pe_callB call_isi (by rfl) T.isinstance (by decide +kernel) (pa_cons (pe_fldK (K := K) rfl (pv 0)) (pa_cons (pe_bltn (v := .ty "tuple") (u := .type "tuple") rfl T.tuple (by decide +kernel) rfl) pa_nil)))))))) 
        (pss_one (ps_ret pe_bl)) pss_nil)
      (pss_cons (ps_for PassesOwn.never rfl (pi_seqW (pe_fldK (K := K) rfl (pv 0))) (pg_name (i := 3) sc.nd rfl (Or.inl rfl)) 
        (pss_cons (ps_if (PW.pt (pw_or (pt_not (pt_val (pe_callB call_isi (by rfl) T.isinstance (by decide +kernel) (pa_cons (pv 3) (pa_cons (pe_bltn (v := .ty "tuple") (u := .type "tuple") rfl T.tuple (by decide +kernel) rfl) pa_nil))))) (pw_or1 (pt_cmpR op_ne (pe_callB (call_lenQ (K := K) rfl) (by rfl) T.len PySem.boot_len (pa_cons (pv 3) pa_nil)) (pe_callB call_len_str (by rfl) T.len PySem.boot_len (pa_cons (pv 1) pa_nil)) (nomark _))))) 
          (pss_one (ps_ret pe_bl)) pss_nil)
        (pss_one (ps_if (pt_not (pt_val (pe_callB (id := "all") (cr_all rfl) (by rfl) T.all (by decide +kernel) (pa_cons (pe_lc (own := [("room", 4)]) (g := gName 4) rfl sc.nd (pi_seqW (pv 3)) (blkOk_by (own := [("room", 4)]) (by kernel_rfl)) (fun _ _ _ _ _ => (pg_name (i := 4) sc.nd rfl (Or.inl rfl))) (fun _ _ _ _ _ => pts_nil) (fun _ _ _ _ _ => (C8.pe_c c_law_is_number hr (by decide) rfl (pa_cons (pv 4) (pa_cons pe_int (pa_cons (pe_op op_sub (pv 2) pe_int) pa_nil)))))) pa_nil)))) 
          (pss_one (ps_ret pe_bl)) pss_nil))))
      (pss_cons (ps_if (pt_not (pt_val (pe_callB (id := "all") (cr_all rfl) (by rfl) T.all (by decide +kernel) (pa_cons (pe_lc (own := [("room", 4)]) (g := gName 4) rfl sc.nd (pi_seqW (pe_fldK (K := K) rfl (pv 0))) (blkOk_by (own := [("room", 4)]) (by kernel_rfl)) (fun _ _ _ _ _ => (pg_name (i := 4) sc.nd rfl (Or.inl rfl))) (fun _ _ _ _ _ => pts_nil) (fun _ _ _ _ _ => (C8.pe_c c_law_is_number hr (by decide) rfl (pa_cons (pv 4) (pa_cons pe_int (pa_cons (pe_op op_sub (pv 2) pe_int) pa_nil)))))) pa_nil)))) 
        (pss_one (ps_ret pe_bl)) pss_nil)
      (pss_one (ps_ret (pe_callB (id := "all") (cr_all rfl) (by rfl) T.all (by decide +kernel) (pa_cons (pe_lc (own := [("k", 5)]) (g := gName 5) rfl sc.nd (pi_range1 (by rfl) T.range (pa_cons (pe_op op_sub (pe_callB (call_lenQ (K := K) rfl) (by rfl) T.len PySem.boot_len (pa_cons (pe_fldK (K := K) rfl (pv 0)) pa_nil)) pe_int) pa_nil)) (blkOk_by (own := [("k", 5)]) (by kernel_rfl)) (fun _ _ _ _ _ => (pg_name (i := 5) sc.nd rfl (Or.inl rfl))) (fun _ _ _ _ _ => pts_nil) (fun _ _ _ _ _ => (pe_cmpR op_lt (pe_ix (ixQ (K := K) rfl) (pe_fldK (K := K) rfl (pv 0)) (pv 5) (fun _ _ => rfl)) (pe_ix (ixQ (K := K) rfl) (pe_fldK (K := K) rfl (pv 0)) (pe_op op_add (pv 5) pe_int) (fun _ _ => rfl)) (nomark _)))) pa_nil))))))))), ?_⟩
    have S0 := Same.refl H
    refine ⟨_, rfl, _, _, _, _, _, rfl, .own _, hx.ty R RI, RI.self, _, rfl, iteF ?_⟩
    refine ⟨_, rfl, x, ad.Reader, dx, _, _, rfl, ex, R.cl, R.n1, rfl, _, rfl, rfl, _, rfl, ?_⟩
    rw [decide_eq_true (rfl : V.str al = V.str al)]
    refine iteF ⟨_, rfl, x, ad.Reader, dx, _, _, rfl, ex, R.cl, R.n2, rfl, _, _, _, _, _, rfl, .ty _, .base (.tup hm), kit_lit (d := .tup []) (T := "tuple") (by decide) rfl, _, rfl, iteF ?_⟩
    refine ⟨_, rfl, x, ad.Reader, dx, _, _, rfl, ex, R.cl, R.n2, rfl, am, xm, rfl, .inr (.inl (.inl hm)), ?_⟩
    refine ⟨_, rfl, rfl, _, rfl, ?_⟩
    rw [decide_eq_false (show ¬ V.int (xm.length : Int) = V.int 0 from fun z => by have := V.int.inj z; omega)]
    refine iteF ⟨_, rfl, x, ad.Reader, dx, _, _, rfl, ex, R.cl, R.n3, rfl, _, _, _, _, _, rfl, .ty _, .base (.tup hg), kit_lit (d := .tup []) (T := "tuple") (by decide) rfl, _, rfl, iteF ?_⟩
    refine ⟨_, rfl, x, ad.Reader, dx, _, _, rfl, ex, R.cl, R.n2, rfl, am, xm, rfl, .inr (.inl (.inl hm)), fun J G w hG => ?_⟩
    refine for_it w (fun i σ H' => Iv (Same H H' ∧ ∃ b, σ = [some (.ref x), some (.str al), some (.int (xm.length : Int)), b, none, none])) (.of ⟨S0, _, rfl⟩) (fun i σ H2 _ hp => hG H2 hp.get.1) (fun i y σ H2 H3 hi hp hy => ?_) (fun σ H2 hp => ?_)
    · obtain ⟨s2, eb, rfl⟩ := hp.get
      obtain ⟨rfl, hy⟩ := hy
      obtain ⟨e, he, re⟩ := rsm.item hy
      obtain ⟨r, hr, rfl⟩ : ∃ r, mv[i]? = some r ∧ rowT r = e := by
        rw [List.getElem?_map] at he
        cases hr : mv[i]? with
        | none => rw [hr] at he; cases he
        | some r => rw [hr] at he; exact ⟨r, rfl, Option.some.inj he⟩
      have hrow := M.row r (List.mem_of_getElem? hr)
      obtain ⟨ar, xr, rfl, _, har, rsr⟩ := re.tupItem
      have er : xr = r.map V.int := rsr.ints_eq
      subst er
      have har2 := s2 _ _ har
      refine ⟨_, rfl, _, _, _, _, _, rfl, .ty _, .base (.tup har2), kit_lit (d := .tup []) (T := "tuple") (by decide) rfl, _, rfl, iteF ?_⟩
      refine ⟨_, rfl, ar, _, rfl, .inr (.inl (.inl har2)), _, rfl, _, rfl, Nat.le_trans hz (by decide), rfl, _, rfl, ?_⟩
      rw [show V.int ((r.map V.int).length : Int) = V.int (al.length : Int) by rw [List.length_map, hrow.1], decide_eq_true rfl]
      refine iteF ⟨_, rfl, ar, _, rfl, .inr (.inl (.inl har2)), fun J2 G2 w2 hG2 L hL => lc_F (j := 4) (Xp := fun i v => (r.map V.int)[i]? = some v) (fun _ => .bl true) w2 (fun i H v H' _ y => y) hL (by rw [List.length_map]; omega) (fun H s => hG2 H s) (fun _ => rfl) (fun j v H5 hj hv s6 Kt ht => ?_) (fun ys H5 s6 e6 r6 => ?_)⟩
      · rw [List.getElem?_map] at hv
        cases hz2 : r[j]? with
        | none => rw [hz2] at hv; cases hv
        | some z =>
          rw [hz2] at hv
          cases hv
          have hb := hrow.2 z (List.mem_of_getElem? hz2)
          refine ⟨_, rfl, _, rfl, _, _, rfl, rfl, [], .int z, .int z, _, _, rfl, .int z, ht _ _ (Same.refl _) ?_⟩
          rw [inr_int, decide_eq_true hb.1, decide_eq_true (show z ≤ (xm.length : Int) - 1 by omega)]
          exact .bl true
      · have ey := r6.bls_eq (n := 0) (g := fun _ => true)
        subst ey
        refine ⟨_, _, rfl, SqL.of e6, _, rfl, ?_⟩
        rw [all_true fun _ _ => rfl]
        exact iteF (.of ⟨s2.trans s6, _, rfl⟩)
    · obtain ⟨s2, eb, rfl⟩ := hp.get
      refine ⟨_, rfl, x, ad.Reader, dx, _, _, rfl, (s2) _ _ ex, R.cl, R.n3, rfl, ag, _, rfl, .inr (.inl (.inl (s2 _ _ hg))), fun J2 G2 w2 hG2 L hL => lc_F (j := 4) (Xp := fun i v => (g.map V.int)[i]? = some v) (fun _ => .bl true) w2 (fun i H v H' _ y => y) hL (by rw [List.length_map]; omega) (fun H s => hG2 H s) (fun _ => rfl) (fun j v H5 hj hv s6 Kt ht => ?_) (fun ys H5 s6 e6 r6 => ?_)⟩
      · rw [List.getElem?_map] at hv
        cases hz2 : g[j]? with
        | none => rw [hz2] at hv; cases hv
        | some z =>
          rw [hz2] at hv
          cases hv
          have hb := M.inn z (List.mem_of_getElem? hz2)
          refine ⟨_, rfl, _, rfl, _, _, rfl, rfl, [], .int z, .int z, _, _, rfl, .int z, ht _ _ (Same.refl _) ?_⟩
          rw [inr_int, decide_eq_true hb.1, decide_eq_true (show z ≤ (xm.length : Int) - 1 by omega)]
          exact .bl true
      · have ey := r6.bls_eq (n := 0) (g := fun _ => true)
        subst ey
        refine ⟨_, _, rfl, SqL.of e6, _, rfl, ?_⟩
        rw [all_true fun _ _ => rfl]
        have s7 := s2.trans s6
        refine iteF ⟨_, rfl, x, ad.Reader, dx, _, _, rfl, (s7) _ _ ex, R.cl, R.n3, rfl, ag, _, rfl, .inr (.inl (.inl (s7 _ _ hg))), _, _, rfl, rfl, _, rfl, ?_⟩
        refine ⟨by rw [List.length_map]; omega, by rw [List.length_map]; omega, fun L2 hL2 => lc_F (j := 5) (Xp := fun i v => v = .int (0 + (i : Int))) (fun _ => .bl true) (walk_range (lo := 0)) (fun i H v H' _ y => ⟨y.1, y.2⟩) hL2 (by rw [List.length_map]; omega) (fun _ _ => trivial) (fun _ => rfl) (fun i v H8 hi hv s8 Kt ht => ?_) (fun ys H8 s8 e8 r8 => ?_)⟩
        · subst hv
          rw [List.length_map] at hi
          have s9 := s7.trans s8
          have ha : atI (g.map V.int) (0 + (i : Int)) = some (.int (g[i]'(by omega))) := by
            rw [Int.zero_add]
            exact atI_nat (by rw [List.getElem?_map, List.getElem?_eq_getElem (show i < g.length by omega)]; rfl)
          have hb : atI (g.map V.int) (0 + (i : Int) + 1) = some (.int (g[i + 1]'(by omega))) := by
            rw [show (0 + (i : Int) + 1) = ((i + 1 : Nat) : Int) by omega]
            exact atI_nat (by rw [List.getElem?_map, List.getElem?_eq_getElem (show i + 1 < g.length by omega)]; rfl)
          refine ⟨_, rfl, x, ad.Reader, dx, _, _, rfl, (s9) _ _ ex, R.cl, R.n3, rfl, _, rfl, ag, _, _, _, rfl, rfl, .inr (.inl (.inl (s9 _ _ hg))), ha, _, rfl, x, ad.Reader, dx, _, _, rfl, (s9) _ _ ex, R.cl, R.n3, rfl, _, rfl, _, _, rfl, rfl, ag, _, _, _, rfl, rfl, .inr (.inl (.inl (s9 _ _ hg))), hb, _, _, rfl, rfl, ht _ _ (Same.refl _) ?_⟩
          have hlt : g[i]'(by omega) < g[i + 1]'(by omega) := List.pairwise_iff_getElem.mp M.asc i (i + 1) (by omega) (by omega) (by omega)
          show Rp _ _ (V.bl (decide (g[i]'(by omega) < g[i + 1]'(by omega)))) _
          rw [decide_eq_true hlt]
          exact .bl true
        · have ey := r8.bls_eq (n := 0) (g := fun _ => true)
          subst ey
          refine ⟨_, _, rfl, SqL.of e8, ?_⟩
          rw [all_true fun _ _ => rfl]
          exact k _ (s7.trans s8)
end

/-! ### _law_making, _law_rooming, _law_finding, _law_filling -/
theorem ErV.go {H H1 : Hp} {e : Er} {v : V} {pd : PyData} (h : ErV H e v pd) (s : Same H H1) : ErV H1 e v pd := ⟨h.sh.go s, h.sz, h.it⟩
theorem Same.none {H H' : Hp} (s : Same H H') {p : Addr} (h : H' p = none) : H p = none := by
  cases e : H p with
  | none => rfl
  | some o => rw [s _ _ e] at h; cases h
/-- a new list of texts comes -/
def Told (l : List Str) (H : Hp) (Q : VK) : Prop := ∀ p H', H p = none → Same H H' → H' p = some (.lst (l.map V.str)) → Q (.ref p) H'
/-- what goes wrong with da, dm, dg -/
def Bad (al : Str) (va : V) (da dm dg : D) (e : Er) (v : V) : Prop := (da.alOk = false ∧ e = .alphabet ∧ v = va) ∨ (∃ i, da = .str al ∧ alOk al = true ∧ dm.mvFault al.length = some i ∧ e = .moves ∧ v = .int i) ∨
      ∃ ms i, da = .str al ∧ alOk al = true ∧ dm.mvFault al.length = none ∧ dm.seq? = some ms ∧ dg.gdFault ms.length = some i ∧ e = .good ∧ v = .int i
/-- a wrong text is told -/
def spTexting (ad : Ad) : Sp := fun vs H Q _ => ∃ (S U : List Addr) (x : Addr) (al : Str) (mv : List (List Int)) (g : List Int) (v : V) (d : D) (i : Int), vs = [.ref x, v] ∧ RdAt ad U H x al mv g ∧ al.length ≤ 1000 ∧ Rp S H v d ∧ (∀ x, d = .str x → x.length ≤ 1000) ∧ d.fault al 40 = some i ∧ Told (Er.words .text (.int i)) H Q
theorem shown_int (i : Int) : (PyData.int i).shown = toString i := by simp [PyData.shown]
theorem small_text : ∀ n : Fin 1002, ((toString ((n.val : Int) - 1) : String) : Str).length ≤ 1000 ∧ PyData.strOk (("item " : Str) ++ ((toString ((n.val : Int) - 1) : String) : Str)) = true := by decide +kernel
theorem small_item {i : Int} (h : -1 ≤ i ∧ i ≤ 1000) : (PyData.int i).shown.length ≤ 1000 ∧ PyData.strOk (("item " : Str) ++ (PyData.int i).shown) = true := by
  have z := small_text ⟨(i + 1).toNat, by omega⟩
  have e : (((i + 1).toNat : Nat) : Int) - 1 = i := by omega
  simp only [e] at z
  rw [shown_int]
  exact z
theorem int_small {al : Str} {d : D} {i : Int} (hx : ∀ x, d = .str x → x.length ≤ 1000) (h : d.fault al 40 = some i) : (PyData.int i).shown.length ≤ 1000 := (small_item (fault_small hx h)).1
def txtsD (l : List Str) : D := .lst (l.map D.str)
def spFilling : Sp := fun vs H Q _ => ∃ (S : List Addr) (v : V) (d : D) (pd : PyData), vs = [v] ∧ Rp S H v d ∧ (∀ x, d = .str x → x.length ≤ 1000) ∧ d.alOk = false ∧ ErV H .alphabet v pd ∧
  ∀ y H', Same H H' → Rp [] H' y (.lst [txtsD (Er.words .alphabet pd), txtsD (Er.words .alphabet pd)]) → Q y H'
theorem Rps.txts {S : List Addr} {H : Hp} : ∀ l : List Str, Rps S H (l.map V.str) (l.map D.str)
  | [] => .nil
  | _ :: r => .cons (.str _) (Rps.txts r)
theorem told_step {H H1 H2 : Hp} {l p : Addr} {ws : List V} {W : List Str} {i : Nat} (hl : H l = none) (hw : H1 l = some (.lst ws)) (s1 : Same H H1) (hwl : ws.length ≤ i) (hr : Rps [l] H1 ws (List.replicate i (txtsD W)))
    (hp : H1 p = none) (s2 : Same H1 H2) (e : H2 p = some (.lst (W.map V.str))) :
    Same H (upd H2 l (.lst (ws ++ [.ref p]))) ∧ ∃ ws', upd H2 l (.lst (ws ++ [.ref p])) l = some (.lst ws') ∧ ws'.length ≤ i + 1 ∧ Rps [l] (upd H2 l (.lst (ws ++ [.ref p]))) ws' (List.replicate (i + 1) (txtsD W)) := by
  have hpl : p ≠ l := fun z => by rw [z, hw] at hp; cases hp
  have kp : Keep [l] H2 (upd H2 l (.lst (ws ++ [.ref p]))) := Keep.at1 (by simp)
  refine ⟨fun b o q => ?_, _, upd_same, by simp; omega, ?_⟩
  · rw [upd_ne (ne_of_none q hl)]
    exact s2 _ _ (s1 _ _ q)
  · rw [List.replicate_succ']
    exact ((hr.same s2).keep kp).snoc (.lst (by simp [hpl]) (by rw [upd_ne hpl]; exact e) (Rps.txts W))
abbrev sMaking : Stmt := top 49
def spMaking : Sp := fun vs H Q _ => ∃ (S : List Addr) (va vm vg : V) (da dm dg : D) (al : Str), vs = [va, vm, vg] ∧ Rp S H va da ∧ Rp S H vm dm ∧ Rp S H vg dg ∧ (∀ z, da = .str z → z.length ≤ 1000) ∧ al.length ≤ 1000 ∧
  ((∃ mv g, da = .str al ∧ alOk al = true ∧ MvOf dm mv ∧ GdOf dg g ∧ Mach al.length mv g ∧ Told [] H Q) ∨ (dm.fit ∧ dg.fit ∧ ∃ e v pd, Bad al va da dm dg e v ∧ ErV H e v pd ∧ Told (e.words pd) H Q))
section
open PyProof.Rows
variable {P : Program} {w : World} {K : PySem.W.Frag} {mg : Str → Option Value} {base : Heap} {ad : Ad}
/-- the suite, return _law_words(error) -/
theorem words_of {e : Er} {v : V} {pd : PyData} {H H' : Hp} {dd a : Addr} {Q : VK} {E : XK} (hv : ErV H e v pd) (s : Same H H') (hd : H' dd = none) (k : Told (e.words pd) H Q) :
    spWords ad a (.ref (e.cls ad)) (some dd) [.ref a] (upd H' dd (.xd [(e.fld, v)])) Q E := by
  have s2 := s.trans (Same.new (o := .xd [(e.fld, v)]) hd)
  exact ⟨rfl, e, dd, v, pd, rfl, rfl, upd_same, hv.go s2, fun p H2 hp s3 e => k p H2 (Same.none s2 hp) (s2.trans s3) e⟩
theorem scMaking : FnScope ["alphabet", "moves", "good", "error"] ["alphabet", "moves", "good"] (C8.fnScope sMaking) := C8.fnScope_by (by decide +kernel)
theorem ok_making {f : Addr} {fd : FuncData} (F : C8.Def K mg "_law_making" sMaking f fd) (b : Binds K fd ["alphabet", "moves", "good"] []) (T : Txt mg) (O : Own K mg ad) (m_Reader : MakZ P w K mg base 3 "Reader" ad.Reader (spInit K ad)) (c_law_words : CalE Gd P w K mg base 1 "_law_words" (spWords ad)) :
    CalZ Gd P w K mg base 5 "_law_making" spMaking := by
  refine calZ (fun A env h => h.deeper env) F b scMaking (fun vs H Q E h => ?_) (fun cdv A outer s H vs Q E hG hr h => ?_)
  · obtain ⟨S, va, vm, vg, da, dm, dg, al, rfl, _⟩ := h
    rfl
  · obtain ⟨S, va, vm, vg, da, dm, dg, al, rfl, ra, rm, rg, hz, hal, k⟩ := h
    have sc := scMaking
    refine ⟨_, -- _law_making: 0 alphabet 1 moves 2 good 3 error

      (pss_cons (ps_tryN (i := 3) (Wout := fun _ _ _ _ => False) rfl rfl sc.nd rfl rfl ⟨rfl, by decide, Or.inl O.g_LotsError⟩ takesF
      (fun W pn xe tk _ => 
        (pss_one (ps_expr (pe_makeZ (E := WE W) m_Reader hr (by decide) rfl (passW tk) (pa_cons (pv 0) (pa_cons (pv 1) (pa_cons (pv 2) pa_nil))))))) (fun a oe cls d pn hz hf => 
        (pss_one (ps_ret (pe_e (E := fun _ _ _ _ => False) c_law_words hG (roomM hr) (by decide) (List.mem_cons_self ..) hz.zc hf rfl (fun σ => passF σ) (pa_cons (pv 3) pa_nil))))))
      (pss_one (ps_ret (pe_lst pa_nil)))), ?_⟩
    refine ⟨_, rfl, _, rfl, _, rfl, fun x dx hx hdx hne => ?_⟩
    rcases k with ⟨mv, g, hda, hok, m, gd, M, k⟩ | ⟨fm, fg, e, v, pd, hb, hv, k⟩
    · exact init_good (U := []) ra rm rg hda hok hal m gd M (by simp) hx hdx hne (fun H' s r => ⟨rfl, by show 0 ≤ sizeLine; exact Nat.zero_le _, fun p hp => k p _ (Same.none s hp) (s.trans (Same.new hp)) upd_same⟩)
    · refine init_bad (al := al) e v ra rm rg hz fm fg hb hx hdx hne (fun dd H' s hdd => ⟨true, (O.err e).kL, fun _ a ha => ⟨_, rfl, words_of (E := fun _ _ _ => False) hv s hdd k⟩, fun h => by cases h⟩)
theorem scRooming : FnScope ["reader", "text", "error"] ["reader", "text"] (C8.fnScope (top 50)) := C8.fnScope_by (by decide +kernel)
theorem ok_rooming {f : Addr} {fd : FuncData} (F : C8.Def K mg "_law_rooming" (top 50) f fd) (b : Binds K fd ["reader", "text"] []) (T : Txt mg) (O : Own K mg ad) (mt_room : MetZ P w K mg base 3 ad.Reader "room" (spRoom ad)) (c_law_words : CalE Gd P w K mg base 1 "_law_words" (spWords ad)) :
    CalZ Gd P w K mg base 5 "_law_rooming" (spTexting ad) := by
  refine calZ (fun A env h => h.deeper env) F b scRooming (fun vs H Q E h => ?_) (fun cdv A outer s H vs Q E hG hr h => ?_)
  · obtain ⟨S, U, x, al, mv, g, v, d, i, rfl, _⟩ := h
    rfl
  · obtain ⟨S, U, x, al, mv, g, v, d, i, rfl, hx, hal, rd, hz, hf, k⟩ := h
    have sc := scRooming
    obtain ⟨dx, vm, vg, ex, rm, rg⟩ := hx.ex
    refine ⟨_, -- _law_rooming: 0 reader 1 text 2 error

      (pss_one (ps_tryN (i := 2) (Wout := fun _ _ _ _ => False) rfl rfl sc.nd rfl rfl ⟨rfl, by decide, Or.inl O.g_LotsError⟩ takesF
      (fun W pn xe tk _ => 
        (pss_one (ps_ret (pe_lst (pa_cons (pe_mtZ (E := WE W) mt_room hr (by decide) (passW tk) (pv 0) (pa_cons (pv 1) pa_nil)) pa_nil))))) (fun a oe cls d pn hz hf => 
        (pss_one (ps_ret (pe_e (E := fun _ _ _ _ => False) c_law_words hG (roomM hr) (by decide) (List.mem_cons_self ..) hz.zc hf rfl (fun σ => passF σ) (pa_cons (pv 2) pa_nil))))))), ?_⟩
    refine ⟨_, rfl, x, dx, _, rfl, ex, rfl, _, rfl, S, U, x, al, mv, g, v, d, rfl, hx, hal, rd, hz, fun t _ hn => (by rw [hf] at hn; cases hn), fun j hj dd H' s hdd => ?_⟩
    rw [hf] at hj
    cases hj
    exact ⟨true, (O.err .text).kL, fun _ a ha => ⟨_, rfl, words_of (e := .text) (E := fun _ _ _ => False) ⟨.int i, int_small hz hf, fun i e => by cases e; exact small_log (fault_small hz hf)⟩ s hdd k⟩, fun h => by cases h⟩
theorem scFinding : FnScope ["reader", "text", "error"] ["reader", "text"] (C8.fnScope (top 51)) := C8.fnScope_by (by decide +kernel)
theorem ok_finding {f : Addr} {fd : FuncData} (F : C8.Def K mg "_law_finding" (top 51) f fd) (b : Binds K fd ["reader", "text"] []) (T : Txt mg) (O : Own K mg ad) (mt_contains : MetZ P w K mg base 3 ad.Reader "__contains__" (spContains ad)) (c_law_words : CalE Gd P w K mg base 1 "_law_words" (spWords ad)) :
    CalZ Gd P w K mg base 5 "_law_finding" (spTexting ad) := by
  refine calZ (fun A env h => h.deeper env) F b scFinding (fun vs H Q E h => ?_) (fun cdv A outer s H vs Q E hG hr h => ?_)
  · obtain ⟨S, U, x, al, mv, g, v, d, i, rfl, _⟩ := h
    rfl
  · obtain ⟨S, U, x, al, mv, g, v, d, i, rfl, hx, hal, rd, hz, hf, k⟩ := h
    have sc := scFinding
    obtain ⟨dx, vm, vg, ex, rm, rg⟩ := hx.ex
    refine ⟨_, -- _law_finding: 0 reader 1 text 2 error

      (pss_one (ps_tryN (i := 2) (Wout := fun _ _ _ _ => False) rfl rfl sc.nd rfl rfl ⟨rfl, by decide, Or.inl O.g_LotsError⟩ takesF
      (fun W pn xe tk _ => 
        (pss_one (ps_ret (pe_lst (pa_cons (pe_inZ (E := WE W) mt_contains hr (by decide) (passW tk) (pv 1) (pv 0)) pa_nil))))) (fun a oe cls d pn hz hf => 
        (pss_one (ps_ret (pe_e (E := fun _ _ _ _ => False) c_law_words hG (roomM hr) (by decide) (List.mem_cons_self ..) hz.zc hf rfl (fun σ => passF σ) (pa_cons (pv 2) pa_nil))))))), ?_⟩
    refine ⟨_, rfl, _, rfl, x, dx, _, rfl, ex, S, U, x, al, mv, g, v, d, rfl, hx, hal, rd, hz, fun t _ hn => (by rw [hf] at hn; cases hn), fun j hj dd H' s hdd => ?_⟩
    rw [hf] at hj
    cases hj
    exact ⟨true, (O.err .text).kL, fun _ a ha => ⟨_, rfl, words_of (e := .text) (E := fun _ _ _ => False) ⟨.int i, int_small hz hf, fun i e => by cases e; exact small_log (fault_small hz hf)⟩ s hdd k⟩, fun h => by cases h⟩
theorem scFilling : FnScope ["alphabet", "told", "turn", "error"] ["alphabet"] (C8.fnScope (top 52)) := C8.fnScope_by (by decide +kernel)
theorem ok_filling {f : Addr} {fd : FuncData} (F : C8.Def K mg "_law_filling" (top 52) f fd) (b : Binds K fd ["alphabet"] []) (T : Txt mg) (O : Own K mg ad) (mt_len : C8.Met P w K mg base 1 ad.Reader "__len__" (spLen ad) []) (st_full : StZ P w K mg base 5 ad.Reader "full" (spEnd ad [0])) (st_bare : StZ P w K mg base 5 ad.Reader "bare" (spEnd ad [])) (c_law_words : CalE Gd P w K mg base 1 "_law_words" (spWords ad)) :
    CalZ Gd P w K mg base 6 "_law_filling" spFilling := by
  refine calZ (fun A env h => h.deeper env) F b scFilling (fun vs H Q E h => ?_) (fun cdv A outer s H vs Q E hG hr h => ?_)
  · obtain ⟨S, v, d, pd, rfl, _⟩ := h
    rfl
  · obtain ⟨S, v, d, pd, rfl, rd, hz, hd, hv, k⟩ := h
    have sc := scFilling
    refine ⟨_, -- _law_filling: 0 alphabet 1 told 2 turn 3 error

      (pss_cons (ps_set (i := 1) sc.nd rfl (Or.inl rfl) (pe_lst pa_nil))
      (pss_cons (ps_for passesG rfl (pi_range1 (by rfl) T.range (pa_cons pe_int pa_nil)) (pg_name (i := 2) sc.nd rfl (Or.inl rfl)) 
        (pss_one (ps_tryN (i := 3) (Wout := fun _ _ _ _ => False) rfl rfl sc.nd rfl rfl ⟨rfl, by decide, Or.inl O.g_LotsError⟩ takesF
      (fun W pn xe tk _ => 
          (pss_one (ps_expr (pe_append (K := K) rfl (pv 1) (pa_cons (pe_lst (pa_cons (pe_callB (call_lenO mt_len hr (by decide)) (by rfl) T.len PySem.boot_len (pa_cons (pe_ifExp (pt_cmpR op_eq (pv 2) pe_int (nomark _)) (pe_stZ (E := WE W) st_full hr (by decide) (passW tk) (pe_glob (v := .ref ad.Reader) rfl O.g_Reader rfl) (pa_cons (pv 0) pa_nil)) (pe_stZ (E := WE W) st_bare hr (by decide) (passW tk) (pe_glob (v := .ref ad.Reader) rfl O.g_Reader rfl) (pa_cons (pv 0) pa_nil))) pa_nil)) pa_nil)) pa_nil))))) (fun a oe cls d pn hz hf => 
          (pss_one (ps_expr (pe_append (K := K) rfl (pv 1) (pa_cons (pe_e (E := fun _ _ _ _ => False) c_law_words hG (roomM hr) (by decide) (List.mem_cons_self ..) hz.zc hf rfl (fun σ => passF σ) (pa_cons (pv 3) pa_nil)) pa_nil))))))))
      (pss_one (ps_ret (pv 1))))), ?_⟩
    have rng : (0 : Int) ≤ 2 := by decide
    refine ⟨by show 0 ≤ sizeLine; exact Nat.zero_le _, fun l hl => ?_⟩
    refine ⟨2, rfl, by decide, by decide, ?_⟩
    refine for_it (walk_range (lo := 0)) (fun i σ H' => Iv (Same H H' ∧ (∃ ws, H' l = some (.lst ws) ∧ ws.length ≤ i ∧ Rps [l] H' ws (List.replicate i (txtsD (Er.words .alphabet pd)))) ∧ ∃ b, σ = [some v, some (.ref l), b, none])) (.of ⟨Same.new hl, ⟨[], upd_same, Nat.le_refl _, .nil⟩, _, rfl⟩) (fun _ _ _ _ _ => trivial) (fun i y σ H1 H2 hi hp hy => ?_) (fun σ H1 hp => ?_)
    · obtain ⟨s1, ⟨ws, hw, hwl, hr1⟩, eb, rfl⟩ := hp.get
      obtain ⟨rfl, rfl⟩ := hy
      have hi : i < 2 := hi
      refine ⟨_, rfl, .inl ⟨rfl, _, SqL.of hw⟩, _, rfl, rfl, _, rfl, ?_⟩
      by_cases h0 : i = 0
      · rw [decide_eq_true (show V.int (0 + (i : Int)) = V.int 0 by rw [h0]; rfl)]
        refine iteT ⟨rfl, _, rfl, S, [], v, d, rfl, rd.same s1, hz, by simp, fun al e h => ?_, fun _ dd H' s hdd => ⟨true, (O.err .alphabet).kL, fun _ a ha => ?_, fun h => by cases h⟩⟩
        · rw [e, show (D.str al).alOk = true from h] at hd
          cases hd
        · have sd := s.trans (Same.new (o := .xd [(Er.fld .alphabet, v)]) hdd)
          refine ⟨_, rfl, .inl ⟨rfl, _, SqL.of (sd _ _ hw)⟩, ?_⟩
          refine ⟨_, rfl, ?_⟩
          dsimp only [tNil]
          refine words_of (e := .alphabet) (hv.go s1) s hdd ?_
          intro p H2 hp s2 e
          have st := told_step hl hw s1 hwl hr1 hp s2 e
          exact ⟨l, ws, .ref p, rfl, rfl, s2 _ _ hw, Nat.lt_of_le_of_lt hwl (Nat.lt_trans hi (by decide)), .of ⟨st.1, st.2, _, rfl⟩⟩
      · rw [decide_eq_false (show ¬ V.int (0 + (i : Int)) = V.int 0 from fun z => h0 (by have := V.int.inj z; omega))]
        refine iteF ⟨rfl, _, rfl, S, [], v, d, rfl, rd.same s1, hz, by simp, fun al e h => ?_, fun _ dd H' s hdd => ⟨true, (O.err .alphabet).kL, fun _ a ha => ?_, fun h => by cases h⟩⟩
        · rw [e, show (D.str al).alOk = true from h] at hd
          cases hd
        · have sd := s.trans (Same.new (o := .xd [(Er.fld .alphabet, v)]) hdd)
          refine ⟨_, rfl, .inl ⟨rfl, _, SqL.of (sd _ _ hw)⟩, ?_⟩
          refine ⟨_, rfl, ?_⟩
          dsimp only [tNil]
          refine words_of (e := .alphabet) (hv.go s1) s hdd ?_
          intro p H2 hp s2 e
          have st := told_step hl hw s1 hwl hr1 hp s2 e
          exact ⟨l, ws, .ref p, rfl, rfl, s2 _ _ hw, Nat.lt_of_le_of_lt hwl (Nat.lt_trans hi (by decide)), .of ⟨st.1, st.2, _, rfl⟩⟩
    · obtain ⟨s1, ⟨ws, hw, hwl, hr1⟩, eb, rfl⟩ := hp.get
      exact ⟨_, rfl, k _ _ s1 (.lst (by simp) hw (hr1.less fun _ h => by cases h))⟩
end

/-! ### _law_sized -/
abbrev sSized : Stmt := top 54
def spSized : Sp := fun vs H Q _ => ∃ (A S : List Addr) (a : Addr) (n : Int), vs = [.ref a, .int n] ∧ a ∈ A ∧ Wd A S H ∧ 1 ≤ n ∧ n ≤ 3 ∧
  ∀ (v : V) (mv : List (List Int)) (g : List Int) (H' : Hp), Go A H H' → Rp S H' v (.tup [mvD mv, rowD g]) → Mach n.toNat mv g → Q v H'
section
open PyProof.Rows
variable {P : Program} {w : World} {K : PySem.W.Frag} {mg : Str → Option Value} {base : Heap}
theorem scSized : FnScope ["source", "many", "moves", "p", "t"] ["source", "many"] (C8.fnScope sSized) := C8.fnScope_by (by decide +kernel)
theorem ok_sized {f : Addr} {fd : FuncData} (F : C8.Def K mg "_law_sized" sSized f fd) (b : Binds K fd ["source", "many"] []) (T : Txt mg) (c_law_pick : C8.Cal P w K mg base 1 "_law_pick" spPick []) (c_law_reader : C8.Cal P w K mg base 2 "_law_reader" spReader []) : C8.Cal P w K mg base 3 "_law_sized" spSized [] := by
  refine C8.cal0 F b .nil scSized (fun vs H Q E h => ?_) (fun cdv A outer s H vs Q E hr h => ?_)
  · obtain ⟨A, S, a, n, rfl, _⟩ := h
    rfl
  · obtain ⟨A, S, a, n, rfl, hm, W, hn0, hn1, k⟩ := h
    have sc := scSized
    refine ⟨_, -- _law_sized: 0 source* 1 many* 2 moves 3 p 4 t

      (pss_cons (ps_if (pt_cmpR op_ne (C8.pe_c c_law_pick hr (by decide) rfl (pa_cons (pv 0) (pa_cons pe_int pa_nil))) pe_int (nomark _)) 
        (pss_one (ps_ret (C8.pe_c c_law_reader hr (by decide) rfl (pa_cons (pv 0) (pa_cons (pv 1) (pa_cons pe_int pa_nil)))))) pss_nil)
      (pss_cons (ps_setLc (i := 2) (own := [("p", 3)]) (g := gName 3) rfl sc.nd rfl rfl (sw_true rfl rfl rfl (by decide +kernel)) (pi_range1 (by rfl) T.range (pa_cons pe_int pa_nil)) (blkOk_by (own := [("p", 3)]) (by kernel_rfl)) (fun _ _ _ _ _ => (pg_name (i := 3) sc.nd rfl (Or.inl rfl))) (fun _ _ _ _ _ => pts_nil) (fun _ _ _ _ _ => (pe_lc (own := [("t", 4)]) (g := gName 4) rfl sc.nd (pi_range1 (by rfl) T.range (pa_cons (pv 1) pa_nil)) (blkOk_by (own := [("t", 4)]) (by kernel_rfl)) (fun _ _ _ _ _ => (pg_name (i := 4) sc.nd rfl (Or.inl rfl))) (fun _ _ _ _ _ => pts_nil) (fun _ _ _ _ _ => (C8.pe_c c_law_pick hr (by decide) rfl (pa_cons (pv 0) (pa_cons pe_int pa_nil)))))))
      (pss_one (ps_ret (pe_tup (pa_cons (pv 2) (pa_cons (pe_lc (own := [("p", 3)]) (g := gName 3) rfl sc.nd (pi_range1 (by rfl) T.range (pa_cons pe_int pa_nil)) (blkOk_by (own := [("p", 3)]) (by kernel_rfl)) (fun _ _ _ _ _ => (pg_name (i := 3) sc.nd rfl (Or.inl rfl))) (fun _ _ _ _ _ => (pts_one (pt_cmpR op_ne (C8.pe_c c_law_pick hr (by decide) rfl (pa_cons (pv 0) (pa_cons pe_int pa_nil))) pe_int (nomark _)))) (fun _ _ _ _ _ => (pv 3))) pa_nil))))))), ?_⟩
    walk_at "rd"
    refine ⟨A, a, _, rfl, hm, W.src, by omega, by omega, fun z H1 hz0 hz1 g1 => ?_⟩
    have W1 := W.go g1
    walk_at "rd"
    refine ite2 (fun _ => ?_) (fun _ => ?_)
    · walk_at "rd"
      exact ⟨A, S, a, n, 8, rfl, hm, W1, hn0, hn1, by omega, by omega, fun v mv g H2 g2 r M => k v mv g H2 (g1.trans g2) r M⟩
    · walk_at "rd"
      refine fun L hL => lc_D (A := A) (S := S) (j := 3) (Xp := fun _ _ => True) (fun i ds => ds.length = i ∧ ∀ d ∈ ds, ∃ r : List Int, d = rowD r ∧ (r.length = n.toNat ∧ ∀ x ∈ r, 0 ≤ x ∧ x < (60 : Int)))
        (walk_range (lo := 0)) (fun i H x H' _ y => ⟨y.1, trivial⟩) W1 hL (show (60:Int).toNat ≤ 100000 by decide) (fun _ _ => trivial) ⟨rfl, by simp⟩ (fun i ds h => by omega) (fun _ => rfl) (fun i ds x H2 hi h _ W2 k2 Kt Kf ht hf => ?_) (fun ys ds H2 h g2 hL2 hr2 => ?_)
      · refine yes_go ?_
        walk_at "rd"
        refine fun L1 hL1 => lc_D (A := A) (S := L :: S) (j := 4) (Xp := fun _ _ => True) (fun i ds => ds.length = i ∧ ∀ d ∈ ds, ∃ r : Int, d = .int r ∧ (0 ≤ r ∧ r < (60 : Int)))
          (walk_range (lo := 0)) (fun i H x H' _ y => ⟨y.1, trivial⟩) W2 hL1 (by omega) (fun _ _ => trivial) ⟨rfl, by simp⟩ (fun i ds h => by omega) (fun _ => rfl) (fun i ds x H2 hi h _ W2 k2 Kt Kf ht hf => ?_) (fun ys1 ds1 H3 h1 g3 hL3 hr3 => ?_)
        · refine yes_go ?_
          walk_at "rd"
          refine ⟨A, a, _, rfl, hm, W2.src, by omega, by omega, fun r H3 hr0 hr1 g3 => ht (.int r) (.int r) H3 g3 (.int r) ⟨by simp [h.1], fun d hd => ?_⟩⟩
          rcases List.mem_append.mp hd with hd | hd
          · exact h.2 d hd
          · exact ⟨r, List.mem_singleton.mp hd, hr0, hr1⟩
        · obtain ⟨rs, rfl, hrs⟩ := maps_of h1.2
          refine ht (.ref L1) (rowD rs) H3 g3 (.lst (W2.fresh hL1) hL3 (hr3.less fun _ q => List.mem_cons_of_mem _ q)) ⟨by simp [h.1], fun d hd => ?_⟩
          rcases List.mem_append.mp hd with hd | hd
          · exact h.2 d hd
          · exact ⟨rs, List.mem_singleton.mp hd, by have := h1.1; simp at this; omega, hrs⟩
      · obtain ⟨rows, rfl, hrows⟩ := maps_of h.2
        have hlen : rows.length = 60 := by have := h.1; simp at this; omega
        have r1 : Rp S H2 (.ref L) (mvD rows) := .lst (W1.fresh hL) hL2 (hr2.less fun _ q => List.mem_cons_of_mem _ q)
        clear hr2 h
        have W2 := W1.go g2
        walk_at "rd"
        refine fun L1 hL1 => lc_D (A := A) (S := S) (j := 3) (Xp := fun i x => x = .int (0 + (i : Int))) (fun i ds => ∃ g : List Int, ds = g.map .int ∧ g.Pairwise (· < ·) ∧ ∀ x ∈ g, 0 ≤ x ∧ x < (i : Int))
          (walk_range (lo := 0)) (fun i H x H' _ y => ⟨y.1, y.2⟩) W2 hL1 (show (60:Int).toNat ≤ 100000 by decide) (fun _ _ => trivial) ⟨[], rfl, by simp, by simp⟩ (fun i ds h => ?_) (fun _ => rfl) (fun i ds x H3 hi h hx W3 k3 Kt Kf ht hf => ?_) (fun ys1 ds1 H3 h1 g3 hL3 hr3 => ?_)
        · obtain ⟨g, rfl, hg, hb⟩ := h
          rw [List.length_map]
          exact asc_le (lo := 0) hg (fun x hx => by have := hb x hx; omega)
        · obtain ⟨g, rfl, hg, hb⟩ := h
          subst hx
          walk_at "rd"
          refine ⟨A, a, _, rfl, hm, W3.src, by omega, by omega, fun r H4 hr0 hr1 g4 => ?_⟩
          walk_at "rd"
          refine ite2 (fun _ => ?_) (fun _ => ?_)
          · walk_at "rd"
            refine ht _ (.int (0 + (i : Int))) H4 g4 (.int _) ⟨g ++ [0 + (i : Int)], by simp, ?_, fun x hx => ?_⟩
            · refine List.pairwise_append.mpr ⟨hg, by simp, fun x hx y hy => ?_⟩
              rw [List.mem_singleton.mp hy]
              have := (hb x hx).2
              omega
            · rcases List.mem_append.mp hx with hx | hx
              · have := hb x hx
                omega
              · rw [List.mem_singleton.mp hx]
                omega
          · exact hf H4 g4 ⟨g, rfl, hg, fun x hx => by have := hb x hx; omega⟩
        · obtain ⟨g, rfl, hg, hb⟩ := h1
          have W3 := W2.go g3
          have r1' := r1.go W2 g3
          have e1 : ys1 = g.map V.int := hr3.ints_eq
          subst e1
          walk_at "rd"
          intro p hp
          have gp := Go.new (A := A) (o := .tup [.ref L, .ref L1]) hp
          have r2 : Rp S H3 (.ref L1) (rowD g) := .lst (W2.fresh hL1) hL3 (Rps.ints g)
          refine k _ rows g _ (((g1.trans g2).trans g3).trans gp) (.tup (W3.fresh hp) upd_same (.cons (r1'.go W3 gp) (.cons (r2.go W3 gp) .nil))) ⟨by omega, by omega, fun r hr => ?_, hg, fun x hx => ?_⟩
          · have z := hrows r hr
            exact ⟨z.1, fun x hx => by have := z.2 x hx; omega⟩
          · have z := hb x hx
            have z2 : x < (((60 : Int).toNat : Nat) : Int) := z.2
            rw [hlen]
            exact ⟨z.1, by simpa using z2⟩
end

/-! ### _law_passed, _law_spoilt -/
/-- a row that was passed: a list of U or a tuple -/
def RowIn (H : Hp) (U : List Addr) (y : V) (r : List Int) : Prop := ∃ b, y = .ref b ∧ ((b ∈ U ∧ H b = some (.lst (r.map V.int))) ∨ H b = some (.tup (r.map V.int)))
/-- what stands at p is what was passed; U: the lists that may be changed -/
structure Pas (H : Hp) (U : List Addr) (p : Addr) (x0 x1 : V) (mv : List (List Int)) : Prop where
  at_ : H p = some (.lst [x0, x1])
  no : p ∉ U
  len : mv.length ≤ 60
  small : ∀ a ∈ U, ∃ zs, H a = some (.lst zs) ∧ zs.length ≤ 100
  sh : (∃ a0 xs a1 ys V0, x0 = .ref a0 ∧ x1 = .ref a1 ∧ U = a0 :: a1 :: V0 ∧ a0 ∉ V0 ∧ a0 ≠ a1 ∧ H a0 = some (.lst xs) ∧ H a1 = some (.lst ys) ∧ ys.length ≤ 100 ∧ Rws (RowIn H V0) xs mv) ∨
    ∃ a0 xs, x0 = .ref a0 ∧ H a0 = some (.tup xs) ∧ Rws (RowIn H U) xs mv
abbrev sPassed : Stmt := top 55
abbrev sSpoilt : Stmt := top 56
def spPassed : Sp := fun vs H Q _ => ∃ (A S : List Addr) (a : Addr) (v : V) (k : Nat) (mv : List (List Int)) (g : List Int), vs = [.ref a, v] ∧ a ∈ A ∧ Wd A S H ∧ Rp S H v (.tup [mvD mv, rowD g]) ∧ Mach k mv g ∧ k ≤ 3 ∧
  ∀ (U : List Addr) (p : Addr) (x0 x1 : V) (dm dg : D) (H' : Hp), Go A H H' → (∀ a ∈ U, H a = none) → H p = none → Pas H' U p x0 x1 mv → Rp S H' x0 dm → Rp S H' x1 dg → MvOf dm mv → GdOf dg g → Q (.ref p) H'
def spSpoilt : Sp := fun vs H Q _ => ∃ (U : List Addr) (p : Addr) (x0 x1 : V) (mv : List (List Int)), vs = [.ref p] ∧ Pas H U p x0 x1 mv ∧ ∀ r H', Keep U H H' → Q r H'
/-- a row that has come since H0 -/
def RowN (H0 H : Hp) (L : Addr) (V0 : List Addr) (y : V) (r : List Int) : Prop := ∃ b, y = .ref b ∧ H0 b = none ∧ b ≠ L ∧ ((b ∈ V0 ∧ H b = some (.lst (r.map V.int))) ∨ H b = some (.tup (r.map V.int)))
/-- the rows so far -/
def Cop (A : List Addr) (H0 : Hp) (L : Addr) (rs : List (List Int)) (i : Nat) (ys : List V) (H : Hp) : Prop := ∃ V0 : List Addr, (∀ b ∈ V0, H0 b = none ∧ b ≠ L ∧ ∃ zs, H b = some (.lst zs) ∧ zs.length ≤ 100) ∧ Rws (RowN H0 H L V0) ys (rs.take i)
theorem ne_none {H : Hp} {a b : Addr} {o : HO} (h : H a = some o) (n : H b = none) : b ≠ a := fun e => by rw [e, h] at n; cases n
theorem RowN.keep {H0 H H' : Hp} {A : List Addr} {L : Addr} {V0 V1 : List Addr} (hA : ∀ a ∈ A, ∃ o, H0 a = some o) (k : Keep (L :: A) H H') (hV : ∀ b ∈ V0, b ∈ V1) (y : V) (r : List Int) (h : RowN H0 H L V0 y r) : RowN H0 H' L V1 y r := by
  obtain ⟨b, rfl, hb, hL, h⟩ := h
  have hn : b ∉ L :: A := fun hm => by
    rcases List.mem_cons.mp hm with e | hm
    · exact hL e
    · obtain ⟨o, e⟩ := hA b hm
      rw [hb] at e
      cases e
  exact ⟨b, rfl, hb, hL, h.imp (fun q => ⟨hV b q.1, k b _ hn q.2⟩) fun q => k b _ hn q⟩
theorem Cop.keep {H0 H H' : Hp} {A : List Addr} {L : Addr} {rs : List (List Int)} {i : Nat} {ys : List V} (hA : ∀ a ∈ A, ∃ o, H0 a = some o) (k : Keep (L :: A) H H') (h : Cop A H0 L rs i ys H) : Cop A H0 L rs i ys H' := by
  obtain ⟨V0, h1, h2⟩ := h
  refine ⟨V0, fun b hb => ?_, h2.imp (RowN.keep hA k fun _ h => h)⟩
  obtain ⟨q1, q2, zs, q3, q4⟩ := h1 b hb
  refine ⟨q1, q2, zs, k b _ (fun hm => ?_) q3, q4⟩
  rcases List.mem_cons.mp hm with e | hm
  · exact q2 e
  · obtain ⟨o, e⟩ := hA b hm
    rw [q1] at e
    cases e
/-- one more row -/
theorem Cop.step {H0 H : Hp} {A : List Addr} {L b : Addr} {rs : List (List Int)} {i : Nat} {ys : List V} {r : List Int} (hA : ∀ a ∈ A, ∃ o, H0 a = some o) (h : Cop A H0 L rs i ys H) (hr : rs[i]? = some r) (h0 : H0 b = none) (hL : b ≠ L) (hb : H b = none) (hl : r.length ≤ 100) :
    Cop A H0 L rs (i + 1) (ys ++ [.ref b]) (upd H b (.lst (r.map V.int))) ∧ Cop A H0 L rs (i + 1) (ys ++ [.ref b]) (upd H b (.tup (r.map V.int))) := by
  have e : rs.take (i + 1) = rs.take i ++ [r] := take_snoc hr
  constructor
  · obtain ⟨V0, h1, h2⟩ := h.keep hA (Keep.new (o := .lst (r.map V.int)) hb)
    refine ⟨b :: V0, fun c hc => ?_, ?_⟩
    · rcases List.mem_cons.mp hc with e | hc
      · subst e
        exact ⟨h0, hL, _, upd_same, by rw [List.length_map]; exact hl⟩
      · exact h1 c hc
    · rw [e]
      exact Rws.snoc ⟨b, rfl, h0, hL, .inl ⟨List.mem_cons_self .., upd_same⟩⟩ (h2.imp (RowN.keep hA (Keep.refl _ _) fun _ h => List.mem_cons_of_mem _ h))
  · obtain ⟨V0, h1, h2⟩ := h.keep hA (Keep.new (o := .tup (r.map V.int)) hb)
    refine ⟨V0, h1, ?_⟩
    rw [e]
    exact Rws.snoc ⟨b, rfl, h0, hL, .inr upd_same⟩ h2
/-- the rows as data -/
theorem Cop.data {A S : List Addr} {H0 H : Hp} {L : Addr} {V0 : List Addr} {rs : List (List Int)} {ys : List V} (W : Wd A S H0) (h : Rws (RowN H0 H L V0) ys rs) : ∃ ds, Rps S H ys ds ∧ ds.map D.seq? = rs.map fun r => some (r.map D.int) :=
  (h.imp fun y r q => by
    obtain ⟨b, rfl, h0, _, q⟩ := q
    rcases q with ⟨_, q⟩ | q
    · exact ⟨.lst (r.map D.int), .lst (W.fresh h0) q (Rps.ints r), rfl⟩
    · exact ⟨.tup (r.map D.int), .tup (W.fresh h0) q (Rps.ints r), rfl⟩).data
theorem Go.none {A S : List Addr} {H H' : Hp} (W : Wd A S H) (g : Go A H H') {l : Addr} (hl : H' l = .none) : H l = .none := by
  cases e : H l with
  | none => rfl
  | some o =>
    by_cases hlA : l ∈ A
    · obtain ⟨x, sd, c, q⟩ := (W.go g).src l hlA
      rw [hl] at q
      cases q
    · have := g.keep _ _ hlA e
      rw [hl] at this
      cases this
theorem RowN.in {H0 H : Hp} {L : Addr} {V0 V1 : List Addr} (hV : ∀ b ∈ V0, b ∈ V1) (y : V) (r : List Int) (h : RowN H0 H L V0 y r) : RowIn H V1 y r := by
  obtain ⟨b, rfl, _, _, q⟩ := h
  exact ⟨b, rfl, q.imp (fun q => ⟨hV b q.1, q.2⟩) id⟩
/-- what is handed on -/
structure Psd (A S : List Addr) (H H' : Hp) (p : Addr) (x0 x1 : V) (mv : List (List Int)) (g : List Int) : Prop where
  ex : ∃ (U : List Addr) (dm dg : D), Go A H H' ∧ (∀ a ∈ U, H a = none) ∧ H p = none ∧ Pas H' U p x0 x1 mv ∧ Rp S H' x0 dm ∧ Rp S H' x1 dg ∧ MvOf dm mv ∧ GdOf dg g
section
variable {A S : List Addr} {H H3 : Hp} {L l p q : Addr} {V0 : List Addr} {ys : List V} {mv : List (List Int)} {g : List Int} {k : Nat}
theorem pas_list (W : Wd A S H) (g3 : Go A H H3) (hL : H L = none) (hL3 : H3 L = some (.lst ys)) (h3 : Rws (RowN H H3 L V0) ys mv) (hV : ∀ b ∈ V0, H b = none ∧ b ≠ L ∧ ∃ zs, H3 b = some (.lst zs) ∧ zs.length ≤ 100) (M : Mach k mv g)
    (hl : H3 l = none) (hp : upd H3 l (.lst (g.map V.int)) p = none) : Psd A S H (upd (upd H3 l (.lst (g.map V.int))) p (.lst [.ref L, .ref l])) p (.ref L) (.ref l) mv g := by
  have hA : ∀ a ∈ A, ∃ o, H a = some o := fun a ha => W.ex a (W.sub a ha)
  have s4 : Same H3 (upd H3 l (.lst (g.map V.int))) := Same.new hl
  have s5 : Same H3 (upd (upd H3 l (.lst (g.map V.int))) p (.lst [.ref L, .ref l])) := s4.trans (Same.new hp)
  generalize hH5 : upd (upd H3 l (.lst (g.map V.int))) p (.lst [.ref L, .ref l]) = H5 at s5
  have gf : Go A H H5 := g3.trans (Go.same s5)
  have hpl : p ≠ l := fun e => by rw [e, upd_same] at hp; cases hp
  have hl5 : H5 l = some (.lst (g.map V.int)) := by rw [← hH5, upd_ne (Ne.symm hpl), upd_same]
  have hp5 : H5 p = some (.lst [.ref L, .ref l]) := by rw [← hH5, upd_same]
  have hp3 : H3 p = none := by rw [upd_ne hpl] at hp; exact hp
  have r5 := h3.imp (RowN.keep (A := A) hA (Keep.same s5) (V1 := V0) fun _ q => q)
  obtain ⟨ds, e1, e2⟩ := Cop.data W r5
  have lL : l ≠ L := fun e => by rw [e, hL3] at hl; cases hl
  have pL : p ≠ L := fun e => by rw [e, hL3] at hp3; cases hp3
  have nV : ∀ {z : Addr}, H3 z = none → z ∉ V0 := fun {z} hz hm => by
    obtain ⟨_, _, zs, q, _⟩ := hV z hm
    rw [hz] at q
    cases q
  have yl := h3.len
  have ml := M.most
  have gl := M.glen
  refine ⟨L :: l :: V0, .lst ds, rowD g, gf, fun a ha => ?_, g3.none W hp3, ⟨hp5, fun hm => ?_, M.most, fun a ha => ?_, .inl ⟨L, ys, l, g.map V.int, V0, rfl, rfl, rfl, fun hm => (hV L hm).2.1 rfl, Ne.symm lL, s5 _ _ hL3, hl5, by rw [List.length_map]; omega, r5.imp (RowN.in fun _ q => q)⟩⟩, .lst (W.fresh hL) (s5 _ _ hL3) e1, .lst (W.fresh (g3.none W hl)) hl5 (Rps.ints g), ⟨ds, rfl, e2⟩, rfl⟩
  · rcases List.mem_cons.mp ha with rfl | ha
    · exact hL
    rcases List.mem_cons.mp ha with rfl | ha
    · exact g3.none W hl
    · exact (hV a ha).1
  · rcases List.mem_cons.mp hm with e | hm
    · exact pL e
    rcases List.mem_cons.mp hm with e | hm
    · exact hpl e
    · exact nV hp3 hm
  · rcases List.mem_cons.mp ha with rfl | ha
    · exact ⟨_, s5 _ _ hL3, by omega⟩
    rcases List.mem_cons.mp ha with rfl | ha
    · exact ⟨_, hl5, by rw [List.length_map]; omega⟩
    · obtain ⟨_, _, zs, q, z⟩ := hV a ha
      exact ⟨zs, s5 _ _ q, z⟩
theorem pas_tup (W : Wd A S H) (g3 : Go A H H3) (hL : H L = none) (hL3 : H3 L = some (.lst ys)) (h3 : Rws (RowN H H3 L V0) ys mv) (hV : ∀ b ∈ V0, H b = none ∧ b ≠ L ∧ ∃ zs, H3 b = some (.lst zs) ∧ zs.length ≤ 100) (M : Mach k mv g)
    (hq : H3 q = none) (hl : upd H3 q (.tup ys) l = none) (hp : upd (upd H3 q (.tup ys)) l (.tup (g.map V.int)) p = none) : Psd A S H (upd (upd (upd H3 q (.tup ys)) l (.tup (g.map V.int))) p (.lst [.ref q, .ref l])) p (.ref q) (.ref l) mv g := by
  have hA : ∀ a ∈ A, ∃ o, H a = some o := fun a ha => W.ex a (W.sub a ha)
  have s5 : Same H3 (upd (upd (upd H3 q (.tup ys)) l (.tup (g.map V.int))) p (.lst [.ref q, .ref l])) := ((Same.new hq).trans (Same.new hl)).trans (Same.new hp)
  generalize hH5 : upd (upd (upd H3 q (.tup ys)) l (.tup (g.map V.int))) p (.lst [.ref q, .ref l]) = H5 at s5
  have gf : Go A H H5 := g3.trans (Go.same s5)
  have hpl : p ≠ l := fun e => by rw [e, upd_same] at hp; cases hp
  rw [upd_ne hpl] at hp
  have hpq : p ≠ q := fun e => by rw [e, upd_same] at hp; cases hp
  have hlq : l ≠ q := fun e => by rw [e, upd_same] at hl; cases hl
  rw [upd_ne hpq] at hp
  rw [upd_ne hlq] at hl
  have hl5 : H5 l = some (.tup (g.map V.int)) := by rw [← hH5, upd_ne (Ne.symm hpl), upd_same]
  have hq5 : H5 q = some (.tup ys) := by rw [← hH5, upd_ne (Ne.symm hpq), upd_ne (Ne.symm hlq), upd_same]
  have hp5 : H5 p = some (.lst [.ref q, .ref l]) := by rw [← hH5, upd_same]
  have r5 := h3.imp (RowN.keep (A := A) hA (Keep.same s5) (V1 := V0) fun _ q => q)
  obtain ⟨ds, e1, e2⟩ := Cop.data W r5
  refine ⟨V0, .tup ds, rowT g, gf, fun a ha => (hV a ha).1, g3.none W hp, ⟨hp5, fun hm => ?_, M.most, fun a ha => ?_, .inr ⟨q, ys, rfl, hq5, r5.imp (RowN.in fun _ q => q)⟩⟩, .tup (W.fresh (g3.none W hq)) hq5 e1, .tup (W.fresh (g3.none W hl)) hl5 (Rps.ints g), ⟨ds, rfl, e2⟩, rfl⟩
  · obtain ⟨_, _, zs, z, _⟩ := hV p hm
    rw [hp] at z
    cases z
  · obtain ⟨_, _, zs, z, y⟩ := hV a ha
    exact ⟨zs, s5 _ _ z, y⟩
end
section
open PyProof.Rows
variable {P : Program} {w : World} {K : PySem.W.Frag} {mg : Str → Option Value} {base : Heap}
theorem scPassed : FnScope ["source", "told", "moves", "row"] ["source", "told"] (C8.fnScope sPassed) := C8.fnScope_by (by decide +kernel)
theorem ok_passed {f : Addr} {fd : FuncData} (F : C8.Def K mg "_law_passed" sPassed f fd) (b : Binds K fd ["source", "told"] []) (T : Txt mg) (c_law_pick : C8.Cal P w K mg base 1 "_law_pick" spPick []) : C8.Cal P w K mg base 2 "_law_passed" spPassed [] := by
  refine C8.cal0 F b .nil scPassed (fun vs H Q E h => ?_) (fun cdv A outer s H vs Q E hr h => ?_)
  · obtain ⟨A, S, a, v, k, mv, g, rfl, _⟩ := h
    rfl
  · obtain ⟨A, S, a, v, k, mv, g, rfl, hm, W, hv, M, hk, kk⟩ := h
    have sc := scPassed
    obtain ⟨t, ws, rfl, htS, ht, hws⟩ := hv.tupItem
    cases hws with
    | cons h1 hws =>
    cases hws with
    | cons h2 hws =>
    cases hws
    cases h1 with
    | lst n1 e1 r1 =>
    cases h2 with
    | lst n2 e2 r2 =>
    refine ⟨_, -- _law_passed: 0 source* 1 told 2 moves 3 row

      (pss_cons (ps_setLc (i := 2) (own := [("row", 3)]) (g := gName 3) rfl sc.nd rfl rfl (sw_true rfl rfl rfl (by decide +kernel)) (pi_list (pe_ix (ixQ (K := K) rfl) (pv 1) pe_int (fun _ _ => rfl))) (blkOk_by (own := [("row", 3)]) (by kernel_rfl)) (fun _ _ _ _ _ => (pg_name (i := 3) sc.nd rfl (Or.inl rfl))) (fun _ _ _ _ _ => pts_nil) (fun _ _ _ _ _ => (pe_ifExp (pt_cmpR op_eq (C8.pe_c c_law_pick hr (by decide) rfl (pa_cons (pv 0) (pa_cons pe_int pa_nil))) pe_int (nomark _)) (pe_callTy (T := "list") (call_lstQ (K := K) rfl) (by rfl) T.list (by decide +kernel) (pa_cons (pv 3) pa_nil)) (pe_callTy (T := "tuple") (call_tupQ (K := K) rfl) (by rfl) T.tuple (by decide +kernel) (pa_cons (pv 3) pa_nil)))))
      (pss_cons (ps_if (pt_cmpR op_eq (C8.pe_c c_law_pick hr (by decide) rfl (pa_cons (pv 0) (pa_cons pe_int pa_nil))) pe_int (nomark _)) 
        (pss_one (ps_ret (pe_lst (pa_cons (pv 2) (pa_cons (pe_callTy (T := "list") (call_lstQ (K := K) rfl) (by rfl) T.list (by decide +kernel) (pa_cons (pe_ix (ixQ (K := K) rfl) (pv 1) pe_int (fun _ _ => rfl)) pa_nil)) pa_nil))))) pss_nil)
      (pss_one (ps_ret (pe_lst (pa_cons (pe_callTy (T := "tuple") (call_tupQ (K := K) rfl) (by rfl) T.tuple (by decide +kernel) (pa_cons (pv 2) pa_nil)) (pa_cons (pe_callTy (T := "tuple") (call_tupQ (K := K) rfl) (by rfl) T.tuple (by decide +kernel) (pa_cons (pe_ix (ixQ (K := K) rfl) (pv 1) pe_int (fun _ _ => rfl)) pa_nil)) pa_nil))))))), ?_⟩
    have hA : ∀ a ∈ A, ∃ o, H a = some o := fun a ha => W.ex a (W.sub a ha)
    refine ⟨_, rfl, t, _, _, _, rfl, rfl, .inr (.inl (.inl ht)), rfl, ?_⟩
    refine ⟨_, rfl, ⟨_, SqL.of e1⟩, fun L hL => lc_G (A := A) (S := S) (j := 3) (Xp := fun i x => ∃ r b, mv[i]? = some r ∧ x = .ref b ∧ b ∉ S ∧ H b = some (.lst (r.map V.int))) (Cop A H L mv)
      walk_list (fun i H2 x H3 hi y => ⟨y.1, ?_⟩) W hL ?_ (fun H2 k2 => SqL.of (k2 _ _ ?_ e1)) (fun _ => ⟨[], by simp, .nil⟩) (fun i ys H2 h => ?_) (fun i ys H2 H3 k2 h => h.keep hA k2) (fun _ => rfl)
      (fun i ys x H2 hi h hx W2 k2 Kt Kf ht hf => ?_) (fun ys H2 h g2 hL2 W2 => ?_)⟩
    · obtain ⟨dd, h1, h2⟩ := r1.item y.2
      rw [List.getElem?_map] at h1
      cases hr : mv[i]? with
      | none => rw [hr] at h1; cases h1
      | some r =>
        rw [hr] at h1
        cases h1
        cases h2 with
        | lst n e rs =>
          rw [rs.ints_eq] at e
          exact ⟨r, _, rfl, rfl, n, e⟩
    · have := r1.len
      rw [List.length_map] at this
      have := M.most
      omega
    · intro hm2
      rcases List.mem_cons.mp hm2 with e | hm2
      · rw [← e, e1] at hL; cases hL
      · exact n1 (W.sub _ hm2)
    · obtain ⟨V0, _, h2⟩ := h
      rw [h2.len, List.length_take]
      omega
    · obtain ⟨r, b0, hr, rfl, hbS, hb⟩ := hx
      refine yes_go ?_
      have hb2 : H2 b0 = some (.lst (r.map V.int)) := k2 _ _ (fun hm2 => by
        rcases List.mem_cons.mp hm2 with e | hm2
        · rw [← e, hb] at hL; cases hL
        · exact hbS (W.sub _ hm2)) hb
      have hc : Mach k mv g → r.length ≤ 100 := fun M => by have := (M.row r (List.mem_of_getElem? hr)).1; omega
      have hbA : b0 ∉ A := fun q => hbS (W.sub _ q)
      walk_at "rd"
      refine ⟨A, a, _, rfl, hm, W2.src, by omega, by omega, fun z H3 hz0 hz1 g3 => ?_⟩
      have h3 := h.keep hA (g3.keep.mono fun a ha => List.mem_cons_of_mem _ ha)
      have hb3 := g3.keep _ _ hbA hb2
      have W3 := W2.go g3
      have new : ∀ {l : Addr}, H3 l = none → H l = none ∧ l ≠ L := by
        intro l hl
        refine ⟨?_, fun e => ?_⟩
        · cases e : H l with
          | none => rfl
          | some o =>
            by_cases hlA : l ∈ A
            · obtain ⟨x, sd, c, q⟩ := W3.src l hlA
              rw [hl] at q; cases q
            · have := g3.keep _ _ hlA (k2 l o (fun hm2 => by
                rcases List.mem_cons.mp hm2 with e2 | hm2
                · rw [← e2, e] at hL; cases hL
                · exact hlA hm2) e)
              rw [hl] at this; cases this
        · obtain ⟨o, q⟩ := W3.ex L (List.mem_cons_self ..)
          rw [← e, hl] at q; cases q
      walk_at "rd"
      refine ite2 (fun _ => ?_) (fun _ => ?_)
      · refine ⟨_, rfl, b0, _, rfl, .inl (SqL.of hb3), fun l hl => ?_⟩
        exact ht _ _ (g3.trans (Go.new hl)) (h3.step hA hr (new hl).1 (new hl).2 hl (hc M)).1
      · refine ⟨_, rfl, b0, _, rfl, .inl ⟨SqL.of hb3, fun l hl => ?_⟩⟩
        exact ht _ _ (g3.trans (Go.new hl)) (h3.step hA hr (new hl).1 (new hl).2 hl (hc M)).2
    · have h : Cop A H L mv mv.length ys H2 := by
        have := r1.len
        rw [List.length_map] at this
        rw [← this]
        exact h
      obtain ⟨V0, hV, h⟩ := h
      rw [List.take_length] at h
      have hg2 : H2 t = some (.tup [.ref _, .ref _]) := g2.keep _ _ (fun q => htS (W.sub _ q)) ht
      have e2' := g2.keep _ _ (fun q => n2 (W.sub _ q)) e2
      rw [r2.ints_eq] at e2'
      have W1 := W.go g2
      walk_at "rd"
      refine ⟨A, a, _, rfl, hm, W2.src, by omega, by omega, fun z H3 hz0 hz1 g3 => ?_⟩
      have g23 := g2.trans g3
      have hg3 := g3.keep _ _ (fun q => htS (W.sub _ q)) hg2
      have e3 := g3.keep _ _ (fun q => n2 (W.sub _ q)) e2'
      have hL3 := g3.keep _ _ (fun q => (W.fresh hL) (W.sub _ q)) hL2
      have W3 := W.go g23
      have k3 : Keep (L :: A) H2 H3 := g3.keep.mono fun a ha => List.mem_cons_of_mem _ ha
      have h3 := h.imp (RowN.keep hA k3 (V1 := V0) fun _ q => q)
      have hV3 : ∀ b ∈ V0, H b = none ∧ b ≠ L ∧ ∃ zs, H3 b = some (.lst zs) ∧ zs.length ≤ 100 := fun b hb => by
        obtain ⟨q1, q2, zs, q3, q4⟩ := hV b hb
        exact ⟨q1, q2, zs, g3.keep _ _ (fun hm2 => by obtain ⟨o, e⟩ := hA b hm2; rw [q1] at e; cases e) q3, q4⟩
      have fin : ∀ {p : Addr} {x0 x1 : V} {H' : Hp}, Psd A S H H' p x0 x1 mv g → Q (.ref p) H' := fun h => by
        obtain ⟨U, dm, dg, z1, z2, z3, z4, z5, z6, z7, z8⟩ := h
        exact kk U _ _ _ dm dg _ z1 z2 z3 z4 z5 z6 z7 z8
      clear hV h ht e2 e2' hg2 hL2
      walk_at "rd"
      refine ite2 (fun _ => ?_) (fun _ => ?_)
      · refine ⟨_, rfl, _, rfl, t, _, _, _, rfl, rfl, .inr (.inl (.inl hg3)), rfl, ?_⟩
        refine ⟨_, _, rfl, .inl (SqL.of e3), fun l hl => ⟨by show 2 ≤ sizeLine; exact szl rfl, fun p hp => ?_⟩⟩
        exact fin (pas_list W g23 hL hL3 h3 hV3 M hl hp)
      · refine ⟨_, rfl, L, _, rfl, .inl ⟨SqL.of hL3, fun q hq => ?_⟩⟩
        have hqt : t ≠ q := fun e => by rw [← e, hg3] at hq; cases hq
        refine ⟨_, rfl, t, _, _, _, rfl, rfl, .inr (.inl (.inl ((upd_ne hqt).trans hg3))), rfl, ?_⟩
        have hqa : _ ≠ q := ne_none e3 hq |>.symm
        refine ⟨_, _, rfl, .inl ⟨SqL.of ((upd_ne hqa).trans e3), fun l hl => ⟨by show 2 ≤ sizeLine; exact szl rfl, fun p hp => ?_⟩⟩⟩
        exact fin (pas_tup W g23 hL hL3 h3 hV3 M hq hl hp)
theorem spoil_tail {H H1 : Hp} {U U1 : List Addr} {p a0 : Addr} {x1 : V} {zs : List V} {Q : VK} (h0 : H1 p = some (.lst [.ref a0, x1])) (ha : H1 a0 = some (.lst zs) ∨ H1 a0 = some (.tup zs)) (np : p ∉ U1) (na : a0 ∉ U1) (hz : zs.length ≤ 100)
    (hr : ∀ y ∈ zs, ∃ b, y = .ref b ∧ (b ∈ U1 ∨ ∃ ts, H1 b = some (.tup ts))) (hU : ∀ a ∈ U1, ∃ ws, H1 a = some (.lst ws) ∧ ws.length ≤ 200) (kp : Keep U H H1) (hn : ∀ a ∈ U1, a ∈ U ∨ H a = none) (k : ∀ r H', Keep U H H' → Q r H') :
    tSeq (tFor (iSeqH (tOp (rIxL K) (tVar 0) (tC (.int 0)))) (gName 1) (tIfS (tB (tCB (rIsi K) (tCons (tVar 1) (tCons (tC (V.ty "list")) tNil)))) (tSeq (tDrop (tBM K "list" rAppend (tVar 1) (tCons (tC (.int 7)) tNil))) (tAsg (tC (.int 99)) (gSub (tVar 1) (tC (.int 0)) rSetL))) tNext))
      (tRet (tCB (rLenQ K) (tCons (tVar 0) tNil))) { nx := fun _ H' => Q V.non H', rt := Q } (L2.start [Str.ofString "passed", Str.ofString "row"] [V.ref p]) H1 := by
  refine ⟨_, rfl, p, _, _, _, rfl, rfl, SqL.of h0, rfl, a0, zs, rfl, ha, fun J G w hG => ?_⟩
  refine for_it w (fun i σ H' => Iv (Keep U1 H1 H' ∧ (∀ a ∈ U1, ∃ ws, H' a = some (.lst ws) ∧ ws.length ≤ 200 + i) ∧ ∃ b, σ = [some (.ref p), b])) (.of ⟨Keep.refl _ _, hU, _, rfl⟩) (fun i σ H' hi hp => hG _ ?_) (fun i y σ H2 H3 hi hp hy => ?_) (fun σ H2 hp => ?_)
  · obtain ⟨k1, _⟩ := hp.get
    rcases ha with ha | ha
    · rw [ha]; exact k1 _ _ na ha
    · rw [ha]; exact k1 _ _ na ha
  · obtain ⟨k1, h1, eb, rfl⟩ := hp.get
    obtain ⟨rfl, hy⟩ := hy
    obtain ⟨b, rfl, hb⟩ := hr y (List.mem_of_getElem? hy)
    by_cases hbU : b ∈ U1
    · obtain ⟨ws, hw, hwl⟩ := h1 b hbU
      have wl : ws.length < sizeLine := Nat.lt_of_lt_of_le (show ws.length < 301 by omega) (szl rfl)
      refine ⟨_, rfl, _, _, _, _, _, rfl, .ty _, .base (.lst hw), kit_lit (d := .lst []) (T := "list") (by decide) rfl, _, rfl, iteT ?_⟩
      refine ⟨_, rfl, .inl ⟨rfl, _, SqL.of hw⟩, b, ws, _, rfl, rfl, hw, wl, ?_⟩
      refine ⟨_, rfl, b, _, 0, 0, rfl, rfl, upd_same, ?_, .of ⟨?_, fun a ha => ?_, _, rfl⟩⟩
      · simp [ixN]
      · exact (k1.trans (Keep.at1 hbU)).trans (Keep.at1 hbU)
      · by_cases e : a = b
        · subst e
          exact ⟨_, upd_same, by simp; omega⟩
        · rw [upd_ne e, upd_ne e]
          obtain ⟨us, q1, q2⟩ := h1 a ha
          exact ⟨us, q1, by omega⟩
    · obtain ⟨ts, ht⟩ := hb.resolve_left hbU
      refine ⟨_, rfl, _, _, _, _, _, rfl, .ty _, .base (.tup (k1 _ _ hbU ht)), kit_lit (d := .tup []) (T := "list") (by decide) rfl, _, rfl, iteF ?_⟩
      exact .of ⟨k1, fun a ha => by obtain ⟨us, q1, q2⟩ := h1 a ha; exact ⟨us, q1, by omega⟩, _, rfl⟩
  · obtain ⟨k1, h1, eb, rfl⟩ := hp.get
    refine ⟨_, rfl, p, _, rfl, .inl (SqL.of (k1 _ _ np h0)), k _ _ fun b o hb e => k1 _ _ (fun hm => ?_) (kp _ _ hb e)⟩
    rcases hn b hm with q | q
    · exact hb q
    · rw [q] at e; cases e
theorem scSpoilt : FnScope ["passed", "row"] ["passed"] (C8.fnScope sSpoilt) := C8.fnScope_by (by decide +kernel)
theorem ok_spoilt {f : Addr} {fd : FuncData} (F : C8.Def K mg "_law_spoilt" sSpoilt f fd) (b : Binds K fd ["passed"] []) (T : Txt mg) : C8.Cal P w K mg base 1 "_law_spoilt" spSpoilt [] := by
  refine C8.cal0 F b .nil scSpoilt (fun vs H Q E h => ?_) (fun cdv A outer s H vs Q E hr h => ?_)
  · obtain ⟨U, p, x0, x1, mv, rfl, _⟩ := h
    rfl
  · obtain ⟨U, p, x0, x1, mv, rfl, hp, k⟩ := h
    have sc := scSpoilt
    refine ⟨_, -- _law_spoilt: 0 passed 1 row

      (pss_cons (ps_if (pt_val (pe_callB call_isi (by rfl) T.isinstance (by decide +kernel) (pa_cons (pe_ix ix_list (pv 0) pe_int (fun _ _ => rfl)) (pa_cons (pe_bltn (v := .ty "list") (u := .type "list") rfl T.list (by decide +kernel) rfl) pa_nil)))) 
        (pss_cons (ps_expr (pe_append (K := K) rfl (pe_ix ix_list (pv 0) pe_int (fun _ _ => rfl)) (pa_cons (pe_lst (pa_cons pe_int pa_nil)) pa_nil)))
        (pss_cons (ps_asg (pe_lst (pa_cons (pe_callB (call_lenQ (K := K) rfl) (by rfl) T.len PySem.boot_len (pa_cons (pe_ix ix_list (pv 0) pe_int (fun _ _ => rfl)) pa_nil)) pa_nil)) (pg_sub (pe_ix ix_list (pv 0) pe_int (fun _ _ => rfl)) pe_int set_list))
        (pss_one (ps_expr (pe_append (K := K) rfl (pe_ix ix_list (pv 0) pe_int (fun _ _ => rfl)) (pa_cons (pe_un un_neg pe_int) pa_nil)))))) pss_nil)
      (pss_cons (ps_for PassesOwn.never rfl (pi_seqH (pe_ix ix_list (pv 0) pe_int (fun _ _ => rfl))) (pg_name (i := 1) sc.nd rfl (Or.inl rfl)) 
        (pss_one (ps_if (pt_val (pe_callB call_isi (by rfl) T.isinstance (by decide +kernel) (pa_cons (pv 1) (pa_cons (pe_bltn (v := .ty "list") (u := .type "list") rfl T.list (by decide +kernel) rfl) pa_nil)))) 
          (pss_cons (ps_expr (pe_append (K := K) rfl (pv 1) (pa_cons pe_int pa_nil)))
          (pss_one (ps_asg pe_int (pg_sub (pv 1) pe_int set_list)))) pss_nil)))
      (pss_one (ps_ret (pe_callB (call_lenQ (K := K) rfl) (by rfl) T.len PySem.boot_len (pa_cons (pv 0) pa_nil)))))), ?_⟩
    rcases hp.sh with ⟨a0, xs, a1, ys, V0, rfl, rfl, rfl, h0V, h01, ha0, ha1, hyl, hr⟩ | ⟨a0, xs, rfl, ha0, hr⟩
    · have hp0 : p ≠ a0 := fun e => hp.no (by rw [e]; exact List.mem_cons_self ..)
      have hp1 : p ≠ a1 := fun e => hp.no (by rw [e]; exact List.mem_cons_of_mem _ (List.mem_cons_self ..))
      have hpV : p ∉ V0 := fun e => hp.no (List.mem_cons_of_mem _ (List.mem_cons_of_mem _ e))
      have xl : xs.length ≤ 60 := by rw [hr.len]; exact hp.len
      refine ⟨_, rfl, p, _, _, _, rfl, rfl, SqL.of hp.at_, rfl, _, _, _, _, _, rfl, .ty _, .base (.lst ha0), kit_lit (d := .lst []) (T := "list") (by decide) rfl, _, rfl, iteT ?_⟩
      refine ⟨_, rfl, p, _, _, _, rfl, rfl, SqL.of hp.at_, rfl, .inl ⟨rfl, _, SqL.of ha0⟩, by show 1 ≤ sizeLine; exact szl rfl, fun n0 hn0 => ?_⟩
      have s1 : Same H (upd H n0 (.lst [.int 0])) := Same.new hn0
      refine ⟨a0, xs, _, rfl, rfl, s1 _ _ ha0, Nat.lt_of_lt_of_le (show xs.length < 61 by omega) (szl rfl), ?_⟩
      have hU0 : a0 ∈ a0 :: a1 :: V0 := List.mem_cons_self ..
      have hU1 : a1 ∈ a0 :: a1 :: V0 := List.mem_cons_of_mem _ (List.mem_cons_self ..)
      have k2 : Keep (a0 :: a1 :: V0) H (upd (upd H n0 (.lst [.int 0])) a0 (.lst (xs ++ [.ref n0]))) := (Keep.same s1).trans (Keep.at1 hU0)
      have n0a : n0 ≠ a0 := fun e => by rw [e, ha0] at hn0; cases hn0
      have n0b : n0 ≠ a1 := fun e => by rw [e, ha1] at hn0; cases hn0
      have v2 : ∀ b o, b ≠ a0 → H b = some o → upd (upd H n0 (.lst [.int 0])) a0 (.lst (xs ++ [.ref n0])) b = some o := fun b o hb e => by rw [upd_ne hb]; exact s1 _ _ e
      have e2 : upd (upd H n0 (.lst [.int 0])) a0 (.lst (xs ++ [.ref n0])) a0 = some (.lst (xs ++ [.ref n0])) := upd_same
      have m2 : upd (upd H n0 (.lst [.int 0])) a0 (.lst (xs ++ [.ref n0])) n0 = some (.lst [.int 0]) := by rw [upd_ne n0a]; exact upd_same
      generalize upd (upd H n0 (.lst [.int 0])) a0 (.lst (xs ++ [.ref n0])) = H2 at k2 v2 e2 m2
      refine ⟨_, rfl, p, _, _, _, rfl, rfl, SqL.of (v2 _ _ hp0 hp.at_), rfl, a0, _, rfl, .inl (SqL.of e2), by show 1 ≤ sizeLine; exact szl rfl, fun n1 hn1 => ?_⟩
      have nz : ∀ {b o}, H2 b = some o → n1 ≠ b := fun e2 e => by rw [e, e2] at hn1; cases hn1
      have s3 : Same H2 (upd H2 n1 (.lst [.int ((xs ++ [V.ref n0]).length : Nat)])) := Same.new hn1
      have hn1' : H n1 = none := by
        cases e : H n1 with
        | none => rfl
        | some o => rw [v2 n1 o (nz e2) e] at hn1; cases hn1
      refine ⟨_, rfl, p, _, _, _, rfl, rfl, SqL.of (s3 _ _ (v2 _ _ hp0 hp.at_)), rfl, a0, _, 0, 0, rfl, rfl, s3 _ _ e2, by simp [ixN], ?_⟩
      have k4 : Keep (a0 :: a1 :: V0) H (upd (upd H2 n1 (.lst [.int ((xs ++ [V.ref n0]).length : Nat)])) a0 (.lst ((xs ++ [V.ref n0]).set 0 (.ref n1)))) := (k2.trans (Keep.same s3)).trans (Keep.at1 hU0)
      have v4 : ∀ b o, b ≠ a0 → H2 b = some o → upd (upd H2 n1 (.lst [.int ((xs ++ [V.ref n0]).length : Nat)])) a0 (.lst ((xs ++ [V.ref n0]).set 0 (.ref n1))) b = some o := fun b o hb e => by rw [upd_ne hb]; exact s3 _ _ e
      have e4 : upd (upd H2 n1 (.lst [.int ((xs ++ [V.ref n0]).length : Nat)])) a0 (.lst ((xs ++ [V.ref n0]).set 0 (.ref n1))) a0 = some (.lst ((xs ++ [V.ref n0]).set 0 (.ref n1))) := upd_same
      have m4 : upd (upd H2 n1 (.lst [.int ((xs ++ [V.ref n0]).length : Nat)])) a0 (.lst ((xs ++ [V.ref n0]).set 0 (.ref n1))) n1 = some (.lst [.int ((xs ++ [V.ref n0]).length : Nat)]) := by rw [upd_ne (nz e2)]; exact upd_same
      generalize upd (upd H2 n1 (.lst [.int ((xs ++ [V.ref n0]).length : Nat)])) a0 (.lst ((xs ++ [V.ref n0]).set 0 (.ref n1))) = H4 at k4 v4 e4 m4
      have p4 := v4 _ _ hp0 (v2 _ _ hp0 hp.at_)
      have a4 := v4 _ _ (Ne.symm h01) (v2 _ _ (Ne.symm h01) ha1)
      refine ⟨_, rfl, p, _, _, _, rfl, rfl, SqL.of p4, rfl, .inl ⟨rfl, _, SqL.of a4⟩, _, rfl, a1, ys, _, rfl, rfl, a4, Nat.lt_of_lt_of_le (show ys.length < 101 by omega) (szl rfl), ?_⟩
      have k5 : Keep (a0 :: a1 :: V0) H (upd H4 a1 (.lst (ys ++ [.int (-1)]))) := k4.trans (Keep.at1 hU1)
      have n1b : n1 ≠ a1 := nz (v2 _ _ (Ne.symm h01) ha1)
      have n0n : n0 ≠ n1 := fun e => nz m2 e.symm
      have m0 := v4 n0 _ n0a m2
      refine spoil_tail (U := a0 :: a1 :: V0) (U1 := n0 :: n1 :: V0) ((upd_ne hp1).trans p4) (.inl ((upd_ne h01).trans e4)) (fun hm => ?_) (fun hm => ?_) (by simp; omega) (fun y hy => ?_) (fun a ha => ?_) k5 (fun a ha => ?_) k
      · rcases List.mem_cons.mp hm with e | hm
        · rw [← e, hp.at_] at hn0; cases hn0
        rcases List.mem_cons.mp hm with e | hm
        · rw [← e, hp.at_] at hn1'; cases hn1'
        · exact hpV hm
      · rcases List.mem_cons.mp hm with e | hm
        · exact n0a e.symm
        rcases List.mem_cons.mp hm with e | hm
        · exact nz e2 e.symm
        · exact h0V hm
      · rcases List.mem_or_eq_of_mem_set hy with hy | rfl
        · rcases List.mem_append.mp hy with hy | hy
          · obtain ⟨r, b, rfl, q⟩ := hr.mem y hy
            refine ⟨b, rfl, q.imp (fun q => List.mem_cons_of_mem _ (List.mem_cons_of_mem _ q.1)) fun q => ⟨r.map V.int, ?_⟩⟩
            have b0 : b ≠ a0 := fun e => by rw [e, ha0] at q; cases q
            have b1 : b ≠ a1 := fun e => by rw [e, ha1] at q; cases q
            rw [upd_ne b1]
            exact v4 _ _ b0 (v2 _ _ b0 q)
          · exact ⟨n0, List.mem_singleton.mp hy, .inl (List.mem_cons_self ..)⟩
        · exact ⟨n1, rfl, .inl (List.mem_cons_of_mem _ (List.mem_cons_self ..))⟩
      · rcases List.mem_cons.mp ha with rfl | ha
        · exact ⟨_, (upd_ne n0b).trans m0, by simp⟩
        rcases List.mem_cons.mp ha with rfl | ha
        · exact ⟨_, (upd_ne n1b).trans m4, by simp⟩
        · by_cases e1 : a = a1
          · subst e1
            exact ⟨_, upd_same, by simp; omega⟩
          · have e0 : a ≠ a0 := fun e => h0V (by rw [← e]; exact ha)
            obtain ⟨zs, q1, q2⟩ := hp.small a (List.mem_cons_of_mem _ (List.mem_cons_of_mem _ ha))
            exact ⟨zs, (upd_ne e1).trans (v4 _ _ e0 (v2 _ _ e0 q1)), by omega⟩
      · rcases List.mem_cons.mp ha with rfl | ha
        · exact .inr hn0
        rcases List.mem_cons.mp ha with rfl | ha
        · exact .inr hn1'
        · exact .inl (List.mem_cons_of_mem _ (List.mem_cons_of_mem _ ha))
    · refine ⟨_, rfl, p, _, _, _, rfl, rfl, SqL.of hp.at_, rfl, _, _, _, _, _, rfl, .ty _, .base (.tup ha0), kit_lit (d := .tup []) (T := "list") (by decide) rfl, _, rfl, iteF ?_⟩
      refine spoil_tail (U := U) (U1 := U) hp.at_ (.inr ha0) hp.no (fun hm => ?_) (by rw [hr.len]; have := hp.len; omega) (fun y hy => ?_) (fun a ha => ?_) (Keep.refl _ _) (fun a ha => .inl ha) k
      · obtain ⟨zs, e, _⟩ := hp.small a0 hm
        rw [ha0] at e; cases e
      · obtain ⟨r, b, rfl, q⟩ := hr.mem y hy
        exact ⟨b, rfl, q.imp (fun q => q.1) fun q => ⟨_, q⟩⟩
      · obtain ⟨zs, e, q⟩ := hp.small a ha
        exact ⟨zs, e, by omega⟩
end

/-! ### _law_ends, _law_right -/
theorem over_fault {al t : Str} (h : Over al t) (hl : t.length ≤ 40) : (D.str t).fault al 40 = none := by
  rw [fault_str, if_neg (by omega)]
  have e : (t.cps.toList.findIdx? fun c => !decide (c ∈ al.cps.toList)) = none := by
    rw [List.findIdx?_eq_none_iff]
    intro c hc
    simp [h c hc]
  rw [e]
  rfl
theorem Rps.reps {S : List Addr} {H : Hp} {n : Nat} {ys : List V} (h : Rps S H ys ((List.range n).map fun _ => D.int 0)) : Rps S H ys ((List.replicate n (0 : Int)).map D.int) := by
  have e : ((List.range n).map fun _ => D.int 0) = (List.replicate n (0 : Int)).map D.int := by
    refine List.ext_getElem? fun i => ?_
    simp only [List.getElem?_map, List.getElem?_range, List.getElem?_replicate]
    by_cases hi : i < n <;> simp [hi]
  rw [← e]
  exact h
theorem eq_lowT {K : PySem.W.Frag} {S T : List Addr} {H : Hp} {x y : V} {a : D} {n : Nat} {Q : VK} (rx : Rp S H x a) (ry : Rp T H y a) (la : Low n a) (hn : n ≤ 64) (q : Q (.bl true) H) : rEqD K x y H Q := eq_low rx ry la la hn hn True (by simp) q
theorem ne_lowT {K : PySem.W.Frag} {S T : List Addr} {H : Hp} {x y : V} {a : D} {n : Nat} {Q : VK} (rx : Rp S H x a) (ry : Rp T H y a) (la : Low n a) (hn : n ≤ 64) (q : Q (.bl false) H) : rNeD K x y H Q := ne_low rx ry la la hn hn True (by simp) (by simpa using q)
theorem mvT_range (mv : List (List Int)) : (List.range mv.length).map (fun i => rowT (mv.getD i [])) = mv.map rowT := by
  refine List.ext_getElem? fun i => ?_
  simp only [List.getElem?_map]
  by_cases hi : i < mv.length
  · rw [List.getElem?_range hi, List.getElem?_eq_getElem hi]
    show some (rowT (mv.getD i [])) = _
    rw [List.getD_eq_getElem?_getD, List.getElem?_eq_getElem hi]
    rfl
  · rw [List.getElem?_eq_none (by simpa using hi), List.getElem?_eq_none (by simpa using hi)]
    rfl
theorem rowD_item {S : List Addr} {H : Hp} {xs : List V} {mv : List (List Int)} (r1 : Rps S H xs (mv.map rowD)) {i : Nat} {x : V} (h : xs[i]? = some x) : ∃ r b, mv[i]? = some r ∧ x = .ref b ∧ b ∉ S ∧ H b = some (.lst (r.map V.int)) := by
  obtain ⟨dd, h1, h2⟩ := r1.item h
  rw [List.getElem?_map] at h1
  cases hr : mv[i]? with
  | none => rw [hr] at h1; cases h1
  | some r =>
    rw [hr] at h1
    cases h1
    cases h2 with
    | lst n e rs =>
      rw [rs.ints_eq] at e
      exact ⟨r, _, rfl, rfl, n, e⟩

abbrev sEnds : Stmt := top 59
abbrev sRight : Stmt := top 57
def spEnds : Sp := fun vs H Q _ => ∃ al : Str, vs = [.str al] ∧ alOk al = true ∧ al.length ≤ 1000 ∧ ∀ H', Same H H' → Q (.bl true) H'
def spRight (ad : Ad) : Sp := fun vs H Q _ => ∃ (S U : List Addr) (al : Str) (v tx : V) (x : Addr) (mv : List (List Int)) (g : List Int) (ts : List Str), vs = [.str al, v, .ref x, tx] ∧ al.length ≤ 1000 ∧ Rp S H v (.tup [mvD mv, rowD g]) ∧ RdAt ad U H x al mv g ∧ Rp S H tx (.lst (ts.map D.str)) ∧
  (∀ t ∈ ts, Over al t ∧ t.length ≤ 40) ∧ ∀ H', Same H H' → Q (.bl true) H'
section
open PyProof.Rows
variable {P : Program} {w : World} {K : PySem.W.Frag} {mg : Str → Option Value} {base : Heap} {ad : Ad}
theorem scEnds : FnScope ["alphabet", "row", "every", "none", "letter"] ["alphabet"] (C8.fnScope sEnds) := C8.fnScope_by (by decide +kernel)
theorem ok_ends {f : Addr} {fd : FuncData} (R : RdC K ad.Reader) (F : C8.Def K mg "_law_ends" sEnds f fd) (b : Binds K fd ["alphabet"] []) (T : Txt mg) (O : Own K mg ad) (st_full : StZ P w K mg base 5 ad.Reader "full" (spEnd ad [0])) (st_bare : StZ P w K mg base 5 ad.Reader "bare" (spEnd ad [])) (c_law_is_reader : C8.Cal P w K mg base 2 "_law_is_reader" (spIsRd ad) []) :
    C8.Cal P w K mg base 6 "_law_ends" spEnds [] := by
  refine C8.cal0 F b .nil scEnds (fun vs H Q E h => ?_) (fun cdv A outer s H vs Q E hr h => ?_)
  · obtain ⟨al, rfl, _⟩ := h
    rfl
  · obtain ⟨al, rfl, hok, hal, k⟩ := h
    have sc := scEnds
    refine ⟨_, -- _law_ends: 0 alphabet 1 row 2 every 3 none 4 letter

      (pss_cons (ps_set (i := 1) sc.nd rfl (Or.inl rfl) (pe_tup (pa_cons (pe_callTy (T := "tuple") (call_tupQ (K := K) rfl) (by rfl) T.tuple (by decide +kernel) (pa_cons (pe_lc (own := [("letter", 4)]) (g := gName 4) rfl sc.nd (pi_str (pv 0)) (blkOk_by (own := [("letter", 4)]) (by kernel_rfl)) (fun _ _ _ _ _ => (pg_name (i := 4) sc.nd rfl (Or.inl rfl))) (fun _ _ _ _ _ => pts_nil) (fun _ _ _ _ _ => pe_int)) pa_nil)) pa_nil)))
      (pss_cons (ps_set (i := 2) sc.nd rfl (Or.inl rfl) (pe_stZ (E := fun _ _ _ _ => False) st_full hr (by decide) (fun σ => passF σ) (pe_glob (v := .ref ad.Reader) rfl O.g_Reader rfl) (pa_cons (pv 0) pa_nil)))
      (pss_cons (ps_set (i := 3) sc.nd rfl (Or.inl rfl) (pe_stZ (E := fun _ _ _ _ => False) st_bare hr (by decide) (fun σ => passF σ) (pe_glob (v := .ref ad.Reader) rfl O.g_Reader rfl) (pa_cons (pv 0) pa_nil)))
      (pss_cons (ps_if (PW.pt (pw_or (pt_not (pt_val (C8.pe_c c_law_is_reader hr (by decide) rfl (pa_cons (pv 2) (pa_cons (pv 0) pa_nil))))) (pw_or1 (pt_not (pt_val (C8.pe_c c_law_is_reader hr (by decide) rfl (pa_cons (pv 3) (pa_cons (pv 0) pa_nil)))))))) 
        (pss_one (ps_ret pe_bl)) pss_nil)
      (pss_one (ps_ret (pe_and (pe_cmpR (op_eqD hr.units) (pe_fldK (K := K) rfl (pv 2)) (pv 1) (nomark _)) (pe_and (pe_cmpR (op_eqD hr.units) (pe_fldK (K := K) rfl (pv 2)) (pe_tup (pa_cons pe_int pa_nil)) (nomark _)) (pe_and (pe_cmpR (op_eqD hr.units) (pe_fldK (K := K) rfl (pv 3)) (pv 1) (nomark _)) (pe_one (pe_cmpR (op_eqD hr.units) (pe_fldK (K := K) rfl (pv 3)) (pe_tup pa_nil) (nomark _)))))))))))), ?_⟩
    refine ⟨_, rfl, al, rfl, fun L hL => lc_F (Xp := fun _ _ => True) (fun _ => .int 0) walk_str (fun i H x H' _ y => ⟨y.1, trivial⟩) hL (by have : al.cps.size = al.length := rfl; omega) (fun _ _ => trivial) (fun _ => rfl) (fun i x H2 hi hx s2 Kt ht => ?_) (fun ys H2 s2 hL2 hr2 => ?_)⟩
    · exact ht _ _ (fun b o h => h) (.int 0)
    · have r2 := hr2.reps
      refine ⟨L, ys, rfl, .inl ⟨SqL.of hL2, fun p hp => ?_⟩⟩
      have rp : Rp [] (upd H2 p (.tup ys)) (.ref p) (rowT (List.replicate al.length 0)) := .tup (by simp) upd_same (r2.same (Same.new hp))
      have s3 : Same H (upd H2 p (.tup ys)) := s2.trans (Same.new hp)
      clear r2 hr2
      generalize upd H2 p (.tup ys) = H3 at rp s3
      refine ⟨by show 1 ≤ sizeLine; exact szl rfl, fun q hq => ?_⟩
      have rq : Rp [] (upd H3 q (.tup [.ref p])) (.ref q) (mvT [List.replicate al.length 0]) := .tup (by simp) upd_same (.cons (rp.same (Same.new hq)) .nil)
      have s4 : Same H (upd H3 q (.tup [.ref p])) := s3.trans (Same.new hq)
      clear rp s3 s2
      generalize upd H3 q (.tup [.ref p]) = H4 at rq s4
      refine ⟨rfl, _, rfl, [], [], _, _, rfl, .str al, fun z e => by cases e; exact hal, by simp, fun al2 e _ x1 H5 _ s5 x5 => ?_, fun z => by rw [show (D.str al).alOk = true from hok] at z; cases z⟩
      cases e
      refine ⟨rfl, _, rfl, [], [], _, _, rfl, .str al, fun z e => by cases e; exact hal, by simp, fun al2 e _ x2 H6 _ s6 x6 => ?_, fun z => by rw [show (D.str al).alOk = true from hok] at z; cases z⟩
      cases e
      have x5 := x5.same s6
      have rq := rq.same (s5.trans s6)
      have s7 := s4.trans (s5.trans s6)
      clear s4 s5 s6
      refine ⟨_, rfl, _, rfl, [], x1, al, _, _, rfl, x5, hal, fun H7 s8 => ?_⟩
      refine ⟨_, rfl, iteF ⟨_, rfl, _, rfl, [], x2, al, _, _, rfl, x6.same s8, hal, fun H8 s9 => ?_⟩⟩
      refine ⟨_, rfl, iteF ?_⟩
      have x5 := x5.same (s8.trans s9)
      have x6 := x6.same (s8.trans s9)
      have rq := rq.same (s8.trans s9)
      have s7 := s7.trans (s8.trans s9)
      clear s8 s9
      obtain ⟨d1, vm1, vg1, ex1, rm1, rg1⟩ := x5.ex
      obtain ⟨d2, vm2, vg2, ex2, rm2, rg2⟩ := x6.ex
      refine ⟨_, rfl, x1, ad.Reader, d1, _, _, rfl, ex1, R.cl, R.n2, rfl, _, rfl, eq_low rm1 rq (low_mvT _) (low_mvT _) (by decide) (by decide) True (by simp) ⟨_, rfl, iteT ?_⟩⟩
      refine ⟨_, rfl, x1, ad.Reader, d1, _, _, rfl, ex1, R.cl, R.n3, rfl, by show 1 ≤ sizeLine; exact szl rfl, fun p1 hp1 => ?_⟩
      have s9 := Same.new (o := .tup [.int 0]) hp1
      refine eq_low (rg1.same s9) (.tup (S := []) (by simp) upd_same (Rps.ints [0])) (low_rowT [0]) (low_rowT [0]) (by decide) (by decide) True (by simp [rowT]) ⟨_, rfl, iteT ?_⟩
      refine ⟨_, rfl, x2, ad.Reader, d2, _, _, rfl, s9 _ _ ex2, R.cl, R.n2, rfl, _, rfl, eq_low (rm2.same s9) (rq.same s9) (low_mvT _) (low_mvT _) (by decide) (by decide) True (by simp) ⟨_, rfl, iteT ?_⟩⟩
      refine ⟨_, rfl, x2, ad.Reader, d2, _, _, rfl, s9 _ _ ex2, R.cl, R.n3, rfl, Nat.zero_le _, fun p2 hp2 => ?_⟩
      have s10 := Same.new (o := .tup []) hp2
      refine eq_low ((rg2.same s9).same s10) (.tup (S := []) (by simp) upd_same .nil) (low_rowT []) (low_rowT []) (by decide) (by decide) True (by simp [rowT]) ?_
      exact k _ (s7.trans (s9.trans s10))
theorem scRight : FnScope ["alphabet", "told", "reader", "texts", "moves", "text", "due", "room", "row"] ["alphabet", "told", "reader", "texts"] (C8.fnScope sRight) := C8.fnScope_by (by decide +kernel)
theorem ok_right {f : Addr} {fd : FuncData} (R : RdC K ad.Reader) (F : C8.Def K mg "_law_right" sRight f fd) (b : Binds K fd ["alphabet", "told", "reader", "texts"] []) (T : Txt mg) (O : Own K mg ad) (mt_len : C8.Met P w K mg base 1 ad.Reader "__len__" (spLen ad) []) (mt_room : MetZ P w K mg base 3 ad.Reader "room" (spRoom ad)) (mt_contains : MetZ P w K mg base 3 ad.Reader "__contains__" (spContains ad))
    (c_law_is_number : C8.Cal P w K mg base 1 "_law_is_number" spInteger []) (c_law_is_reader : C8.Cal P w K mg base 2 "_law_is_reader" (spIsRd ad) []) (c_law_room : C8.Cal P w K mg base 1 "_law_room" spLawRoom []) :
    C8.Cal P w K mg base 4 "_law_right" (spRight ad) [] := by
  refine C8.cal0 F b .nil scRight (fun vs H Q E h => ?_) (fun cdv A outer s H vs Q E hr h => ?_)
  · obtain ⟨S, U, al, v, tx, x, mv, g, ts, rfl, _⟩ := h
    rfl
  · obtain ⟨S, U, al, v, tx, x, mv, g, ts, rfl, hal, hv, hx, htx, hts, k⟩ := h
    have sc := scRight
    obtain ⟨t, ws, rfl, htS, ht, hws⟩ := hv.tupItem
    cases hws with
    | cons h1 hws =>
    cases hws with
    | cons h2 hws =>
    cases hws
    cases h1 with
    | lst n1 e1 r1 =>
    cases h2 with
    | lst n2 e2 r2 =>
    obtain ⟨dx, vm, vg, ex, rm, rg⟩ := hx.ex
    have M := hx.mach
    refine ⟨_, -- _law_right: 0 alphabet 1 told 2 reader 3 texts 4 moves 5 text 6 due 7 room 8 row

      (pss_cons (ps_set (i := 4) sc.nd rfl (Or.inl rfl) (pe_callTy (T := "tuple") (call_tupQ (K := K) rfl) (by rfl) T.tuple (by decide +kernel) (pa_cons (pe_lc (own := [("row", 8)]) (g := gName 8) rfl sc.nd (pi_list (pe_ix (ixQ (K := K) rfl) (pv 1) pe_int (fun _ _ => rfl))) (blkOk_by (own := [("row", 8)]) (by kernel_rfl)) (fun _ _ _ _ _ => (pg_name (i := 8) sc.nd rfl (Or.inl rfl))) (fun _ _ _ _ _ => pts_nil) (fun _ _ _ _ _ => (pe_callTy (T := "tuple") (call_tupQ (K := K) rfl) (by rfl) T.tuple (by decide +kernel) (pa_cons (pv 8) pa_nil)))) pa_nil)))
      (pss_cons (ps_if (PW.pt (pw_or (pt_not (pt_val (C8.pe_c c_law_is_reader hr (by decide) rfl (pa_cons (pv 2) (pa_cons (pv 0) pa_nil))))) (pw_or (pt_cmpR (op_neD hr.units) (pe_fldK (K := K) rfl (pv 2)) (pv 4) (nomark _)) (pw_or1 (pt_cmpR (op_neD hr.units) (pe_fldK (K := K) rfl (pv 2)) (pe_callTy (T := "tuple") (call_tupQ (K := K) rfl) (by rfl) T.tuple (by decide +kernel) (pa_cons (pe_ix (ixQ (K := K) rfl) (pv 1) pe_int (fun _ _ => rfl)) pa_nil)) (nomark _)))))) 
        (pss_one (ps_ret pe_bl)) pss_nil)
      (pss_cons (ps_if (pt_not (pt_val (C8.pe_c c_law_is_number hr (by decide) rfl (pa_cons (pe_callB (call_lenO mt_len hr (by decide)) (by rfl) T.len PySem.boot_len (pa_cons (pv 2) pa_nil)) (pa_cons (pe_callB (call_lenQ (K := K) rfl) (by rfl) T.len PySem.boot_len (pa_cons (pv 4) pa_nil)) (pa_cons (pe_callB (call_lenQ (K := K) rfl) (by rfl) T.len PySem.boot_len (pa_cons (pv 4) pa_nil)) pa_nil)))))) 
        (pss_one (ps_ret pe_bl)) pss_nil)
      (pss_cons (ps_for PassesOwn.never rfl (pi_list (pv 3)) (pg_name (i := 5) sc.nd rfl (Or.inl rfl)) 
        (pss_cons (ps_set (i := 6) sc.nd rfl (Or.inl rfl) (C8.pe_c c_law_room hr (by decide) rfl (pa_cons (pv 0) (pa_cons (pv 4) (pa_cons (pv 5) pa_nil)))))
        (pss_cons (ps_set (i := 7) sc.nd rfl (Or.inl rfl) (pe_mtZ (E := fun _ _ _ _ => False) mt_room hr (by decide) (fun σ => passF σ) (pv 2) (pa_cons (pv 5) pa_nil)))
        (pss_one (ps_if (PW.pt (pw_or (pt_not (pt_val (C8.pe_c c_law_is_number hr (by decide) rfl (pa_cons (pv 7) (pa_cons (pv 6) (pa_cons (pv 6) pa_nil)))))) (pw_or1 (pt_cmpR op_ne (pe_inZ (E := fun _ _ _ _ => False) mt_contains hr (by decide) (fun σ => passF σ) (pv 5) (pv 2)) (pe_cmpR (op_inQ (K := K) rfl) (pv 6) (pe_ix (ixQ (K := K) rfl) (pv 1) pe_int (fun _ _ => rfl)) (by rfl)) (nomark _))))) 
          (pss_one (ps_ret pe_bl)) pss_nil)))))
      (pss_one (ps_ret pe_bl)))))), ?_⟩
    have ml := M.most
    have xl := r1.len
    rw [List.length_map] at xl
    refine ⟨_, rfl, t, _, _, _, rfl, rfl, .inr (.inl (.inl ht)), rfl, ?_⟩
    refine ⟨_, rfl, ⟨_, SqL.of e1⟩, fun L hL => lc_FS (Xp := fun i x => ∃ r b, mv[i]? = some r ∧ x = .ref b ∧ b ∉ S ∧ H b = some (.lst (r.map V.int))) [] (fun i => rowT (mv.getD i [])) walk_list (fun i H2 x H3 _ y => ⟨y.1, rowD_item r1 y.2⟩) (by simp) hL (by omega) (fun H2 s2 => SqL.of (s2 _ _ e1)) (fun _ => rfl) (fun i x H2 hi hx s2 hex Kt ht2 => ?_) (fun ys H2 s2 hL2 hr2 => ?_)⟩
    · obtain ⟨r, b0, hr0, rfl, _, hb0⟩ := hx
      refine ⟨_, rfl, b0, _, rfl, .inl ⟨SqL.of (s2 _ _ hb0), fun l hl => ht2 _ _ (Same.new hl) ?_⟩⟩
      rw [List.getD_eq_getElem?_getD, hr0]
      refine .tup (fun hm => ?_) upd_same (Rps.ints r)
      obtain ⟨o, e⟩ := hex l hm
      rw [hl] at e
      cases e
    · rw [xl, mvT_range] at hr2
      refine ⟨L, ys, rfl, .inl ⟨SqL.of hL2, fun p hp => ?_⟩⟩
      have rp : Rp [] (upd H2 p (.tup ys)) (.ref p) (mvT mv) := .tup (by simp) upd_same (hr2.same (Same.new hp))
      have s3 : Same H (upd H2 p (.tup ys)) := s2.trans (Same.new hp)
      clear hr2
      generalize upd H2 p (.tup ys) = H3 at rp s3
      refine ⟨_, rfl, _, rfl, U, x, al, mv, g, rfl, hx.same s3, hal, fun H4 s4 => ⟨_, rfl, iteF ?_⟩⟩
      have rp := rp.same s4
      have s4 := s3.trans s4
      clear s3
      have ex4 := s4 _ _ ex
      have rm4 := rm.same s4
      refine ⟨_, rfl, x, ad.Reader, dx, _, _, rfl, ex4, R.cl, R.n2, rfl, _, rfl, ne_lowT rm4 rp (low_mvT _) (by decide) ⟨_, rfl, iteF ?_⟩⟩
      refine ⟨_, rfl, x, ad.Reader, dx, _, _, rfl, ex4, R.cl, R.n3, rfl, _, rfl, t, _, _, _, rfl, rfl, .inr (.inl (.inl (s4 _ _ ht))), rfl, _, _, rfl, .inl ⟨SqL.of (s4 _ _ e2), fun q hq => ?_⟩⟩
      have s5 := s4.trans (Same.new (o := .tup (g.map V.int)) hq)
      rw [r2.ints_eq]
      have rq : Rp [] (upd H4 q (.tup (g.map V.int))) (.ref q) (rowT g) := .tup (by simp) upd_same (Rps.ints g)
      have rp := rp.same (Same.new (o := .tup (g.map V.int)) hq)
      generalize upd H4 q (.tup (g.map V.int)) = H5 at s5 rq rp
      refine ne_lowT (rg.same s5) rq (low_rowT _) (by decide) ⟨_, rfl, iteF ?_⟩
      have ex5 := s5 _ _ ex
      obtain ⟨pm, ws, e3, _, hpm, hws⟩ := rp.tupItem
      cases e3
      have wl := hws.len
      rw [List.length_map] at wl
      refine ⟨_, rfl, x, dx, _, rfl, ex5, U, x, al, mv, g, rfl, hx.same s5, mv.length, rfl, by omega, ?_⟩
      have hnum : ∀ n : Int, (D.int n).inr n n = true := fun n => by rw [inr_int]; simp
      refine ⟨_, rfl, p, ws, rfl, .inr (.inl (.inl hpm)), _, rfl, p, ws, rfl, .inr (.inl (.inl hpm)), ?_⟩
      rw [show (ws.length : Int) = (mv.length : Int) by rw [wl]]
      refine ⟨[], _, .int mv.length, mv.length, mv.length, rfl, .int _, ?_⟩
      rw [hnum]
      refine ⟨_, rfl, iteF ?_⟩
      cases htx with
      | @lst xa txs _ nt et rt =>
      refine ⟨_, rfl, _, rfl, ⟨_, SqL.of (s5 _ _ et)⟩, ?_⟩
      refine for_it (walk_list (xs := txs)) (fun i σ H' => Iv (Same H5 H' ∧ ∃ b2 b3 b4, σ = [some (.str al), some (.ref t), some (.ref x), some (.ref xa), some (.ref p), b2, b3, b4, none])) (.of ⟨fun b o h => h, _, _, _, rfl⟩) (fun _ _ _ _ hp => ?_) (fun i y σ H6 H7 hi hp hy => ?_) (fun σ H6 hp => ?_)
      · obtain ⟨s6, _⟩ := hp.get
        exact SqL.of (s6 _ _ (s5 _ _ et))
      · obtain ⟨s6, b2, b3, b4, rfl⟩ := hp.get
        obtain ⟨rfl, hy⟩ := hy
        obtain ⟨dd, hd, rd⟩ := rt.item hy
        rw [List.getElem?_map] at hd
        cases hti : ts[i]? with
        | none => rw [hti] at hd; cases hd
        | some tt =>
        rw [hti] at hd
        cases hd
        cases rd
        obtain ⟨ho, hl⟩ := hts tt (List.mem_of_getElem? hti)
        have hf := over_fault ho hl
        refine ⟨_, rfl, _, rfl, _, rfl, [], .ref p, al, tt, mv, g, rfl, rp.same s6, M, ho, hal, ?_⟩
        have s7 := s5.trans s6
        refine ⟨_, rfl, x, dx, _, rfl, s7 _ _ ex, rfl, _, rfl, S, U, x, al, mv, g, _, .str tt, rfl, hx.same s7, hal, .str tt, fun z e => by cases e; omega, fun t2 e _ H8 s8 => ?_, fun i z => by rw [hf] at z; cases z⟩
        cases e
        have s9 := s7.trans s8
        refine ⟨_, rfl, _, rfl, _, rfl, [], _, .int _, _, _, rfl, .int _, ?_⟩
        rw [hnum]
        refine ⟨_, rfl, iteF ?_⟩
        refine ⟨_, rfl, _, rfl, x, dx, _, rfl, s9 _ _ ex, S, U, x, al, mv, g, _, .str tt, rfl, hx.same s9, hal, .str tt, fun z e => by cases e; omega, fun t2 e _ H10 s10 => ?_, fun i z => by rw [hf] at z; cases z⟩
        cases e
        have s11 := s9.trans s10
        have e12 := s11 _ _ e2
        rw [r2.ints_eq] at e12
        refine ⟨_, rfl, _, rfl, _, rfl, t, _, _, _, rfl, rfl, .inr (.inl (.inl (s11 _ _ ht))), rfl, _, _, rfl, .inl (SqL.of e12), rfl, flat_ints g, ?_⟩
        rw [inV_ints]
        refine ⟨rfl, _, rfl, ?_⟩
        rw [decide_eq_true (show V.bl (decide (roomF al mv tt.cps.toList ∈ g)) = V.bl (if false = true then !decide (roomF al mv tt.cps.toList ∈ g) else decide (roomF al mv tt.cps.toList ∈ g)) from rfl)]
        exact iteF (.of ⟨s6.trans (s8.trans s10), _, _, _, rfl⟩)
      · obtain ⟨s6, b2, b3, b4, rfl⟩ := hp.get
        exact k _ (s5.trans s6)
end

/-! ### _law_equal -/
/-- what == asks of things that are no readers -/
structure RdQ (K : PySem.W.Frag) (C : Addr) : Prop where
  nR : PySem.W.notFirst K C (.ref C) = true
  nT : PySem.W.notFirst K C (.type "tuple") = true
  nS : PySem.W.notFirst K C (.type "str") = true
  kT : PySem.W.kitOne K (.type "tuple") (.ref C) = some false
  kS : PySem.W.kitOne K (.type "str") (.ref C) = some false
theorem RdAt.noA {ad : Ad} {A U : List Addr} {H : Hp} {x : Addr} {al : Str} {mv : List (List Int)} {g : List Int} (r : RdAt ad U H x al mv g) (s : ∀ a ∈ A, Src H a) : x ∉ A := fun hm => by
  obtain ⟨⟨dx, vm, vg, e, _⟩, _⟩ := r
  obtain ⟨c, d, n, q⟩ := s x hm
  rw [e] at q
  cases q
theorem RdAt.go {ad : Ad} {A S : List Addr} {H H' : Hp} {x : Addr} {al : Str} {mv : List (List Int)} {g : List Int} (r : RdAt ad A H x al mv g) (W : Wd A S H) (k : Go A H H') : RdAt ad A H' x al mv g := r.keep k.keep (r.noA W.src)
/-- a place that had nothing, changed -/
theorem RdAt.put {ad : Ad} {A : List Addr} {H0 H : Hp} {x b : Addr} {o : HO} {al : Str} {mv : List (List Int)} {g : List Int} (r : RdAt ad A H0 x al mv g) (s : Go A H0 H) (W : ∀ a ∈ A, Src H0 a) (hb : H0 b = none) : RdAt ad A (upd H b o) x al mv g := by
  have hx := r.noA W
  obtain ⟨⟨dx, vm, vg, e, rm, rg⟩, M⟩ := r
  have hxb : x ≠ b := fun h => by rw [h, hb] at e; cases e
  have m : ∀ a ∈ b :: A, a ∈ A ∨ H0 a = none := fun a ha => (List.mem_cons.mp ha).elim (fun e => .inr (by rw [e]; exact hb)) .inl
  have k : Keep (b :: A) H0 (upd H b o) := (s.keep.mono fun a ha => List.mem_cons_of_mem _ ha).trans (Keep.upd (List.mem_cons_self ..))
  refine ⟨⟨dx, vm, vg, k x _ (fun hm => ?_) e, ((rm.more m).keep k).less fun _ h => List.mem_cons_of_mem _ h, ((rg.more m).keep k).less fun _ h => List.mem_cons_of_mem _ h⟩, M⟩
  rcases List.mem_cons.mp hm with h | h
  · exact hxb h
  · exact hx h
theorem bump {o d n : Int} (h0 : 0 ≤ o) (h1 : o < n) (h2 : 0 ≤ d) (h3 : d < n - 1) : 0 ≤ (o + 1 + d) % n ∧ (o + 1 + d) % n < n ∧ (o + 1 + d) % n ≠ o := by
  by_cases h : o + 1 + d < n
  · rw [Int.emod_eq_of_lt (by omega) h]
    omega
  · have e : (o + 1 + d) % n = o + 1 + d - n := by
      rw [show o + 1 + d = (o + 1 + d - n) + n by omega, Int.add_emod_right, Int.emod_eq_of_lt (by omega) (by omega)]
      omega
    rw [e]
    omega
theorem Rps.ints_any {S T : List Addr} {H H' : Hp} {vs : List V} {ns : List Int} (r : Rps S H vs (ns.map D.int)) : Rps T H' vs (ns.map D.int) := by
  rw [r.ints_eq]
  exact Rps.ints ns
/-- tuples aren't where a list is -/
theorem rowT_off {U : List Addr} {H : Hp} {b : Addr} {zs : List V} {v : V} {r : List Int} (h : Rp U H v (rowT r)) (hb : H b = some (.lst zs)) : Rp (b :: U) H v (rowT r) := by
  obtain ⟨a, xs, rfl, n, e, rs⟩ := h.tupItem
  refine .tup (fun hm => ?_) e rs.ints_any
  rcases List.mem_cons.mp hm with z | hm
  · rw [z, hb] at e; cases e
  · exact n hm
theorem mvT_off {U : List Addr} {H : Hp} {b : Addr} {zs : List V} {v : V} {mv : List (List Int)} (h : Rp U H v (mvT mv)) (hb : H b = some (.lst zs)) : Rp (b :: U) H v (mvT mv) := by
  obtain ⟨a, xs, rfl, n, e, rs⟩ := h.tupItem
  refine .tup (fun hm => ?_) e (Rps.of_get rs.len fun j y d h1 h2 => ?_)
  · rcases List.mem_cons.mp hm with z | hm
    · rw [z, hb] at e; cases e
    · exact n hm
  · obtain ⟨dd, h3, h4⟩ := rs.item h1
    rw [h2] at h3
    cases h3
    rw [List.getElem?_map] at h2
    cases hr : mv[j]? with
    | none => rw [hr] at h2; cases h2
    | some r =>
      rw [hr] at h2
      cases h2
      exact rowT_off h4 hb
/-- a list changed -/
theorem RdAt.updL {ad : Ad} {A : List Addr} {H : Hp} {x b : Addr} {zs : List V} {o : HO} {al : Str} {mv : List (List Int)} {g : List Int} (r : RdAt ad A H x al mv g) (W : ∀ a ∈ A, Src H a) (hb : H b = some (.lst zs)) : RdAt ad A (upd H b o) x al mv g := by
  have hx := r.noA W
  obtain ⟨⟨dx, vm, vg, e, rm, rg⟩, M⟩ := r
  have hxb : x ≠ b := fun h => by rw [h, hb] at e; cases e
  have k : Keep (b :: A) H (upd H b o) := Keep.upd (List.mem_cons_self ..)
  exact ⟨⟨dx, vm, vg, (upd_ne hxb).trans e, ((mvT_off rm hb).keep k).less fun _ h => List.mem_cons_of_mem _ h, ((rowT_off rg hb).keep k).less fun _ h => List.mem_cons_of_mem _ h⟩, M⟩
theorem rowT_item {S : List Addr} {H : Hp} {xs : List V} {mv : List (List Int)} (r1 : Rps S H xs (mv.map rowT)) {i : Nat} {x : V} (h : xs[i]? = some x) : ∃ r b, mv[i]? = some r ∧ x = .ref b ∧ b ∉ S ∧ H b = some (.tup (r.map V.int)) := by
  obtain ⟨dd, h1, h2⟩ := r1.item h
  rw [List.getElem?_map] at h1
  cases hr : mv[i]? with
  | none => rw [hr] at h1; cases h1
  | some r =>
    rw [hr] at h1
    cases h1
    obtain ⟨b, zs, rfl, n, e, rs⟩ := h2.tupItem
    rw [rs.ints_eq] at e
    exact ⟨r, _, rfl, rfl, n, e⟩
theorem Src.updL {A : List Addr} {H : Hp} {b : Addr} {o : HO} (W : ∀ a ∈ A, Src H a) (hb : b ∉ A) : ∀ a ∈ A, Src (upd H b o) a := fun a ha => by
  obtain ⟨x, s, c, q⟩ := W a ha
  exact ⟨x, s, c, by rw [upd_ne (fun z => hb (by rw [← z]; exact ha))]; exact q⟩
theorem Wd.updL {A S : List Addr} {H : Hp} {b : Addr} {o : HO} (W : Wd A S H) (hb : b ∉ A) : Wd A S (upd H b o) := ⟨W.sub, Src.updL W.src hb, fun a ha => by
  obtain ⟨o2, e⟩ := W.ex a ha
  by_cases h : a = b
  · subst h; exact ⟨_, upd_same⟩
  · exact ⟨o2, (upd_ne h).trans e⟩⟩
/-- moves, one changed -/
def setM (mv : List (List Int)) (r : List Int) (i j : Nat) (z : Int) : List (List Int) := mv.set i (r.set j z)
theorem setM_map {mv : List (List Int)} {r : List Int} {i j : Nat} {z : Int} : (setM mv r i j z).map rowD = (mv.map rowD).set i (.lst ((r.map D.int).set j (.int z))) := by
  unfold setM
  rw [List.map_set]
  show (mv.map rowD).set i (.lst ((r.set j z).map D.int)) = _
  rw [List.map_set]
theorem setM_mach {k : Nat} {mv : List (List Int)} {g r : List Int} {i j : Nat} {z : Int} (M : Mach k mv g) (hr : mv[i]? = some r) (h0 : 0 ≤ z) (h1 : z < (mv.length : Int)) : Mach k (setM mv r i j z) g := by
  have hl : (setM mv r i j z).length = mv.length := by unfold setM; rw [List.length_set]
  refine ⟨by rw [hl]; exact M.pos, by rw [hl]; exact M.most, fun q hq => ?_, M.asc, by rw [hl]; exact M.inn⟩
  rw [hl]
  rcases List.mem_or_eq_of_mem_set hq with hq | rfl
  · exact M.row q hq
  · have hm := M.row r (List.mem_of_getElem? hr)
    refine ⟨by rw [List.length_set]; exact hm.1, fun x hx => ?_⟩
    rcases List.mem_or_eq_of_mem_set hx with hx | rfl
    · exact hm.2 x hx
    · exact ⟨h0, h1⟩
theorem setM_ne {mv : List (List Int)} {r : List Int} {i j : Nat} {z o : Int} (hr : mv[i]? = some r) (ho : r[j]? = some o) (hz : z ≠ o) : mv ≠ setM mv r i j z := fun e => by
  have h1 : (setM mv r i j z)[i]? = some (r.set j z) := by
    unfold setM
    exact List.getElem?_set_self (List.getElem?_eq_some_iff.mp hr).1
  rw [← e, hr] at h1
  have h2 : r[j]? = (r.set j z)[j]? := congrArg (fun l => l[j]?) (Option.some.inj h1)
  rw [List.getElem?_set_self (List.getElem?_eq_some_iff.mp ho).1, ho] at h2
  exact hz (Option.some.inj h2).symm
/-- readers that are not the same as it -/
def Oths (ad : Ad) (A : List Addr) (H : Hp) (al : Str) (mv : List (List Int)) (g : List Int) (ys : List V) : Prop := ∀ y ∈ ys, ∃ (b : Addr) (al2 : Str) (mv2 : List (List Int)) (g2 : List Int), y = .ref b ∧ RdAt ad A H b al2 mv2 g2 ∧ ¬ (al = al2 ∧ mv = mv2 ∧ g = g2)
theorem ixN_at {n j : Nat} (hj : j < n) : ixN n (j : Int) = some j := by
  unfold ixN
  rw [if_pos (by omega), if_pos (by omega)]
  simp
theorem Oths.go {ad : Ad} {A S : List Addr} {H H' : Hp} {al : Str} {mv : List (List Int)} {g : List Int} {ys : List V} (h : Oths ad A H al mv g ys) (W : Wd A S H) (k : Go A H H') : Oths ad A H' al mv g ys := fun y hy => by
  obtain ⟨b, al2, mv2, g2, e, r, n⟩ := h y hy
  exact ⟨b, al2, mv2, g2, e, r.go W k, n⟩
theorem Oths.updL {ad : Ad} {A : List Addr} {H : Hp} {b : Addr} {zs : List V} {o : HO} {al : Str} {mv : List (List Int)} {g : List Int} {ys : List V} (h : Oths ad A H al mv g ys) (W : ∀ a ∈ A, Src H a) (hb : H b = some (.lst zs)) : Oths ad A (upd H b o) al mv g ys := fun y hy => by
  obtain ⟨c, al2, mv2, g2, e, r, n⟩ := h y hy
  exact ⟨c, al2, mv2, g2, e, r.updL W hb, n⟩
theorem Go.put {A S : List Addr} {H H1 : Hp} {b : Addr} {o : HO} (W : Wd A S H) (g : Go A H H1) (hb : H b = .none) : Go A H (L2.upd H1 b o) := by
  have hbA : b ∉ A := fun q => (W.fresh hb) (W.sub _ q)
  exact ⟨fun c u hc e => by
    rw [upd_ne (ne_of_none e hb)]
    exact g.keep c u hc e, fun h => Src.updL (g.src h) hbA⟩
/-- the good rooms, one turned -/
def turnG (g : List Int) (n : Nat) (at_ : Int) : List Int := ((List.range n).filter fun p => decide (((p : Nat) : Int) ∈ g) != decide (((p : Nat) : Int) = at_)).map fun p => ((p : Nat) : Int)
theorem turn_asc (g : List Int) (n : Nat) (at_ : Int) : (turnG g n at_).Pairwise (· < ·) := by
  unfold turnG
  rw [List.pairwise_map]
  refine (List.pairwise_lt_range.sublist List.filter_sublist).imp fun {a b} h => ?_
  omega
theorem turn_in (g : List Int) (n : Nat) (at_ : Int) : ∀ x ∈ turnG g n at_, 0 ≤ x ∧ x < (n : Int) := fun x hx => by
  obtain ⟨p, hp, rfl⟩ := List.mem_map.mp hx
  have := List.mem_range.mp (List.mem_filter.mp hp).1
  omega
theorem turn_ne (g : List Int) (n : Nat) (at_ : Int) (h0 : 0 ≤ at_) (h1 : at_ < (n : Int)) : g ≠ turnG g n at_ := fun e => by
  have h : at_ ∈ turnG g n at_ ↔ ¬ at_ ∈ g := by
    constructor
    · intro h
      obtain ⟨p, hp, e2⟩ := List.mem_map.mp h
      have := (List.mem_filter.mp hp).2
      subst e2
      intro hg
      simp [hg] at this
    · intro h
      refine List.mem_map.mpr ⟨at_.toNat, List.mem_filter.mpr ⟨List.mem_range.mpr (by omega), ?_⟩, by omega⟩
      have e2 : ((at_.toNat : Nat) : Int) = at_ := by omega
      simp [e2, h]
  rw [← e] at h
  by_cases hg : at_ ∈ g
  · exact h.mp hg hg
  · exact hg (h.mpr hg)
theorem turn_snoc (g : List Int) (n : Nat) (at_ : Int) : turnG g (n + 1) at_ = turnG g n at_ ++ (if (decide ((n : Int) ∈ g) != decide ((n : Int) = at_)) = true then [(n : Int)] else []) := by
  unfold turnG
  rw [List.range_succ, List.filter_append, List.map_append]
  congr 1
  by_cases h : (decide ((n : Int) ∈ g) != decide ((n : Int) = at_)) = true
  · rw [if_pos h, List.filter_cons, if_pos h]
    rfl
  · rw [if_neg h, List.filter_cons, if_neg h]
    rfl
/-- another alphabet of that length -/
def othAl (n : Nat) : Str := if n = 1 then "z" else if n = 2 then "bc" else "abd"
theorem oth_ok {al : Str} (h : IsAl al) : alOk (othAl al.length) = true ∧ (othAl al.length).length = al.length ∧ al ≠ othAl al.length ∧ alOk al = true := by
  obtain ⟨l, hl, rfl⟩ := h
  revert l
  decide +kernel
theorem oth_at {al : Str} (h : IsAl al) : atI [V.str (Str.ofString "z"), V.str (Str.ofString "bc"), V.str (Str.ofString "abd")] ((al.length : Int) - 1) = some (V.str (othAl al.length)) := by
  have := h.len
  rcases (show al.length = 1 ∨ al.length = 2 ∨ al.length = 3 by omega) with h | h | h <;> rw [h] <;> rfl
section
open PyProof.Rows
variable {P : Program} {w : World} {K : PySem.W.Frag} {mg : Str → Option Value} {base : Heap} {ad : Ad}
/-- == and != of two readers -/
theorem eqR {A B : List Addr} {H : Hp} {x y : Addr} {al al2 : Str} {mv mv2 : List (List Int)} {g g2 : List Int} {neg : Bool} {Q : VK} (R : RdC K ad.Reader) (RI : RdI K ad.Reader) (RQ : RdQ K ad.Reader) (rx : RdAt ad A H x al mv g) (ry : RdAt ad B H y al2 mv2 g2)
    (q : Q (.bl (if neg then !decide (al = al2 ∧ mv = mv2 ∧ g = g2) else decide (al = al2 ∧ mv = mv2 ∧ g = g2))) H) : rEqO K ad.Reader (spEqR K ad) neg (.ref x) (.ref y) H Q := by
  obtain ⟨dx, vm, vg, ex, _, _⟩ := rx.ex
  exact ⟨x, dx, _, _, rfl, ex, ry.ty R RI, RQ.nR, A, x, al, mv, g, _, rfl, rx, .inl ⟨B, y, al2, mv2, g2, rfl, ry, _, rfl, q⟩⟩
theorem eqR_is {A B : List Addr} {H : Hp} {x y : Addr} {al : Str} {mv : List (List Int)} {g : List Int} {neg : Bool} {Q : VK} (R : RdC K ad.Reader) (RI : RdI K ad.Reader) (RQ : RdQ K ad.Reader) (rx : RdAt ad A H x al mv g) (ry : RdAt ad B H y al mv g)
    (q : Q (.bl (!neg)) H) : rEqO K ad.Reader (spEqR K ad) neg (.ref x) (.ref y) H Q := eqR R RI RQ rx ry (by cases neg <;> simpa using q)
theorem eqR_no {A B : List Addr} {H : Hp} {x y : Addr} {al al2 : Str} {mv mv2 : List (List Int)} {g g2 : List Int} {neg : Bool} {Q : VK} (R : RdC K ad.Reader) (RI : RdI K ad.Reader) (RQ : RdQ K ad.Reader) (rx : RdAt ad A H x al mv g) (ry : RdAt ad B H y al2 mv2 g2)
    (n : ¬ (al = al2 ∧ mv = mv2 ∧ g = g2)) (q : Q (.bl neg) H) : rEqO K ad.Reader (spEqR K ad) neg (.ref x) (.ref y) H Q := eqR R RI RQ rx ry (by rw [decide_eq_false n]; cases neg <;> exact q)
end

abbrev sEqual : Stmt := top 58
def spEqual (ad : Ad) : Sp := fun vs H Q _ => ∃ (A S : List Addr) (al : Str) (v : V) (x a : Addr) (mv : List (List Int)) (g : List Int), vs = [.str al, v, .ref x, .ref a] ∧ a ∈ A ∧ Wd A S H ∧ IsAl al ∧ Rp S H v (.tup [mvD mv, rowD g]) ∧ RdAt ad A H x al mv g ∧
  ∀ H', Go A H H' → Q (.bl true) H'
section
open PyProof.Rows
variable {P : Program} {w : World} {K : PySem.W.Frag} {mg : Str → Option Value} {base : Heap} {ad : Ad}
/-- the walk over the others, and what is behind it -/
theorem equal_tail {A : List Addr} {H1 : Hp} {al : Str} {t x a p ga m0 lo : Addr} {mv : List (List Int)} {g : List Int} {ys : List V} {Q : VK} {b5 b6 b7 b8 b10 b11 b12 b13 b14 : Option V} (R : RdC K ad.Reader) (RI : RdI K ad.Reader) (RQ : RdQ K ad.Reader)
    (ht : H1 t = some (.tup [.ref m0, .ref ga])) (hg : H1 ga = some (.lst (g.map V.int))) (hl : H1 lo = some (.lst ys)) (ho : Oths ad A H1 al mv g ys) (hx : RdAt ad A H1 x al mv g) (k : ∀ H', Same H1 H' → Q (.bl true) H') :
    tSeq (tFor (iList K (tVar 9)) (gName 12) (tIfS (tOr (tTest (tOp (rEqO K ad.Reader (spEqR K ad) false) (tVar 2) (tVar 12))) (tOr (tTest (tOp (rEqO K ad.Reader (spEqR K ad) false) (tVar 12) (tVar 2))) (tNot (tTest (tOp (rEqO K ad.Reader (spEqR K ad) true) (tVar 2) (tVar 12)))))) (tRet (tC (V.bl false))) tNext))
      (tRet (tAndV (tNotV (tOp (rEqO K ad.Reader (spEqR K ad) false) (tVar 2) (tTup (tCons (tVar 0) (tCons (tVar 4) (tCons (tCB (rTupQ K) (tCons (tOp (rIxQ K) (tVar 1) (tC (V.int 1))) tNil)) tNil)))))) (tNotV (tOp (rEqO K ad.Reader (spEqR K ad) false) (tVar 2) (tVar 0)))))
      { nx := fun _ H' => Q V.non H', rt := Q } [some (.str al), some (.ref t), some (.ref x), some (.ref a), some (.ref p), b5, b6, b7, b8, some (.ref lo), b10, b11, b12, b13, b14] H1 := by
  obtain ⟨dx, vm, vg, ex, _, _⟩ := hx.ex
  refine ⟨_, rfl, _, rfl, ⟨_, SqL.of hl⟩, ?_⟩
  refine for_it (walk_list (xs := ys)) (fun i σ H' => Iv (H' = H1 ∧ ∃ c, σ = [some (.str al), some (.ref t), some (.ref x), some (.ref a), some (.ref p), b5, b6, b7, b8, some (.ref lo), b10, b11, c, b13, b14])) (.of ⟨rfl, _, rfl⟩) (fun _ _ _ _ hp => ?_) (fun i y σ H2 H3 hi hp hy => ?_) (fun σ H2 hp => ?_)
  · obtain ⟨rfl, _⟩ := hp.get
    exact SqL.of hl
  · obtain ⟨rfl, c, rfl⟩ := hp.get
    obtain ⟨rfl, hy⟩ := hy
    obtain ⟨b, al2, mv2, g2, rfl, rb, n⟩ := ho y (List.mem_of_getElem? hy)
    refine ⟨_, rfl, _, rfl, eqR_no R RI RQ hx rb n ⟨_, rfl, iteF ?_⟩⟩
    refine ⟨_, rfl, _, rfl, eqR_no R RI RQ rb hx (fun z => n ⟨z.1.symm, z.2.1.symm, z.2.2.symm⟩) ⟨_, rfl, iteF ?_⟩⟩
    refine ⟨_, rfl, _, rfl, eqR_no R RI RQ hx rb n ⟨_, rfl, iteF ?_⟩⟩
    exact .of ⟨rfl, _, rfl⟩
  · obtain ⟨rfl, c, rfl⟩ := hp.get
    refine ⟨_, rfl, _, rfl, _, rfl, _, rfl, t, _, _, _, rfl, rfl, .inr (.inl (.inl ht)), rfl, _, _, rfl, .inl ⟨SqL.of hg, fun q hq => ⟨by show 3 ≤ sizeLine; exact szl rfl, fun q2 hq2 => ?_⟩⟩⟩
    have s1 := (Same.new (o := .tup (g.map V.int)) hq).trans (Same.new (o := .tup [.str al, .ref p, .ref q]) hq2)
    have e2 : upd (upd H2 q (.tup (g.map V.int))) q2 (.tup [.str al, .ref p, .ref q]) q2 = some (.tup [.str al, .ref p, .ref q]) := upd_same
    generalize upd (upd H2 q (.tup (g.map V.int))) q2 (.tup [.str al, .ref p, .ref q]) = H4 at s1 e2
    refine ⟨x, dx, _, _, rfl, s1 _ _ ex, .base (.tup e2), RQ.nT, A, x, al, mv, g, _, rfl, hx.same s1, .inr ⟨_, .base (.tup e2), RQ.kT, _, rfl, _, rfl, _, rfl, iteT ?_⟩⟩
    refine ⟨_, rfl, _, rfl, x, dx, _, _, rfl, s1 _ _ ex, .base (.str al), RQ.nS, A, x, al, mv, g, _, rfl, hx.same s1, .inr ⟨_, .base (.str al), RQ.kS, _, rfl, _, rfl, k _ s1⟩⟩
theorem scEqual : FnScope ["alphabet", "told", "reader", "source", "moves", "size", "again", "at", "turned", "others", "rows", "t", "other", "row", "p"] ["alphabet", "told", "reader", "source"] (C8.fnScope sEqual) := C8.fnScope_by (by decide +kernel)
theorem ok_equal {f : Addr} {fd : FuncData} (R : RdC K ad.Reader) (RI : RdI K ad.Reader) (RQ : RdQ K ad.Reader) (ne_c : NeC K ad.Reader) (F : C8.Def K mg "_law_equal" sEqual f fd) (b : Binds K fd ["alphabet", "told", "reader", "source"] []) (T : Txt mg) (O : Own K mg ad) (mt_eq : C8.Met P w K mg base 1 ad.Reader "__eq__" (spEqR K ad) []) (m_Reader : MakZ P w K mg base 3 "Reader" ad.Reader (spInit K ad)) (c_law_pick : C8.Cal P w K mg base 1 "_law_pick" spPick []) :
    C8.Cal P w K mg base 5 "_law_equal" (spEqual ad) [] := by
  refine C8.cal0 F b .nil scEqual (fun vs H Q E h => ?_) (fun cdv A0 outer s H vs Q E hr h => ?_)
  · obtain ⟨A, S, al, v, x, a, mv, g, rfl, _⟩ := h
    rfl
  · obtain ⟨A, S, al, v, x, a, mv, g, rfl, hm, W, hal, hv, hx, k⟩ := h
    have sc := scEqual
    obtain ⟨t, ws, rfl, htS, ht, hws⟩ := hv.tupItem
    cases hws with
    | cons h1 hws =>
    cases hws with
    | cons h2 hws =>
    cases hws
    cases h1 with
    | lst n1 e1 r1 =>
    cases h2 with
    | @lst ga gs _ n2 e2 r2 =>
    cases r2.ints_eq
    have M := hx.mach
    have ml := M.most
    have mp := M.pos
    have xl := r1.len
    have all := hal.len
    have AO := oth_ok hal
    rw [List.length_map] at xl
    refine ⟨_, -- _law_equal: 0 alphabet 1 told* 2 reader 3 source 4 moves 5 size 6 again 7 at* 8 turned 9 others 10 rows 11 t 12 other 13 row 14 p

      (pss_cons (ps_set (i := 4) sc.nd rfl (Or.inl rfl) (pe_callTy (T := "tuple") (call_tupQ (K := K) rfl) (by rfl) T.tuple (by decide +kernel) (pa_cons (pe_lc (own := [("row", 13)]) (g := gName 13) rfl sc.nd (pi_list (pe_ix (ixQ (K := K) rfl) (pv 1) pe_int (fun _ _ => rfl))) (blkOk_by (own := [("row", 13)]) (by kernel_rfl)) (fun _ _ _ _ _ => (pg_name (i := 13) sc.nd rfl (Or.inl rfl))) (fun _ _ _ _ _ => pts_nil) (fun _ _ _ _ _ => (pe_callTy (T := "tuple") (call_tupQ (K := K) rfl) (by rfl) T.tuple (by decide +kernel) (pa_cons (pv 13) pa_nil)))) pa_nil)))
      (pss_cons (ps_set (i := 5) sc.nd rfl (Or.inl rfl) (pe_callB (call_lenQ (K := K) rfl) (by rfl) T.len PySem.boot_len (pa_cons (pv 4) pa_nil)))
      (pss_cons (ps_set (i := 6) sc.nd rfl (Or.inl rfl) (pe_makeZ (E := fun _ _ _ _ => False) m_Reader hr (by decide) rfl (fun σ => passF σ) (pa_cons (pv 0) (pa_cons (pv 4) (pa_cons (pe_callTy (T := "tuple") (call_tupQ (K := K) rfl) (by rfl) T.tuple (by decide +kernel) (pa_cons (pe_ix (ixQ (K := K) rfl) (pv 1) pe_int (fun _ _ => rfl)) pa_nil)) pa_nil)))))
      (pss_cons (ps_if (PW.pt (pw_or (pt_not (pt_cmpR (op_eqO mt_eq hr (by decide)) (pv 2) (pv 6) (nomark _))) (pw_or (pt_cmpR (op_neO ne_c mt_eq hr (by decide)) (pv 2) (pv 6) (nomark _)) (pw_or1 (pt_not (pt_cmpR (op_eqO mt_eq hr (by decide)) (pv 6) (pv 2) (nomark _))))))) 
        (pss_one (ps_ret pe_bl)) pss_nil)
      (pss_cons (ps_set (i := 7) sc.nd rfl (Or.inr rfl) (C8.pe_c c_law_pick hr (by decide) rfl (pa_cons (pv 3) (pa_cons (pv 5) pa_nil))))
      (pss_cons (ps_setLc (i := 8) (own := [("p", 14)]) (g := gName 14) rfl sc.nd rfl rfl (sw_true rfl rfl rfl (by decide +kernel)) (pi_range1 (by rfl) T.range (pa_cons (pv 5) pa_nil)) (blkOk_by (own := [("p", 14)]) (by kernel_rfl)) (fun _ _ _ _ _ => (pg_name (i := 14) sc.nd rfl (Or.inl rfl))) (fun _ _ _ _ _ => (pts_one (pt_cmpR op_ne (pe_cmpR (op_inQ (K := K) rfl) (pv 14) (pe_ix (ixQ (K := K) rfl) (pv 1) pe_int (fun _ _ => rfl)) (by rfl)) (pe_cmpR op_eq (pv 14) (pv 7) (nomark _)) (nomark _)))) (fun _ _ _ _ _ => (pv 14)))
      (pss_cons (ps_set (i := 9) sc.nd rfl (Or.inl rfl) (pe_lst (pa_cons (pe_makeZ (E := fun _ _ _ _ => False) m_Reader hr (by decide) rfl (fun σ => passF σ) (pa_cons (pv 0) (pa_cons (pv 4) (pa_cons (pv 8) pa_nil)))) (pa_cons (pe_makeZ (E := fun _ _ _ _ => False) m_Reader hr (by decide) rfl (fun σ => passF σ) (pa_cons (pe_ix ix_list (pe_lst (pa_cons pe_str (pa_cons pe_str (pa_cons pe_str pa_nil)))) (pe_op op_sub (pe_callB call_len_str (by rfl) T.len PySem.boot_len (pa_cons (pv 0) pa_nil)) pe_int) (fun _ _ => rfl)) (pa_cons (pv 4) (pa_cons (pe_ix (ixQ (K := K) rfl) (pv 1) pe_int (fun _ _ => rfl)) pa_nil)))) pa_nil))))
      (pss_cons (ps_if (pt_cmpR op_gt (pv 5) pe_int (nomark _)) 
        (pss_cons (ps_setLc (i := 10) (own := [("row", 13)]) (g := gName 13) rfl sc.nd rfl rfl (sw_true rfl rfl rfl (by decide +kernel)) (pi_seqH (pv 4)) (blkOk_by (own := [("row", 13)]) (by kernel_rfl)) (fun _ _ _ _ _ => (pg_name (i := 13) sc.nd rfl (Or.inl rfl))) (fun _ _ _ _ _ => pts_nil) (fun _ _ _ _ _ => (pe_callTy (T := "list") (call_lstQ (K := K) rfl) (by rfl) T.list (by decide +kernel) (pa_cons (pv 13) pa_nil))))
        (pss_cons (ps_set (i := 11) sc.nd rfl (Or.inl rfl) (C8.pe_c c_law_pick hr (by decide) rfl (pa_cons (pv 3) (pa_cons (pe_callB call_len_str (by rfl) T.len PySem.boot_len (pa_cons (pv 0) pa_nil)) pa_nil))))
        (pss_cons (ps_asg (pe_op op_mod (pe_callTy (T := "int") call_int1 (by rfl) T.int (by decide +kernel) (pa_cons (pe_op op_add (pe_op op_add (pe_ix ix_list (pe_ix ix_list (pv 10) (pv 7) (fun _ _ => rfl)) (pv 11) (fun _ _ => rfl)) pe_int) (C8.pe_c c_law_pick hr (by decide) rfl (pa_cons (pv 3) (pa_cons (pe_op op_sub (pv 5) pe_int) pa_nil)))) pa_nil)) (pv 5)) (pg_sub (pe_ix ix_list (pv 10) (pv 7) (fun _ _ => rfl)) (pv 11) set_list))
        (pss_one (ps_expr (pe_append (K := K) rfl (pv 9) (pa_cons (pe_makeZ (E := fun _ _ _ _ => False) m_Reader hr (by decide) rfl (fun σ => passF σ) (pa_cons (pv 0) (pa_cons (pv 10) (pa_cons (pe_ix (ixQ (K := K) rfl) (pv 1) pe_int (fun _ _ => rfl)) pa_nil)))) pa_nil))))))) pss_nil)
      (pss_cons (ps_for PassesOwn.never rfl (pi_list (pv 9)) (pg_name (i := 12) sc.nd rfl (Or.inl rfl)) 
        (pss_one (ps_if (PW.pt (pw_or (pt_cmpR (op_eqO mt_eq hr (by decide)) (pv 2) (pv 12) (nomark _)) (pw_or (pt_cmpR (op_eqO mt_eq hr (by decide)) (pv 12) (pv 2) (nomark _)) (pw_or1 (pt_not (pt_cmpR (op_neO ne_c mt_eq hr (by decide)) (pv 2) (pv 12) (nomark _))))))) 
          (pss_one (ps_ret pe_bl)) pss_nil)))
      (pss_one (ps_ret (pe_and (pe_not (pe_cmpR (op_eqO mt_eq hr (by decide)) (pv 2) (pe_tup (pa_cons (pv 0) (pa_cons (pv 4) (pa_cons (pe_callTy (T := "tuple") (call_tupQ (K := K) rfl) (by rfl) T.tuple (by decide +kernel) (pa_cons (pe_ix (ixQ (K := K) rfl) (pv 1) pe_int (fun _ _ => rfl)) pa_nil)) pa_nil)))) (nomark _))) (pe_one (pe_not (pe_cmpR (op_eqO mt_eq hr (by decide)) (pv 2) (pv 0) (nomark _)))))))))))))))), ?_⟩
    refine ⟨_, rfl, t, _, _, _, rfl, rfl, .inr (.inl (.inl ht)), rfl, ?_⟩
    refine ⟨_, rfl, ⟨_, SqL.of e1⟩, fun L hL => lc_FS (Xp := fun i x => ∃ r b, mv[i]? = some r ∧ x = .ref b ∧ b ∉ S ∧ H b = some (.lst (r.map V.int))) S (fun i => rowT (mv.getD i [])) walk_list (fun i H2 x H3 _ y => ⟨y.1, rowD_item r1 y.2⟩) W.ex hL (by omega) (fun H2 s2 => SqL.of (s2 _ _ e1)) (fun _ => rfl) (fun i x H2 hi hx s2 hex Kt ht2 => ?_) (fun ys H2 s2 hL2 hr2 => ?_)⟩
    · obtain ⟨r, b0, hr0, rfl, _, hb0⟩ := hx
      refine ⟨_, rfl, b0, _, rfl, .inl ⟨SqL.of (s2 _ _ hb0), fun l hl => ht2 _ _ (Same.new hl) ?_⟩⟩
      rw [List.getD_eq_getElem?_getD, hr0]
      refine .tup (fun hm => ?_) upd_same (Rps.ints r)
      obtain ⟨o, e⟩ := hex l hm
      rw [hl] at e
      cases e
    · rw [xl, mvT_range] at hr2
      refine ⟨L, ys, rfl, .inl ⟨SqL.of hL2, fun p hp => ?_⟩⟩
      have rp : Rp S (upd H2 p (.tup ys)) (.ref p) (mvT mv) := .tup ((W.go (Go.same s2)).fresh hp) upd_same (hr2.same (Same.new hp))
      have s3 : Same H (upd H2 p (.tup ys)) := s2.trans (Same.new hp)
      clear hr2
      generalize upd H2 p (.tup ys) = H3 at rp s3
      obtain ⟨pm, ms, e3, _, hpm, hms⟩ := rp.tupItem
      cases e3
      have wl := hms.len
      rw [List.length_map] at wl
      have W3 := W.go (Go.same s3)
      refine ⟨_, rfl, p, ms, rfl, .inr (.inl (.inl hpm)), ?_⟩
      refine ⟨_, rfl, _, rfl, _, rfl, t, _, _, _, rfl, rfl, .inr (.inl (.inl (s3 _ _ ht))), rfl, _, _, rfl, .inl ⟨SqL.of (s3 _ _ e2), fun q hq => ?_⟩⟩
      have s4 := s3.trans (Same.new (o := .tup (g.map V.int)) hq)
      have rq : Rp S (upd H3 q (.tup (g.map V.int))) (.ref q) (rowT g) := .tup (W3.fresh hq) upd_same (Rps.ints g)
      have rp := rp.same (Same.new (o := .tup (g.map V.int)) hq)
      have hpm := (Same.new (o := .tup (g.map V.int)) hq) _ _ hpm
      generalize upd H3 q (.tup (g.map V.int)) = H4 at s4 rq rp hpm
      clear s3 W3 s2 hL2
      have W4 := W.go (Go.same s4)
      have hx4 := hx.same s4
      have lst : ∀ {H' : Hp}, (∀ a ∈ A, Src H' a) → ∀ a ∈ A, ∃ xs, H' a = some (.lst xs) := fun h a ha => by
        obtain ⟨c, d, n, q⟩ := h a ha
        exact ⟨_, q⟩
      have mvo : MvOf (mvT mv) mv := ⟨mv.map rowT, rfl, by rw [List.map_map]; rfl⟩
      intro x2 d2 hx2 hd2 hne2
      refine init_good (.str (S := S) al) rp rq rfl AO.2.2.2 (by omega) mvo rfl M (lst W4.src) hx2 hd2 hne2 (fun H5 s5 x5 => ⟨rfl, ?_⟩)
      have x5x := hx4.same s5
      refine ⟨_, rfl, _, rfl, eqR_is R RI RQ x5x x5 ⟨_, rfl, iteF ?_⟩⟩
      refine ⟨_, rfl, _, rfl, eqR_is R RI RQ x5x x5 ⟨_, rfl, iteF ?_⟩⟩
      refine ⟨_, rfl, _, rfl, eqR_is R RI RQ x5 x5x ⟨_, rfl, iteF ?_⟩⟩
      have s5' := s4.trans s5
      have W5 := W4.go (Go.same s5)
      refine ⟨_, rfl, _, rfl, A, a, _, rfl, hm, W5.src, by omega, by omega, fun at_ H6 ha0 ha1 g6 => ?_⟩
      rw [wl] at ha1
      have W6 := W5.go g6
      have x6 := x5.go W5 g6
      have g6' := (Go.same s5').trans g6
      have ht6 := g6'.keep _ _ (fun q => htS (W.sub _ q)) ht
      have e6 := g6'.keep _ _ (fun q => n2 (W.sub _ q)) e2
      have rp6 : Rp S H6 (.ref p) (mvT mv) := (rp.same s5).go W5 g6
      have hpm5 := s5 _ _ hpm
      have hpA : p ∉ A := fun hm => by obtain ⟨c, d, n, z⟩ := W5.src p hm; rw [hpm5] at z; cases z
      have hpm6 := g6.keep _ _ hpA hpm5
      clear x5x hx2 hd2 hne2 hq hpm rp hpm5 rq
      refine ⟨_, rfl, (ms.length : Int), rfl, ?_, ?_, fun L1 hL1 => lc_D (A := A) (S := S) (j := 14) (Xp := fun i x => x = .int (0 + (i : Int))) (fun i ds => ds = (turnG g i at_).map D.int)
        (walk_range (lo := 0)) (fun i H x H' _ y => ⟨y.1, y.2⟩) W6 hL1 (show (ms.length : Int).toNat ≤ 100000 by omega) (fun _ _ => trivial) rfl (fun i ds h => ?_) (fun _ => rfl) (fun i ds x7 H7 hi h hx7 W7 k7 Kt Kf ht7 hf7 => ?_) (fun ys1 ds1 H7 h7 g7 hL7 hr7 => ?_)⟩
      · omega
      · omega
      · rw [h, List.length_map]
        exact asc_le (lo := 0) (turn_asc g i at_) (fun x hx => by have := turn_in g i at_ x hx; omega)
      · subst hx7
        subst h
        have hk7 : ∀ {b : Addr} {o : HO}, b ∉ A → H6 b = some o → H7 b = some o := fun {b o} hb e => k7 _ _ (fun hm => by
          rcases List.mem_cons.mp hm with e2 | hm
          · rw [← e2, e] at hL1; cases hL1
          · exact hb hm) e
        refine ⟨_, rfl, _, rfl, t, _, _, _, rfl, rfl, .inr (.inl (.inl (hk7 (fun q => htS (W.sub _ q)) ht6))), rfl, ga, _, rfl, .inl (SqL.of (hk7 (fun q => n2 (W.sub _ q)) e6)), rfl, flat_ints g, ?_⟩
        refine ⟨_, rfl, _, rfl, rfl, ?_⟩
        rw [inV_ints]
        refine ⟨rfl, ?_⟩
        have e7 : (!decide (V.bl (if false = true then !decide ((0 + (i : Int)) ∈ g) else decide ((0 + (i : Int)) ∈ g)) = V.bl (decide (V.int (0 + (i : Int)) = V.int at_)))) = (decide ((i : Int) ∈ g) != decide ((i : Int) = at_)) := by
          rw [show (0 + (i : Int)) = (i : Int) by omega]
          by_cases h1 : (i : Int) ∈ g <;> by_cases h2 : (i : Int) = at_ <;> simp [h1, h2]
        rw [e7]
        refine ⟨_, rfl, ?_⟩
        have hs := turn_snoc g i at_
        cases hc : (decide ((i : Int) ∈ g) != decide ((i : Int) = at_)) with
        | false =>
          rw [hc] at hs
          refine iteF (hf7 _ (Go.refl _ _) ?_)
          rw [hs]
          simp
        | true =>
          rw [hc] at hs
          refine iteT ⟨_, rfl, ht7 _ (.int (0 + (i : Int))) _ (Go.refl _ _) (.int _) ?_⟩
          rw [hs]
          simp
      · have h7 : ds1 = (turnG g mv.length at_).map D.int := by
          rw [h7, show (ms.length : Int).toNat = mv.length by omega]
        subst h7
        have W7 := W6.go g7
        have hpm7 := g7.keep _ _ hpA hpm6
        have x7 := x6.go W6 g7
        have hx7 := (hx4.same s5).go W5 (g6.trans g7)
        have g7' := g6'.trans g7
        have rt7 : Rp S H7 (.ref L1) (.lst ((turnG g mv.length at_).map D.int)) := .lst (W6.fresh hL1) hL7 (hr7.less fun _ h => List.mem_cons_of_mem _ h)
        have rp7 : Rp S H7 (.ref p) (mvT mv) := rp6.go W6 g7
        have M7 : Mach al.length mv (turnG g mv.length at_) := ⟨M.pos, M.most, M.row, turn_asc _ _ _, turn_in _ _ _⟩
        refine ⟨_, rfl, _, rfl, _, rfl, fun x3 d3 hx3 hd3 hne3 => ?_⟩
        refine init_good (S := S) (.str al) rp7 rt7 rfl AO.2.2.2 (by omega) mvo rfl M7 (lst W7.src) hx3 hd3 hne3 (fun H8 s8 x8 => ⟨rfl, ?_⟩)
        have W8 := W7.go (Go.same s8)
        have rp8 := rp7.same s8
        have g8' := g7'.trans (Go.same s8)
        have xx8 := x7.same s8
        have hx8 := hx7.same s8
        have hpm8 := s8 _ _ hpm7
        clear x7 hx7 rt7 hL7 hr7 hx3 hd3 hne3 rp7
        refine ⟨by show 3 ≤ sizeLine; exact szl rfl, fun l hl => ?_⟩
        refine ⟨_, rfl, al, rfl, Nat.le_trans (show al.length ≤ 3 by omega) (szl rfl), _, _, rfl, rfl, l, _, _, .str (othAl al.length), rfl, rfl, SqL.of upd_same, ?_, ?_⟩
        · exact oth_at hal
        have s9 : Same H8 (upd H8 l (.lst [.str (Str.ofString "z"), .str (Str.ofString "bc"), .str (Str.ofString "abd")])) := Same.new hl
        generalize upd H8 l (.lst [.str (Str.ofString "z"), .str (Str.ofString "bc"), .str (Str.ofString "abd")]) = H9 at s9
        have g9' := g8'.trans (Go.same s9)
        have W9 := W8.go (Go.same s9)
        have ht9 := g9'.keep _ _ (fun q => htS (W.sub _ q)) ht
        have e9 := g9'.keep _ _ (fun q => n2 (W.sub _ q)) e2
        have rg9 : Rp S H9 (.ref ga) (rowD g) := .lst n2 e9 (Rps.ints g)
        have M9 : Mach (othAl al.length).length mv g := by rw [AO.2.1]; exact M
        refine ⟨_, rfl, _, rfl, t, _, _, _, rfl, rfl, .inr (.inl (.inl ht9)), rfl, fun x4 d4 hx4 hd4 hne4 => ?_⟩
        refine init_good (S := S) (.str (othAl al.length)) (rp8.same s9) rg9 rfl AO.1 (by rw [AO.2.1]; omega) mvo rfl M9 (lst W9.src) hx4 hd4 hne4 (fun H10 s10 x10 => ⟨rfl, by show 2 ≤ sizeLine; exact szl rfl, fun lo hlo => ?_⟩)
        have s11 : Same H10 (upd H10 lo (.lst [.ref x3, .ref x4])) := Same.new hlo
        have hlo11 : upd H10 lo (.lst [.ref x3, .ref x4]) lo = some (.lst [.ref x3, .ref x4]) := upd_same
        have s12 : Same H8 (upd H10 lo (.lst [.ref x3, .ref x4])) := s9.trans (s10.trans s11)
        have x11 := x10.same s11
        generalize upd H10 lo (.lst [.ref x3, .ref x4]) = H11 at s11 s12 hlo11 x11
        have W11 := W8.go (Go.same s12)
        have g11' := g8'.trans (Go.same s12)
        have xx11 := xx8.same s12
        have x3_11 := x8.same s12
        have rp11 := rp8.same s12
        have hpm11 := s12 _ _ hpm8
        have ot : Oths ad A H11 al mv g [.ref x3, .ref x4] := fun y hy => by
          rcases List.mem_cons.mp hy with rfl | hy
          · exact ⟨x3, al, mv, _, rfl, x3_11, fun z => turn_ne g mv.length at_ ha0 ha1 z.2.2⟩
          · rw [List.mem_singleton.mp hy]
            exact ⟨x4, _, mv, g, rfl, x11, fun z => AO.2.2.1 z.1⟩
        have hloS : lo ∉ S := fun hm => by
          obtain ⟨o, z⟩ := (W9.go (Go.same s10)).ex lo hm
          rw [hlo] at z; cases z
        have hx11 := hx8.same s12
        have hlo0 : H lo = none := Go.none W (g8'.trans (Go.same (s9.trans s10))) hlo
        clear s12 s11 x10 s10 s9 hx4 hd4 hne4 hlo hl rg9 x11 x3_11 xx8 rp8 hpm8 g8' g9' W9 ht9 e9 M9
        have ht11 := g11'.keep _ _ (fun q => htS (W.sub _ q)) ht
        have e11 := g11'.keep _ _ (fun q => n2 (W.sub _ q)) e2
        refine ⟨_, rfl, _, _, rfl, rfl, _, rfl, ?_⟩
        refine ite2 (fun hsz => ?_) (fun _ => ?_)
        · obtain ⟨pm, _, e0, npS, hpm12, rms⟩ := rp11.tupItem
          cases e0
          cases hpm11.symm.trans hpm12
          obtain ⟨ai, rfl⟩ := Int.eq_ofNat_of_zero_le ha0
          have hai : ai < mv.length := by omega
          have hsz : (1 : Int) < (ms.length : Int) := of_decide_eq_true hsz
          have hA : ∀ a ∈ A, ∃ o, H11 a = some o := fun a ha => W11.ex a (W11.sub a ha)
          have htA : t ∉ A := fun q => htS (W.sub _ q)
          have hgA : ga ∉ A := fun q => n2 (W.sub _ q)
          have hloA : lo ∉ A := fun q => hloS (W.sub _ q)
          refine ⟨_, rfl, p, ms, rfl, .inr hpm11, fun J G w hG Lr hLr => lc_G (A := A) (S := S) (j := 13) (Xp := fun i x => ∃ r b, mv[i]? = some r ∧ x = .ref b ∧ b ∉ S ∧ H11 b = some (.tup (r.map V.int))) (fun i ys H => Cps H11 H Lr mv i ys)
            w (fun i H x H' _ y => ⟨y.1, rowT_item rms y.2⟩) W11 hLr (by omega) (fun H2 k2 => hG H2 ((k2 p _ (fun hm => (List.mem_cons.mp hm).elim (fun e => by rw [← e, hpm11] at hLr; cases hLr) (fun hm => npS (W.sub _ hm))) hpm11).trans hpm11.symm)) (fun _ => Cps.zero) (fun i ys H h => Nat.le_of_eq h.len) (fun i ys H2 H3 k2 h => h.keep hA k2) (fun _ => rfl)
            (fun i ys2 y H2 hi h hy W2 k2 Kt Kf ht2 hf2 => ?_) (fun ys2 H12 h12 g12 hL12 W12 => ?_)⟩
          · obtain ⟨r, b0, hr0, rfl, hbS, hb0⟩ := hy
            have hb2 := k2 _ _ (fun hm => by
              rcases List.mem_cons.mp hm with e | hm
              · rw [← e, hb0] at hLr; cases hLr
              · exact hbS (W.sub _ hm)) hb0
            refine yes_go ⟨_, rfl, b0, _, rfl, .inr (.inl (.inl hb2)), fun l hl => ht2 _ _ (Go.new hl) ?_⟩
            have hl11 : H11 l = none := by
              cases e : H11 l with
              | none => rfl
              | some o =>
                by_cases hlA : l ∈ A
                · obtain ⟨c, d, n, z⟩ := W2.src l hlA
                  rw [hl] at z; cases z
                · have := k2 l o (fun hm => by
                    rcases List.mem_cons.mp hm with e3 | hm
                    · rw [e3, hLr] at e; cases e
                    · exact hlA hm) e
                  rw [hl] at this; cases this
            refine h.step hr0 hl hl11 (fun e => ?_)
            obtain ⟨o, z⟩ := W2.ex Lr (List.mem_cons_self ..)
            rw [← e, hl] at z; cases z
          · rw [wl] at h12
            obtain ⟨r, hr⟩ : ∃ r, mv[ai]? = some r := ⟨_, List.getElem?_eq_getElem hai⟩
            have hrow := M.row r (List.mem_of_getElem? hr)
            have h12d := h12.data W11
            obtain ⟨b, hyb, hb11, hbL, hbS, hb, hoth⟩ := h12.row W11 hr
            have hbA : b ∉ A := fun q => hbS (W.sub _ q)
            have W12' := W11.go g12
            have LrA : Lr ∉ A := fun q => (W11.fresh hLr) (W.sub _ q)
            refine ⟨_, rfl, _, rfl, al, rfl, Nat.le_trans (show al.length ≤ 3 by omega) (szl rfl), A, a, _, rfl, hm, W12'.src, by omega, by omega, fun tt H13 ht0 ht1 g13 => ?_⟩
            obtain ⟨ti, rfl⟩ := Int.eq_ofNat_of_zero_le ht0
            have hti : ti < r.length := by rw [hrow.1]; omega
            obtain ⟨od, hod⟩ : ∃ od, r[ti]? = some od := ⟨_, List.getElem?_eq_getElem hti⟩
            have hodr := hrow.2 od (List.mem_of_getElem? hod)
            have W13 := W12'.go g13
            have hL13 := g13.keep _ _ LrA hL12
            have hb13 := g13.keep _ _ hbA hb
            refine ⟨_, rfl, _, rfl, Lr, _, _, _, rfl, rfl, SqL.of hL13, atI_nat hyb, _, rfl, b, _, _, .int od, rfl, rfl, SqL.of hb13, atI_nat (by rw [List.getElem?_map, hod]; rfl), _, _, rfl, rfl, ?_⟩
            refine ⟨_, rfl, _, rfl, _, _, rfl, rfl, A, a, _, rfl, hm, W13.src, by omega, by omega, fun z H14 hz0 hz1 g14 => ?_⟩
            have W14 := W13.go g14
            have g14' := g13.trans g14
            have hL14 := g14.keep _ _ LrA hL13
            have hb14 := g14.keep _ _ hbA hb13
            have bp := bump hodr.1 (show od < (ms.length : Int) by omega) hz0 hz1
            refine ⟨_, _, rfl, rfl, .inl ⟨_, rfl, _, rfl, _, _, rfl, rfl, by omega, ?_⟩⟩
            refine ⟨_, rfl, _, rfl, Lr, _, _, _, rfl, rfl, SqL.of hL14, atI_nat hyb, _, rfl, b, _, _, ti, rfl, rfl, hb14, ixN_at (by rw [List.length_map]; exact hti), ?_⟩
            have bl : (od + 1 + z) % (ms.length : Int) < (mv.length : Int) := by rw [← wl]; exact bp.2.1
            have g14l := g12.trans g14'
            have hx15 := (hx11.go W11 g14l).updL (o := .lst ((r.map V.int).set ti (.int ((od + 1 + z) % (ms.length : Int))))) W14.src hb14
            have ot15 := (ot.go W11 g14l).updL (o := .lst ((r.map V.int).set ti (.int ((od + 1 + z) % (ms.length : Int))))) W14.src hb14
            have W15 := W14.updL (o := .lst ((r.map V.int).set ti (.int ((od + 1 + z) % (ms.length : Int))))) hbA
            have LrB : Lr ≠ b := Ne.symm hbL
            have rr15 := Rps.row_set (H := H14) (zs := (r.map V.int).set ti (.int ((od + 1 + z) % (ms.length : Int)))) (es := (r.map D.int).set ti (.int ((od + 1 + z) % (ms.length : Int)))) (by rw [h12.len, List.length_map]) hyb hbS (fun j y d hj h1 h2 => (hoth j y d hj h1 h2).keep (g14'.keep.mono fun a ha => List.mem_cons_of_mem _ (W.sub a ha))) (Rps.set (.int _) ti (Rps.ints r))
            rw [← setM_map] at rr15
            have rm15 : Rp S (upd H14 b (.lst ((r.map V.int).set ti (.int ((od + 1 + z) % (ms.length : Int)))))) (.ref Lr) (mvD (setM mv r ai ti ((od + 1 + z) % (ms.length : Int)))) := .lst (W11.fresh hLr) ((upd_ne LrB).trans hL14) rr15
            have M15 := setM_mach (j := ti) M hr bp.1 bl
            have nB : ∀ {c o}, H11 c = some o → c ≠ b := fun {c o} e z => by rw [z, hb11] at e; cases e
            have hlo15 := (upd_ne (o := .lst ((r.map V.int).set ti (.int ((od + 1 + z) % (ms.length : Int))))) (nB hlo11)).trans (g14l.keep _ _ hloA hlo11)
            have ht15 := (upd_ne (o := .lst ((r.map V.int).set ti (.int ((od + 1 + z) % (ms.length : Int))))) (nB ht11)).trans (g14l.keep _ _ htA ht11)
            have e15 := (upd_ne (o := .lst ((r.map V.int).set ti (.int ((od + 1 + z) % (ms.length : Int))))) (nB e11)).trans (g14l.keep _ _ hgA e11)
            have g15' : Go A H (upd H14 b (.lst ((r.map V.int).set ti (.int ((od + 1 + z) % (ms.length : Int)))))) := Go.put W (g11'.trans g14l) (Go.none W g11' hb11)
            have rg15 : Rp S (upd H14 b (.lst ((r.map V.int).set ti (.int ((od + 1 + z) % (ms.length : Int)))))) (.ref ga) (rowD g) := .lst n2 e15 (Rps.ints g)
            refine ⟨_, rfl, .inl ⟨rfl, _, SqL.of hlo15⟩, _, rfl, _, rfl, _, rfl, t, _, _, _, rfl, rfl, .inr (.inl (.inl ht15)), rfl, fun x5 d5 hx5 hd5 hne5 => ?_⟩
            refine init_good (S := S) (.str al) rm15 rg15 rfl AO.2.2.2 (by omega) ⟨_, rfl, by rw [List.map_map]; rfl⟩ rfl M15 (lst W15.src) hx5 hd5 hne5 (fun H16 s16 x16 => ⟨rfl, ?_⟩)
            have hlo16 := s16 _ _ hlo15
            have W16 := W15.go (Go.same s16)
            refine ⟨lo, _, _, rfl, rfl, hlo16, by show 2 < sizeLine; exact szl rfl, ?_⟩
            have ot16 : Oths ad A (upd H16 lo (.lst ([.ref x3, .ref x4] ++ [.ref x5]))) al mv g ([.ref x3, .ref x4] ++ [.ref x5]) := fun y hy => by
              rcases List.mem_append.mp hy with hy | hy
              · exact ((ot15.go W15 (Go.same s16)).updL W16.src hlo16) y hy
              · rw [List.mem_singleton.mp hy]
                exact ⟨x5, al, _, g, rfl, x16.updL W16.src hlo16, fun z => setM_ne hr hod bp.2.2 z.2.1⟩
            refine equal_tail R RI RQ ((upd_ne (fun e => by rw [e, hlo11] at ht11; cases ht11)).trans (s16 _ _ ht15)) ((upd_ne (fun e => ?_)).trans (s16 _ _ e15)) upd_same ot16 ((hx15.same s16).updL W16.src hlo16) (fun H' s => k _ ((Go.put W (g15'.trans (Go.same s16)) hlo0).trans (Go.same s)))
            have := hlo0
            rw [← e, e2] at this
            cases this
        · exact equal_tail R RI RQ ht11 e11 hlo11 ot hx11 (fun H' s => k _ (g11'.trans (Go.same s)))
end

/-! ### _law_wrong_alphabet -/
abbrev sWrongAl : Stmt := top 60
/-- a value that is no alphabet, as it is told -/
structure NoAl (S : List Addr) (H : Hp) (v : V) : Prop where
  ex : ∃ (d : D) (pd : PyData), Rp S H v d ∧ (∀ z, d = .str z → z.length ≤ 1000) ∧ d.alOk = false ∧ ErV H .alphabet v pd ∧ PyData.strOk (("thing " : Str) ++ pd.shown) = true
theorem NoAl.go {A S : List Addr} {H H' : Hp} {v : V} (h : NoAl S H v) (W : Wd A S H) (g : Go A H H') (hv : ∀ a, v = .ref a → a ∉ A) : NoAl S H' v := by
  obtain ⟨d, pd, r, hz, ha, e, ok⟩ := h
  refine ⟨d, pd, r.go W g, hz, ha, ⟨?_, e.sz, e.it⟩, ok⟩
  cases e.sh with
  | non => exact .non
  | bl b => exact .bl b
  | int i => exact .int i
  | str x => exact .str x
  | lst h => exact .lst (g.keep _ _ (hv _ rfl) h)
  | tup h => exact .tup (g.keep _ _ (hv _ rfl) h)
theorem noAl_str {S : List Addr} {H : Hp} (x : Str) (h : (!alOk x && decide (x.length ≤ 1000) && decide ((PyData.str x).shown.length ≤ 1000) && PyData.strOk (("thing " : Str) ++ (PyData.str x).shown)) = true) : NoAl S H (.str x) := by
  simp only [Bool.and_eq_true, decide_eq_true_eq, Bool.not_eq_true'] at h
  exact ⟨.str x, .str x, .str x, fun z e => by cases e; exact h.1.1.2, h.1.1.1, ⟨.str x, h.1.2, fun i e => by cases e⟩, h.2⟩
def spWrongAl : Sp := fun vs H Q _ => ∃ (A S : List Addr) (a : Addr), vs = [.ref a] ∧ a ∈ A ∧ Wd A S H ∧ ∀ (v : V) (H' : Hp), Go A H H' → NoAl S H' v → Q v H'
theorem at_in {l : List V} {r : Int} (h0 : 0 ≤ r) (h1 : r < (l.length : Int)) : ∃ v, atI l r = some v ∧ v ∈ l := by
  obtain ⟨n, rfl⟩ := Int.eq_ofNat_of_zero_le h0
  have hn : n < l.length := by omega
  exact ⟨l[n], atI_nat (List.getElem?_eq_getElem hn), List.getElem_mem hn⟩
section
open PyProof.Rows
variable {P : Program} {w : World} {K : PySem.W.Frag} {mg : Str → Option Value} {base : Heap}
theorem scWrongAl : FnScope ["source", "menu"] ["source"] (C8.fnScope sWrongAl) := C8.fnScope_by (by decide +kernel)
theorem ok_wrongal {f : Addr} {fd : FuncData} (F : C8.Def K mg "_law_wrong_alphabet" sWrongAl f fd) (b : Binds K fd ["source"] []) (T : Txt mg) (c_law_pick : C8.Cal P w K mg base 1 "_law_pick" spPick []) : C8.Cal P w K mg base 2 "_law_wrong_alphabet" spWrongAl [] := by
  refine C8.cal0 F b .nil scWrongAl (fun vs H Q E h => ?_) (fun cdv A0 outer s H vs Q E hr h => ?_)
  · obtain ⟨A, S, a, rfl, _⟩ := h
    rfl
  · obtain ⟨A, S, a, rfl, hm, W, k⟩ := h
    have sc := scWrongAl
    refine ⟨_, -- _law_wrong_alphabet: 0 source 1 menu

      (pss_cons (ps_set (i := 1) sc.nd rfl (Or.inl rfl) (pe_lst (pa_cons pe_str (pa_cons pe_str (pa_cons pe_str (pa_cons pe_str (pa_cons pe_str (pa_cons pe_str (pa_cons pe_str (pa_cons pe_non (pa_cons pe_int (pa_cons pe_bl (pa_cons (pe_lst (pa_cons pe_str pa_nil)) (pa_cons (pe_tup (pa_cons pe_str (pa_cons pe_str pa_nil))) (pa_cons pe_str (pa_cons pe_str (pa_cons pe_str (pa_cons pe_str pa_nil))))))))))))))))))
      (pss_one (ps_ret (pe_ix ix_list (pv 1) (C8.pe_c c_law_pick hr (by decide) rfl (pa_cons (pv 0) (pa_cons (pe_callB (call_lenQ (K := K) rfl) (by rfl) T.len PySem.boot_len (pa_cons (pv 1) pa_nil)) pa_nil))) (fun _ _ => rfl))))), ?_⟩
    refine ⟨by show 1 ≤ sizeLine; exact szl rfl, fun l1 hl1 => ⟨by show 2 ≤ sizeLine; exact szl rfl, fun l2 hl2 => ⟨by show 16 ≤ sizeLine; exact szl rfl, fun m hm2 => ?_⟩⟩⟩
    have s1 : Same H (upd H l1 (.lst [.str (Str.ofString "a")])) := Same.new hl1
    have q1 : upd H l1 (.lst [.str (Str.ofString "a")]) l1 = some (.lst [.str (Str.ofString "a")]) := upd_same
    generalize upd H l1 (.lst [.str (Str.ofString "a")]) = H1 at *
    have s2 : Same H1 (upd H1 l2 (.tup [.str (Str.ofString "a"), .str (Str.ofString "b")])) := Same.new hl2
    have q2 : upd H1 l2 (.tup [.str (Str.ofString "a"), .str (Str.ofString "b")]) l2 = some (.tup [.str (Str.ofString "a"), .str (Str.ofString "b")]) := upd_same
    generalize upd H1 l2 (.tup [.str (Str.ofString "a"), .str (Str.ofString "b")]) = H2 at *
    have s3 := Same.new (o := .lst [.str (Str.ofString ""), .str (Str.ofString "ba"), .str (Str.ofString "aa"), .str (Str.ofString "abcd"), .str (Str.ofString "aB"), .str (Str.ofString "a "), .str (Str.ofString "A"), .non, .int 7, .bl true, .ref l1, .ref l2, .str (Str.ofString "a1"), .str (Str.ofString "zyx"), .str (Str.ofString "ab\n"), .str (Str.ofString "abb")]) hm2
    have q3 : upd H2 m (.lst [.str (Str.ofString ""), .str (Str.ofString "ba"), .str (Str.ofString "aa"), .str (Str.ofString "abcd"), .str (Str.ofString "aB"), .str (Str.ofString "a "), .str (Str.ofString "A"), .non, .int 7, .bl true, .ref l1, .ref l2, .str (Str.ofString "a1"), .str (Str.ofString "zyx"), .str (Str.ofString "ab\n"), .str (Str.ofString "abb")]) m = _ := upd_same
    generalize upd H2 m (.lst [.str (Str.ofString ""), .str (Str.ofString "ba"), .str (Str.ofString "aa"), .str (Str.ofString "abcd"), .str (Str.ofString "aB"), .str (Str.ofString "a "), .str (Str.ofString "A"), .non, .int 7, .bl true, .ref l1, .ref l2, .str (Str.ofString "a1"), .str (Str.ofString "zyx"), .str (Str.ofString "ab\n"), .str (Str.ofString "abb")]) = H3 at *
    have s13 : Same H H3 := (s1.trans s2).trans s3
    have W3 := W.go (Go.same s13)
    have nA : ∀ {c}, H c = none → c ∉ A := fun h q => (W.fresh h) (W.sub _ q)
    have m0 : H m = none := Same.none (s1.trans s2) hm2
    have l20 : H l2 = none := Same.none s1 hl2
    refine ⟨_, rfl, _, rfl, _, rfl, m, _, rfl, .inl (SqL.of q3), A, a, _, rfl, hm, W3.src, by show (0:Int) < 16; decide, by show (16:Int) < 2 ^ 30; decide, fun r H4 h0 h1 g4 => ?_⟩
    obtain ⟨v, hv, hvm⟩ := at_in h0 h1
    refine ⟨m, _, r, v, rfl, rfl, SqL.of (g4.keep _ _ (nA m0) q3), hv, k v H4 ((Go.same s13).trans g4) ?_⟩
    have e1 := g4.keep _ _ (nA hl1) (s3 _ _ (s2 _ _ q1))
    have e2 := g4.keep _ _ (nA l20) (s3 _ _ q2)
    have st : ∀ x : Str, (!alOk x && decide (x.length ≤ 1000) && decide ((PyData.str x).shown.length ≤ 1000) && PyData.strOk (("thing " : Str) ++ (PyData.str x).shown)) = true → NoAl S H4 (.str x) := fun x h => noAl_str x h
    simp only [List.mem_cons, List.not_mem_nil, or_false] at hvm
    rcases hvm with rfl | rfl | rfl | rfl | rfl | rfl | rfl | rfl | rfl | rfl | rfl | rfl | rfl | rfl | rfl | rfl
    · exact st _ (by decide +kernel)
    · exact st _ (by decide +kernel)
    · exact st _ (by decide +kernel)
    · exact st _ (by decide +kernel)
    · exact st _ (by decide +kernel)
    · exact st _ (by decide +kernel)
    · exact st _ (by decide +kernel)
    · exact ⟨.non, .none, .non, fun z e => (by cases e), rfl, ⟨.non, by decide +kernel, fun i e => by cases e⟩, by decide +kernel⟩
    · exact ⟨.int 7, .int 7, .int 7, fun z e => (by cases e), rfl, ⟨.int 7, by decide +kernel, fun i e => by cases e; decide⟩, by decide +kernel⟩
    · exact ⟨.bl true, .bool true, .bl true, fun z e => (by cases e), rfl, ⟨.bl true, by decide +kernel, fun i e => by cases e⟩, by decide +kernel⟩
    · exact ⟨.lst [.str (Str.ofString "a")], .list [.str (Str.ofString "a")], .lst (W.fresh hl1) e1 (.cons (.str _) .nil), fun z e => (by cases e), rfl, ⟨.lst (l := [Str.ofString "a"]) e1, by decide +kernel, fun i e => by cases e⟩, by decide +kernel⟩
    · exact ⟨.tup [.str (Str.ofString "a"), .str (Str.ofString "b")], .tuple [.str (Str.ofString "a"), .str (Str.ofString "b")], .tup (W.fresh l20) e2 (.cons (.str _) (.cons (.str _) .nil)), fun z e => (by cases e), rfl, ⟨.tup (l := [Str.ofString "a", Str.ofString "b"]) e2, by decide +kernel, fun i e => by cases e⟩, by decide +kernel⟩
    · exact st _ (by decide +kernel)
    · exact st _ (by decide +kernel)
    · exact st _ (by decide +kernel)
    · exact st _ (by decide +kernel)
end

/-! ### _law_wrong_good -/
abbrev sWrongGd : Stmt := top 62
/-- [a thing, a number] -/
def Pair (A S : List Addr) (H : Hp) (q : D → Int → Prop) (Q : VK) : Prop := ∀ (p : Addr) (v : V) (i : Int) (d : D) (H' : Hp), Go A H H' → H p = none → H' p = some (.lst [v, .int i]) → Rp S H' v d → q d i → -1 ≤ i → i ≤ 1000 → Q (.ref p) H'
def spWrongGd : Sp := fun vs H Q _ => ∃ (A S : List Addr) (a ga : Addr) (n : Nat) (g : List Int), vs = [.ref a, .int n, .ref ga] ∧ a ∈ A ∧ Wd A S H ∧ Rp S H (.ref ga) (rowD g) ∧ 1 ≤ n ∧ n ≤ 60 ∧ g.Pairwise (· < ·) ∧ (∀ x ∈ g, 0 ≤ x ∧ x < (n : Int)) ∧
  Pair A S H (fun d i => d.gdFault n = some i ∧ d.fit) Q
/-- a thing that may not stand behind ahead -/
structure BadG (S : List Addr) (H : Hp) (n : Nat) (ah : List Int) (v : V) : Prop where
  ex : ∃ d, Rp S H v d ∧ (∀ rs, d.seq? = some rs → rs.length ≤ 1000) ∧ (d.inr 0 ((n : Int) - 1) = false ∨ ∃ (bs : List Int) (p z : Int), ah = bs ++ [p] ∧ d = .int z ∧ z ≤ p)
theorem BadG.go {A S : List Addr} {H H' : Hp} {n : Nat} {ah : List Int} {v : V} (h : BadG S H n ah v) (W : Wd A S H) (g : Go A H H') : BadG S H' n ah v := by
  obtain ⟨d, r, q⟩ := h
  exact ⟨d, r.go W g, q⟩
theorem badG_fault {n : Nat} {ah rs : List Int} {d : D} {dd : D} (hs : dd.seq? = some (ah.map D.int ++ [d] ++ rs.map D.int)) (ha : ah.Pairwise (· < ·)) (hi : ∀ x ∈ ah, 0 ≤ x ∧ x < (n : Int)) (hd : d.inr 0 ((n : Int) - 1) = false ∨ ∃ (bs : List Int) (p z : Int), ah = bs ++ [p] ∧ d = .int z ∧ z ≤ p) :
    dd.gdFault n = some (ah.length : Int) := by
  have hl : (ah.map D.int).length = ah.length := List.length_map ..
  have at_ : ∀ j : Nat, j < ah.length → (ah.map D.int ++ [d] ++ rs.map D.int).getD j .non = .int (ah.getD j 0) := fun j hj => by
    rw [List.append_assoc, List.getD_eq_getElem?_getD, List.getElem?_append_left (by omega), List.getElem?_map, List.getElem?_eq_getElem hj, List.getD_eq_getElem?_getD, List.getElem?_eq_getElem hj]
    rfl
  have me : (ah.map D.int ++ [d] ++ rs.map D.int).getD ah.length .non = d := by
    rw [List.append_assoc, List.getD_eq_getElem?_getD, List.getElem?_append_right (by omega), hl, Nat.sub_self]
    rfl
  refine gd_at hs (by simp) (fun j hj => ?_) ?_
  · unfold gdOk
    rw [at_ j hj]
    have e1 : ah.getD j 0 = ah[j] := by rw [List.getD_eq_getElem?_getD, List.getElem?_eq_getElem hj]; rfl
    have h1 := hi ah[j] (List.getElem_mem hj)
    rw [e1, inr_int, decide_eq_true h1.1, decide_eq_true (show ah[j] ≤ (n : Int) - 1 by omega), Bool.true_and, Bool.true_and, Bool.or_eq_true]
    by_cases h0 : j = 0
    · exact .inl (by simp [h0])
    · right
      rw [at_ (j - 1) (by omega)]
      have e2 : ah.getD (j - 1) 0 = ah[j - 1] := by rw [List.getD_eq_getElem?_getD, List.getElem?_eq_getElem (by omega)]; rfl
      rw [e2]
      have := List.pairwise_iff_getElem.mp ha (j - 1) j (by omega) hj (by omega)
      exact decide_eq_true this
  · unfold gdOk
    rw [me]
    rcases hd with hd | ⟨bs, p, z, e, rfl, hz⟩
    · rw [hd, Bool.false_and]
    · have hn : ah.length ≠ 0 := by rw [e]; simp
      rw [at_ (ah.length - 1) (by omega)]
      have e2 : ah.getD (ah.length - 1) 0 = p := by
        subst e
        simp
      rw [e2, decide_eq_false hn, Bool.false_or, show (D.int p).ltI (D.int z) = decide (p < z) from rfl, decide_eq_false (by omega), Bool.and_false]
theorem cut_to (xs : List V) (k : Nat) (h : k ≤ xs.length) : cutV xs none (some (k : Int)) = xs.take k := by
  unfold cutV
  rw [HT.sIx_none, HT.sIx_nat, Nat.min_eq_left h, List.drop_zero, Nat.sub_zero]
theorem cut_from (xs : List V) (k : Nat) (h : k ≤ xs.length) : cutV xs (some (k : Int)) none = xs.drop k := by
  unfold cutV
  rw [HT.sIx_nat, HT.sIx_none, Nat.min_eq_left h]
  exact List.take_of_length_le (by simp)
section
open PyProof.Rows
variable {P : Program} {w : World} {K : PySem.W.Frag} {mg : Str → Option Value} {base : Heap}
theorem Pair.on {A S : List Addr} {H H1 : Hp} {q : D → Int → Prop} {Q : VK} (k : Pair A S H q Q) (W : Wd A S H) (g : Go A H H1) : Pair A S H1 q Q := fun p v i d H' g2 hp => k p v i d H' (g.trans g2) (Go.none W g hp)
theorem badG_fit {ah zs : List Int} {d dd : D} (hs : dd.seq? = some (ah.map D.int ++ [d] ++ zs.map D.int)) (h1 : ah.length ≤ 100) (h2 : zs.length ≤ 100) (hd : ∀ rs, d.seq? = some rs → rs.length ≤ 1000) : dd.fit := fun ds e => by
  rw [hs] at e
  cases e
  refine ⟨by simp; omega, fun r hr rs e => ?_⟩
  rcases List.mem_append.mp hr with hr | hr
  · rcases List.mem_append.mp hr with hr | hr
    · obtain ⟨z, _, rfl⟩ := List.mem_map.mp hr
      cases e
    · rw [List.mem_singleton.mp hr] at e
      exact hd rs e
  · obtain ⟨z, _, rfl⟩ := List.mem_map.mp hr
    cases e
/-- what stands behind: the rest, and the list or tuple told -/
theorem good_tail {A S : List Addr} {H1 : Hp} {a ga ah : Addr} {n ai : Nat} {g : List Int} {way : Int} {v : V} {Q : VK} {b6 b8 : Option V} (hm : a ∈ A) (W : Wd A S H1) (ng : ga ∉ S) (eg : H1 ga = some (.lst (g.map V.int))) (nh : ah ∉ S) (eh : H1 ah = some (.lst ((g.take ai).map V.int))) (bad : BadG S H1 n (g.take ai) v)
    (ha : ai ≤ g.length) (gl : g.length ≤ 60) (asc : g.Pairwise (· < ·)) (inn : ∀ x ∈ g, 0 ≤ x ∧ x < (n : Int)) (k : Pair A S H1 (fun d i => d.gdFault n = some i ∧ d.fit) Q) :
    tSeq (tAsg (tLc (iList K (tSl (rSlL K) (tVar 2) (tPart (tVar 4)) tNoPart)) (gName 9) (tTest (tOp rNe (tCall spPick [] C8.E0 (tCons (tVar 0) (tCons (tC (V.int 3)) tNil))) (tC (V.int 1)))) (tVar 9) [9]) (gName 8))
      (tSeq (tIfS (tTest (tOp rEq (tCall spPick [] C8.E0 (tCons (tVar 0) (tCons (tC (V.int 2)) tNil))) (tC (V.int 1)))) (tRet (tLst (tCons (tCB (rTupQ K) (tCons (tOp rCat (tOp rCat (tVar 5) (tLst (tCons (tVar 7) tNil))) (tVar 8)) tNil)) (tCons (tVar 4) tNil)))) tNext)
        (tRet (tLst (tCons (tOp rCat (tOp rCat (tVar 5) (tLst (tCons (tVar 7) tNil))) (tVar 8)) (tCons (tVar 4) tNil)))))
      { nx := fun _ H' => Q V.non H', rt := Q } [some (.ref a), some (.int n), some (.ref ga), some (.int way), some (.int ai), some (.ref ah), b6, some v, b8, none] H1 := by
  have gA : ga ∉ A := fun q => ng (W.sub _ q)
  have hA : ah ∉ A := fun q => nh (W.sub _ q)
  refine ⟨_, rfl, _, rfl, _, rfl, ga, _, rfl, SqL.of eg, fun sl hsl => ?_⟩
  rw [cut_from _ _ (by rw [List.length_map]; exact ha), ← List.map_drop]
  have s1 := Same.new (o := .lst ((g.drop ai).map V.int)) hsl
  have q1 : upd H1 sl (.lst ((g.drop ai).map V.int)) sl = some (.lst ((g.drop ai).map V.int)) := upd_same
  generalize upd H1 sl (.lst ((g.drop ai).map V.int)) = H2 at s1 q1 ⊢
  have W2 := W.go (Go.same s1)
  have slS : sl ∉ S := W.fresh hsl
  have slA : sl ∉ A := fun q => slS (W.sub _ q)
  refine ⟨_, rfl, ⟨_, SqL.of q1⟩, fun L hL => lc_D (A := A) (S := S) (j := 9) (Xp := fun i x => ((g.drop ai).map V.int)[i]? = some x) (fun i ds => ds.length ≤ i ∧ ∃ zs : List Int, ds = zs.map D.int)
    walk_list (fun i H x H' _ y => ⟨y.1, y.2⟩) W2 hL (by rw [List.length_map, List.length_drop]; omega) (fun H3 k3 => SqL.of (k3 _ _ (fun q => (List.mem_cons.mp q).elim (fun e => by rw [← e, q1] at hL; cases hL) slA) q1)) ⟨Nat.le_refl _, [], rfl⟩ (fun i ds h => h.1) (fun _ => rfl) (fun i ds x H3 hi h hx W3 k3 Kt Kf ht hf => ?_) (fun ys ds H3 h g3 hL3 hr3 => ?_)⟩
  · obtain ⟨z, rfl⟩ : ∃ z : Int, x = .int z := by
      rw [List.getElem?_map] at hx
      cases hz : (g.drop ai)[i]? with
      | none => rw [hz] at hx; cases hx
      | some z => rw [hz] at hx; cases hx; exact ⟨z, rfl⟩
    obtain ⟨hl, zs, rfl⟩ := h
    refine ⟨_, rfl, A, a, _, rfl, hm, W3.src, by omega, by omega, fun r H4 _ _ g4 => ?_⟩
    refine ⟨rfl, _, rfl, ?_⟩
    refine ite2 (fun _ => ?_) (fun _ => ?_)
    · exact ⟨_, rfl, ht (.int z) (.int z) H4 g4 (.int z) ⟨by rw [List.length_append]; simpa using hl, zs ++ [z], by simp⟩⟩
    · exact hf H4 g4 ⟨by omega, zs, rfl⟩
  · obtain ⟨hl, zs, rfl⟩ := h
    rw [List.length_map, List.length_map, List.length_drop] at hl
    cases hr3.ints_eq
    have g13 := (Go.same (A := A) s1).trans g3
    have W3 := W.go g13
    have LA : L ∉ A := fun q => (W2.fresh hL) (W.sub _ q)
    have eh3 := g13.keep _ _ hA eh
    have bad3 := bad.go W g13
    refine ⟨_, rfl, A, a, _, rfl, hm, W3.src, by omega, by omega, fun r H4 _ _ g4 => ?_⟩
    have g14 := g13.trans g4
    have eh4 := g4.keep _ _ hA eh3
    have hL4 := g4.keep _ _ LA hL3
    have bad4 := bad3.go W3 g4
    have W4 := W3.go g4
    have tl : (g.take ai).length = ai := by rw [List.length_take]; omega
    obtain ⟨d, rd, hd1, hd2⟩ := bad4.ex
    have ta : (g.take ai).Pairwise (· < ·) := asc.sublist (List.take_sublist _ _)
    have ti : ∀ x ∈ g.take ai, 0 ≤ x ∧ x < (n : Int) := fun x hx => inn x (List.mem_of_mem_take hx)
    have rr : ∀ {H' : Hp}, Same H4 H' → Rps S H' ((g.take ai).map V.int ++ [v] ++ zs.map V.int) ((g.take ai).map D.int ++ [d] ++ zs.map D.int) := fun s => Rps.app (Rps.app (Rps.ints _) (.cons (rd.same s) .nil)) (Rps.ints _)
    refine ⟨rfl, _, rfl, ?_⟩
    have cat : ∀ (QQ : VK), (∀ l3 H5, H4 l3 = none → Same H4 H5 → H5 l3 = some (.lst ((g.take ai).map V.int ++ [v] ++ zs.map V.int)) → QQ (.ref l3) H5) →
        tOp rCat (tOp rCat (tVar 5) (tLst (tCons (tVar 7) tNil))) (tVar 8) [some (.ref a), some (.int n), some (.ref ga), some (.int way), some (.int ai), some (.ref ah), b6, some v, some (.ref L), none] H4 QQ := fun QQ kk => by
      refine ⟨_, rfl, _, rfl, by show 1 ≤ sizeLine; exact szl rfl, fun l1 hl1 => ?_⟩
      have s5 := Same.new (o := .lst [v]) hl1
      refine ⟨ah, l1, _, _, rfl, rfl, s5 _ _ eh4, upd_same, by rw [List.length_map, tl]; exact Nat.le_trans (show ai + 1 ≤ 61 by omega) (szl rfl), fun l2 hl2 => ?_⟩
      have s6 := s5.trans (Same.new (o := .lst ((g.take ai).map V.int ++ [v])) hl2)
      refine ⟨_, rfl, l2, L, _, _, rfl, rfl, upd_same, s6 _ _ hL4, by rw [List.length_append, List.length_map, List.length_map, tl]; exact Nat.le_trans (show ai + 1 + zs.length ≤ 200 by omega) (szl rfl), fun l3 hl3 => ?_⟩
      exact kk l3 _ (Same.none s6 hl3) (s6.trans (Same.new hl3)) upd_same
    refine ite2 (fun _ => ?_) (fun _ => ?_)
    · refine cat _ fun l3 H5 hl3 s5 e5 => ⟨l3, _, rfl, .inl ⟨SqL.of e5, fun l4 hl4 => ⟨_, rfl, by show 2 ≤ sizeLine; exact szl rfl, fun p hp => ?_⟩⟩⟩
      have s6 := s5.trans (Same.new (o := .tup ((g.take ai).map V.int ++ [v] ++ zs.map V.int)) hl4)
      have q6 : upd H5 l4 (.tup ((g.take ai).map V.int ++ [v] ++ zs.map V.int)) l4 = some (.tup ((g.take ai).map V.int ++ [v] ++ zs.map V.int)) := upd_same
      have l4S : l4 ∉ S := (W4.go (Go.same s5)).fresh hl4
      refine k p _ ai (.tup ((g.take ai).map D.int ++ [d] ++ zs.map D.int)) _ (g14.trans (Go.same (s6.trans (Same.new hp)))) (Go.none W (g14.trans (Go.same s6)) hp) upd_same (.tup l4S ((Same.new hp) _ _ q6) (rr (s6.trans (Same.new hp)))) ⟨?_, ?_⟩ (by omega) (by omega)
      · rw [badG_fault rfl ta ti hd2, tl]
      · exact badG_fit rfl (by omega) (by omega) hd1
    · refine cat _ fun l3 H5 hl3 s5 e5 => ⟨_, rfl, by show 2 ≤ sizeLine; exact szl rfl, fun p hp => ?_⟩
      have l3S : l3 ∉ S := W4.fresh hl3
      refine k p _ ai (.lst ((g.take ai).map D.int ++ [d] ++ zs.map D.int)) _ (g14.trans (Go.same (s5.trans (Same.new hp)))) (Go.none W (g14.trans (Go.same s5)) hp) upd_same (.lst l3S ((Same.new hp) _ _ e5) (rr (s5.trans (Same.new hp)))) ⟨?_, ?_⟩ (by omega) (by omega)
      · rw [badG_fault rfl ta ti hd2, tl]
      · exact badG_fit rfl (by omega) (by omega) hd1
theorem last_take {g : List Int} {ai : Nat} (h0 : 0 < ai) (ha : ai ≤ g.length) : ∃ (bs : List Int) (p : Int), g.take ai = bs ++ [p] ∧ p ∈ g ∧ atI ((g.take ai).map V.int) ((ai : Int) - 1) = some (.int p) := by
  obtain ⟨j, rfl⟩ : ∃ j, ai = j + 1 := ⟨ai - 1, by omega⟩
  have hj : j < g.length := by omega
  have e : g[j]? = some g[j] := List.getElem?_eq_getElem hj
  have e2 := take_snoc e
  refine ⟨g.take j, g[j], e2, List.getElem_mem hj, ?_⟩
  rw [show ((j + 1 : Nat) : Int) - 1 = (j : Int) by omega]
  refine atI_nat ?_
  rw [e2, List.getElem?_map, List.getElem?_append_right (by rw [List.length_take]; omega), List.length_take, show j - min j g.length = 0 by omega]
  rfl
theorem good_tail2 {A S : List Addr} {H1 : Hp} {a ga ah : Addr} {n ai : Nat} {g : List Int} {way : Int} {v : V} {Q : VK} {b6 b8 : Option V} (hm : a ∈ A) (W : Wd A S H1) (ng : ga ∉ S) (eg : H1 ga = some (.lst (g.map V.int))) (nh : ah ∉ S) (eh : H1 ah = some (.lst ((g.take ai).map V.int))) (bad : BadG S H1 n (g.take ai) v)
    (ha : ai ≤ g.length) (gl : g.length ≤ 60) (asc : g.Pairwise (· < ·)) (inn : ∀ x ∈ g, 0 ≤ x ∧ x < (n : Int)) (k : Pair A S H1 (fun d i => d.gdFault n = some i ∧ d.fit) Q) :
    tSeq (tIfS (tAnd (tTest (tOp (rI0 fun i j => V.bl (decide (j < i))) (tVar 4) (tC (V.int 0)))) (tTest (tOp rEq (tVar 3) (tC (V.int 6))))) (tAsg (tOp (rIxL K) (tVar 5) (tOp (rI0 fun i j => V.int (i - j)) (tVar 4) (tC (V.int 1)))) (gName 7)) tNext)
      (tSeq (tAsg (tLc (iList K (tSl (rSlL K) (tVar 2) (tPart (tVar 4)) tNoPart)) (gName 9) (tTest (tOp rNe (tCall spPick [] C8.E0 (tCons (tVar 0) (tCons (tC (V.int 3)) tNil))) (tC (V.int 1)))) (tVar 9) [9]) (gName 8))
      (tSeq (tIfS (tTest (tOp rEq (tCall spPick [] C8.E0 (tCons (tVar 0) (tCons (tC (V.int 2)) tNil))) (tC (V.int 1)))) (tRet (tLst (tCons (tCB (rTupQ K) (tCons (tOp rCat (tOp rCat (tVar 5) (tLst (tCons (tVar 7) tNil))) (tVar 8)) tNil)) (tCons (tVar 4) tNil)))) tNext)
        (tRet (tLst (tCons (tOp rCat (tOp rCat (tVar 5) (tLst (tCons (tVar 7) tNil))) (tVar 8)) (tCons (tVar 4) tNil))))))
      { nx := fun _ H' => Q V.non H', rt := Q } [some (.ref a), some (.int n), some (.ref ga), some (.int way), some (.int ai), some (.ref ah), b6, some v, b8, none] H1 := by
  refine ⟨_, rfl, _, _, rfl, rfl, _, rfl, ite2 (fun h0 => ⟨_, rfl, rfl, _, rfl, ite2 (fun _ => ?_) (fun _ => ?_)⟩) (fun _ => iteF ?_)⟩
  · have h0 : (0 : Int) < (ai : Int) := of_decide_eq_true h0
    obtain ⟨bs, p, e1, e2, e3⟩ := last_take (by omega) ha
    refine ⟨_, rfl, _, rfl, _, _, rfl, rfl, ah, _, _, .int p, rfl, rfl, SqL.of eh, e3, ?_⟩
    exact good_tail hm W ng eg nh eh ⟨.int p, .int p, fun rs e => (by cases e), .inr ⟨bs, p, p, e1, rfl, Int.le_refl _⟩⟩ ha gl asc inn k
  · exact good_tail hm W ng eg nh eh bad ha gl asc inn k
  · exact good_tail hm W ng eg nh eh bad ha gl asc inn k
theorem scWrongGd : FnScope ["source", "size", "told", "way", "at", "ahead", "odd", "thing", "rest", "p"] ["source", "size", "told"] (C8.fnScope sWrongGd) := C8.fnScope_by (by decide +kernel)
theorem ok_wronggd {f : Addr} {fd : FuncData} (F : C8.Def K mg "_law_wrong_good" sWrongGd f fd) (b : Binds K fd ["source", "size", "told"] []) (T : Txt mg) (c_law_pick : C8.Cal P w K mg base 1 "_law_pick" spPick []) : C8.Cal P w K mg base 2 "_law_wrong_good" spWrongGd [] := by
  refine C8.cal0 F b .nil scWrongGd (fun vs H Q E h => ?_) (fun cdv A0 outer s H vs Q E hr h => ?_)
  · obtain ⟨A, S, a, ga, n, g, rfl, _⟩ := h
    rfl
  · obtain ⟨A, S, a, ga, n, g, rfl, hm, W, hg, hn0, hn1, asc, inn, k⟩ := h
    have sc := scWrongGd
    have gl := asc_le (n := n) (lo := 0) asc (fun x hx => by have := inn x hx; omega)
    refine ⟨_, -- _law_wrong_good: 0 source* 1 size 2 told 3 way 4 at 5 ahead 6 odd 7 thing 8 rest 9 p

      (pss_cons (ps_set (i := 3) sc.nd rfl (Or.inl rfl) (C8.pe_c c_law_pick hr (by decide) rfl (pa_cons (pv 0) (pa_cons pe_int pa_nil))))
      (pss_cons (ps_if (pt_cmpR op_eq (pv 3) pe_int (nomark _)) 
        (pss_one (ps_ret (pe_lst (pa_cons (pe_ix ix_list (pe_lst (pa_cons pe_non (pa_cons pe_str (pa_cons pe_int (pa_cons pe_dnewK (pa_cons pe_bl pa_nil)))))) (C8.pe_c c_law_pick hr (by decide) rfl (pa_cons (pv 0) (pa_cons pe_int pa_nil))) (fun _ _ => rfl)) (pa_cons (pe_un un_neg pe_int) pa_nil))))) pss_nil)
      (pss_cons (ps_set (i := 4) sc.nd rfl (Or.inl rfl) (C8.pe_c c_law_pick hr (by decide) rfl (pa_cons (pv 0) (pa_cons (pe_op op_add (pe_callB (call_lenQ (K := K) rfl) (by rfl) T.len PySem.boot_len (pa_cons (pv 2) pa_nil)) pe_int) pa_nil))))
      (pss_cons (ps_set (i := 5) sc.nd rfl (Or.inl rfl) (pe_callTy (T := "list") (call_lstQ (K := K) rfl) (by rfl) T.list (by decide +kernel) (pa_cons (pe_slice sl_list (pv 2) po_none (po_some (pv 4))) pa_nil)))
      (pss_cons (ps_set (i := 6) sc.nd rfl (Or.inl rfl) (pe_lst (pa_cons (pv 1) (pa_cons (pe_un un_neg pe_int) (pa_cons pe_bl (pa_cons pe_non (pa_cons pe_str (pa_cons (pe_lst (pa_cons pe_int pa_nil)) (pa_cons (pe_op op_add (pv 1) (pe_op op_pow pe_int pe_int)) (pa_cons pe_bl (pa_cons (pe_op op_add (pv 1) pe_int) (pa_cons (pe_un un_neg (pv 1)) pa_nil))))))))))))
      (pss_cons (ps_set (i := 7) sc.nd rfl (Or.inl rfl) (pe_ix ix_list (pv 6) (C8.pe_c c_law_pick hr (by decide) rfl (pa_cons (pv 0) (pa_cons (pe_callB (call_lenQ (K := K) rfl) (by rfl) T.len PySem.boot_len (pa_cons (pv 6) pa_nil)) pa_nil))) (fun _ _ => rfl)))
      (pss_cons (ps_if (PW.pt (pw_and (pt_cmpR op_gt (pv 4) pe_int (nomark _)) (pw_and1 (pt_cmpR (op_inQ (K := K) rfl) (pv 3) (pe_tup (pa_cons pe_int (pa_cons pe_int (pa_cons pe_int pa_nil)))) (by rfl))))) 
        (pss_one (ps_set (i := 7) sc.nd rfl (Or.inl rfl) (C8.pe_c c_law_pick hr (by decide) rfl (pa_cons (pv 0) (pa_cons (pe_op op_add (pe_ix ix_list (pv 5) (pe_op op_sub (pv 4) pe_int) (fun _ _ => rfl)) pe_int) pa_nil))))) pss_nil)
      (pss_cons (ps_if (PW.pt (pw_and (pt_cmpR op_gt (pv 4) pe_int (nomark _)) (pw_and1 (pt_cmpR op_eq (pv 3) pe_int (nomark _))))) 
        (pss_one (ps_set (i := 7) sc.nd rfl (Or.inl rfl) (pe_ix ix_list (pv 5) (pe_op op_sub (pv 4) pe_int) (fun _ _ => rfl)))) pss_nil)
      (pss_cons (ps_setLc (i := 8) (own := [("p", 9)]) (g := gName 9) rfl sc.nd rfl rfl (sw_true rfl rfl rfl (by decide +kernel)) (pi_list (pe_slice sl_list (pv 2) (po_some (pv 4)) po_none)) (blkOk_by (own := [("p", 9)]) (by kernel_rfl)) (fun _ _ _ _ _ => (pg_name (i := 9) sc.nd rfl (Or.inl rfl))) (fun _ _ _ _ _ => (pts_one (pt_cmpR op_ne (C8.pe_c c_law_pick hr (by decide) rfl (pa_cons (pv 0) (pa_cons pe_int pa_nil))) pe_int (nomark _)))) (fun _ _ _ _ _ => (pv 9)))
      (pss_cons (ps_if (pt_cmpR op_eq (C8.pe_c c_law_pick hr (by decide) rfl (pa_cons (pv 0) (pa_cons pe_int pa_nil))) pe_int (nomark _)) 
        (pss_one (ps_ret (pe_lst (pa_cons (pe_callTy (T := "tuple") (call_tupQ (K := K) rfl) (by rfl) T.tuple (by decide +kernel) (pa_cons (pe_op op_cat (pe_op op_cat (pv 5) (pe_lst (pa_cons (pv 7) pa_nil))) (pv 8)) pa_nil)) (pa_cons (pv 4) pa_nil))))) pss_nil)
      (pss_one (ps_ret (pe_lst (pa_cons (pe_op op_cat (pe_op op_cat (pv 5) (pe_lst (pa_cons (pv 7) pa_nil))) (pv 8)) (pa_cons (pv 4) pa_nil))))))))))))))), ?_⟩
    cases hg with
    | @lst _ xg _ ng eg rg =>
    cases rg.ints_eq
    have gA : ga ∉ A := fun q => ng (W.sub _ q)
    refine ⟨_, rfl, A, a, _, rfl, hm, W.src, by omega, by omega, fun way H1 w0 w1 g1 => ?_⟩
    have W1 := W.go g1
    refine ⟨_, rfl, rfl, _, rfl, ?_⟩
    refine ite2 (fun _ => ?_) (fun _ => ?_)
    · refine fun dl hdl => ⟨by show 5 ≤ sizeLine; exact szl rfl, fun m hm2 => ?_⟩
      have s2 : Same H1 (upd H1 dl (.dK [])) := Same.new hdl
      have q2 : upd H1 dl (.dK []) dl = some (.dK []) := upd_same
      generalize upd H1 dl (.dK []) = H2 at s2 q2 hm2 ⊢
      have s3 := Same.new (o := .lst [.non, .str (Str.ofString "0"), .int 0, .ref dl, .bl true]) hm2
      have q3 : upd H2 m (.lst [.non, .str (Str.ofString "0"), .int 0, .ref dl, .bl true]) m = some (.lst [.non, .str (Str.ofString "0"), .int 0, .ref dl, .bl true]) := upd_same
      generalize upd H2 m (.lst [.non, .str (Str.ofString "0"), .int 0, .ref dl, .bl true]) = H3 at s3 q3 ⊢
      have W3 := W1.go (Go.same (s2.trans s3))
      refine ⟨_, rfl, A, a, _, rfl, hm, W3.src, by omega, by omega, fun r H4 r0 r1 g4 => ?_⟩
      have g14 := (Go.same (A := A) (s2.trans s3)).trans g4
      have mS : m ∉ S := (W1.go (Go.same s2)).fresh hm2
      have dS : dl ∉ S := W1.fresh hdl
      obtain ⟨v, hv, hvm⟩ := at_in (l := [.non, .str (Str.ofString "0"), .int 0, .ref dl, .bl true]) r0 r1
      refine ⟨m, _, r, v, rfl, rfl, SqL.of (g4.keep _ _ (fun q => mS (W.sub _ q)) q3), hv, _, rfl, by show 2 ≤ sizeLine; exact szl rfl, fun p hp => ?_⟩
      have d4 := g4.keep _ _ (fun q => dS (W.sub _ q)) (s3 _ _ q2)
      have fin : ∀ d : D, Rp S H4 v d → d.seq? = none → Q (.ref p) (upd H4 p (.lst [v, .int (-1)])) := fun d rd hs =>
        k p v (-1) d _ ((g1.trans g14).trans (Go.new hp)) (Go.none W (g1.trans g14) hp) upd_same (rd.same (Same.new hp)) ⟨gd_none hs, fun ds e => by rw [hs] at e; cases e⟩ (by omega) (by omega)
      simp only [List.mem_cons, List.not_mem_nil, or_false] at hvm
      rcases hvm with rfl | rfl | rfl | rfl | rfl
      · exact fin .non .non rfl
      · exact fin (.str _) (.str _) rfl
      · exact fin (.int _) (.int _) rfl
      · exact fin .dct (.dct dS d4) rfl
      · exact fin (.bl _) (.bl _) rfl
    · have e1 := g1.keep _ _ gA eg
      refine ⟨_, rfl, _, rfl, ga, _, rfl, .inl (SqL.of e1), _, _, rfl, rfl, A, a, _, rfl, hm, W1.src, by omega, by simp; omega, fun at_ H2 a0 a1 g2 => ?_⟩
      obtain ⟨ai, rfl⟩ := Int.eq_ofNat_of_zero_le a0
      rw [List.length_map] at a1
      have ha : ai ≤ g.length := by omega
      have e2 := g2.keep _ _ gA e1
      have W2 := W1.go g2
      have g12 := g1.trans g2
      clear g1 g2 e1 W1
      refine ⟨_, rfl, _, rfl, _, rfl, ga, _, rfl, SqL.of e2, fun sl hsl => ?_⟩
      rw [cut_to _ _ (by rw [List.length_map]; exact ha), ← List.map_take]
      refine ⟨sl, _, rfl, .inl (SqL.of upd_same), fun ah hah => ?_⟩
      have s3 := (Same.new (o := .lst ((g.take ai).map V.int)) hsl).trans (Same.new (o := .lst ((g.take ai).map V.int)) hah)
      have qa : upd (upd H2 sl (.lst ((g.take ai).map V.int))) ah (.lst ((g.take ai).map V.int)) ah = some (.lst ((g.take ai).map V.int)) := upd_same
      have ahS : ah ∉ S := (W2.go (Go.new hsl)).fresh hah
      generalize upd (upd H2 sl (.lst ((g.take ai).map V.int))) ah (.lst ((g.take ai).map V.int)) = H3 at s3 qa ⊢
      refine ⟨_, rfl, _, rfl, by show 1 ≤ sizeLine; exact szl rfl, fun l0 hl0 => ?_⟩
      refine ⟨_, rfl, _, _, rfl, rfl, ⟨by decide, by decide, by decide⟩, _, _, rfl, rfl, _, rfl, _, _, rfl, rfl, _, rfl, _, rfl, by show 10 ≤ sizeLine; exact szl rfl, fun m hm2 => ?_⟩
      have s4 : Same H3 (upd H3 l0 (.lst [.int 0])) := Same.new hl0
      have q4 : upd H3 l0 (.lst [.int 0]) l0 = some (.lst [.int 0]) := upd_same
      generalize upd H3 l0 (.lst [.int 0]) = H4 at s4 q4 hm2 ⊢
      have s5 := Same.new (o := .lst [.int n, .int (-1), .bl true, .non, .str (Str.ofString "0"), .ref l0, .int (n + (10 : Int) ^ (30 : Int).toNat), .bl false, .int (n + 1), .int (-n)]) hm2
      have q5 : upd H4 m (.lst [.int n, .int (-1), .bl true, .non, .str (Str.ofString "0"), .ref l0, .int (n + (10 : Int) ^ (30 : Int).toNat), .bl false, .int (n + 1), .int (-n)]) m = _ := upd_same
      have W4 := W2.go (Go.same (s3.trans s4))
      have mS : m ∉ S := W4.fresh hm2
      have l0S : l0 ∉ S := (W2.go (Go.same s3)).fresh hl0
      have s25 := s3.trans (s4.trans s5)
      have W5 := W2.go (Go.same s25)
      refine ⟨_, rfl, _, rfl, _, rfl, m, _, rfl, .inl (SqL.of q5), A, a, _, rfl, hm, W5.src, by show (0:Int) < 10; decide, by show (10:Int) < 2 ^ 30; decide, fun r H6 r0 r1 g6 => ?_⟩
      obtain ⟨v, hv, hvm⟩ := at_in r0 r1
      have nA : ∀ {c}, c ∉ S → c ∉ A := fun h q => h (W.sub _ q)
      have q6 := g6.keep _ _ (nA l0S) (s5 _ _ q4)
      have W6 := W5.go g6
      have g26 := (Go.same (A := A) s25).trans g6
      have eg6 := g26.keep _ _ gA e2
      have eh6 := g6.keep _ _ (nA ahS) (s5 _ _ (s4 _ _ qa))
      refine ⟨m, _, r, v, rfl, rfl, SqL.of (g6.keep _ _ (nA mS) q5), hv, ?_⟩
      have bad : BadG S H6 n (g.take ai) v := by
        have nn : ∀ z : Int, (z < 0 ∨ (n : Int) ≤ z) → BadG S H6 n (g.take ai) (.int z) := fun z hz => ⟨.int z, .int z, fun rs e => (by cases e), .inl (by rw [inr_int]; rcases hz with h | h <;> simp <;> omega)⟩
        simp only [List.mem_cons, List.not_mem_nil, or_false] at hvm
        rcases hvm with rfl | rfl | rfl | rfl | rfl | rfl | rfl | rfl | rfl | rfl
        · exact nn _ (by omega)
        · exact nn _ (by omega)
        · exact ⟨.bl true, .bl true, fun rs e => (by cases e), .inl rfl⟩
        · exact ⟨.non, .non, fun rs e => (by cases e), .inl rfl⟩
        · exact ⟨.str _, .str _, fun rs e => (by cases e), .inl rfl⟩
        · exact ⟨.lst [.int 0], .lst l0S q6 (.cons (.int 0) .nil), fun rs e => (by cases e; decide), .inl rfl⟩
        · exact nn _ (by have : (0 : Int) ≤ 10 ^ (30 : Int).toNat := by decide
                         omega)
        · exact ⟨.bl false, .bl false, fun rs e => (by cases e), .inl rfl⟩
        · exact nn _ (by omega)
        · exact nn _ (by omega)
      have k6 := (k.on W g12).on W2 g26
      refine ⟨_, rfl, _, _, rfl, rfl, _, rfl, ite2 (fun h0 => ⟨_, rfl, by show 3 ≤ sizeLine; exact szl rfl, fun l7 hl7 => ?_⟩) (fun _ => iteF ?_)⟩
      · have h0 : (0 : Int) < (ai : Int) := of_decide_eq_true h0
        obtain ⟨bs, p, e1, ep, e3⟩ := last_take (by omega) ha
        have s7 := Same.new (o := .tup [.int 1, .int 2, .int 5]) hl7
        refine ⟨l7, [.int 1, .int 2, .int 5], rfl, .inr (.inl (.inl upd_same)), rfl, rfl, _, rfl, ?_⟩
        have W7 := W6.go (Go.same s7)
        have k7 := k6.on W6 (Go.same s7)
        refine ite2 (fun _ => ?_) (fun _ => ?_)
        · have ip := inn p ep
          refine ⟨_, rfl, _, rfl, _, rfl, _, _, rfl, rfl, ah, _, _, .int p, rfl, rfl, SqL.of (s7 _ _ eh6), e3, _, _, rfl, rfl, A, a, _, rfl, hm, W7.src, by omega, by omega, fun z H8 z0 z1 g8 => ?_⟩
          exact good_tail2 hm (W7.go g8) ng (g8.keep _ _ gA (s7 _ _ eg6)) ahS (g8.keep _ _ (nA ahS) (s7 _ _ eh6)) ⟨.int z, .int z, fun rs e => (by cases e), .inr ⟨bs, p, z, e1, rfl, by omega⟩⟩ ha (by omega) asc inn (k7.on W7 g8)
        · exact good_tail2 hm W7 ng (s7 _ _ eg6) ahS (s7 _ _ eh6) (bad.go W6 (Go.same s7)) ha (by omega) asc inn k7
      · exact good_tail2 hm W6 ng eg6 ahS eh6 bad ha (by omega) asc inn k6
end

/-! ### _law_wrong_text -/
abbrev sWrongTx : Stmt := top 63
def NoTx (al : Str) (d : D) (i : Int) : Prop := d.fault al 40 = some i ∧ ∀ z, d = .str z → z.length ≤ 1000
def spWrongTx : Sp := fun vs H Q _ => ∃ (A S : List Addr) (a : Addr) (al : Str), vs = [.ref a, .str al] ∧ a ∈ A ∧ Wd A S H ∧ IsAl al ∧ Pair A S H (NoTx al) Q
def LETS : Str := "abcdefghijklmnopqrstuvwxyz"
def outL (al : Str) (i : Nat) : List Nat := (LETS.cps.toList.take i).filter fun c => !decide (c ∈ al.cps.toList)
theorem outL_snoc {al : Str} {i c : Nat} (h : LETS.cps.toList[i]? = some c) : outL al (i + 1) = outL al i ++ (if (!decide (c ∈ al.cps.toList)) = true then [c] else []) := by
  unfold outL
  rw [take_snoc h, List.filter_append, List.filter_cons]
  rfl
theorem outL_pos {al : Str} (h : IsAl al) : 0 < (outL al 26).length ∧ (outL al 26).length ≤ 26 := by
  obtain ⟨l, hl, rfl⟩ := h
  revert l
  decide +kernel
theorem odd_out {al : Str} (h : IsAl al) : ∀ c ∈ [65, 48, 32, 126, 10], c ∉ al.cps.toList := by
  obtain ⟨l, hl, rfl⟩ := h
  revert l
  decide +kernel
theorem tx_long {al z : Str} (h : z.length = 41) : NoTx al (.str z) (-1) := by
  refine ⟨?_, fun y e => by cases e; omega⟩
  rw [fault_str, if_pos (by omega)]
theorem tx_at {al : Str} {cs ds : List Nat} {c : Nat} (h1 : ∀ c ∈ cs, c ∈ al.cps.toList) (h2 : c ∉ al.cps.toList) (hl : cs.length + 1 + ds.length ≤ 40) : NoTx al (.str (SX.S (cs ++ [c] ++ ds))) (cs.length : Int) := by
  have e1 : (SX.S (cs ++ [c] ++ ds)).length = cs.length + 1 + ds.length := by simp [SX.S, Str.length]; omega
  have e2 : (SX.S (cs ++ [c] ++ ds)).cps.toList = cs ++ [c] ++ ds := by simp [SX.S]
  refine ⟨?_, fun y e => by cases e; omega⟩
  rw [fault_str, if_neg (by omega), e2]
  refine find_at (e := c) (fun k hk => ⟨cs[k], ?_, ?_⟩) ?_ (by simp [h2])
  · rw [List.append_assoc, List.getElem?_append_left hk, List.getElem?_eq_getElem hk]
  · simp [h1 cs[k] (List.getElem_mem hk)]
  · rw [List.append_assoc, List.getElem?_append_right (Nat.le_refl _), Nat.sub_self]
    rfl
theorem S_cat (a b : List Nat) : SX.S a ++ SX.S b = SX.S (a ++ b) := by
  show Str.mk _ = Str.mk _
  simp [SX.S]
theorem S_len (a : List Nat) : (SX.S a).length = a.length := by simp [SX.S, Str.length]
section
open PyProof.Rows
variable {P : Program} {w : World} {K : PySem.W.Frag} {mg : Str → Option Value} {base : Heap}
/-- behind the drawn place -/
theorem text_tail {A S : List Addr} {H1 : Hp} {a : Addr} {al : Str} {c : Nat} {at_ : Int} {Q : VK} {b2 b3 b5 b7 b8 b9 : Option V} (hm : a ∈ A) (W : Wd A S H1) (hal : IsAl al) (hc : c ∉ al.cps.toList) (h0 : 0 ≤ at_) (h1 : at_ < 40) (k : Pair A S H1 (NoTx al) Q) :
    tSeq (tAsg (tCall spPick [] C8.E0 (tCons (tVar 0) (tCons (tCB (fun xs H Q => ∃ i j, xs = [V.int i, V.int j] ∧ Q (V.int (if j < i then j else i)) H) (tCons (tC (V.int 8)) (tCons (tOp (rI0 fun i j => V.int (i - j)) (tC (V.int 40)) (tVar 6)) tNil))) tNil))) (gName 7))
      (tSeq (tAsg (tOp (fun x y H Q => ∃ i j, x = V.str i ∧ y = V.str j ∧ i.length + j.length ≤ sizeLine ∧ Q (V.str (i ++ j)) H) (tCall spLetters [] C8.E0 (tCons (tVar 0) (tCons (tVar 1) (tCons (tVar 6) tNil)))) (tVar 4)) (gName 5))
        (tSeq (tFor (iRng1 (tCons (tVar 7) tNil)) (gName 8) (tAsg (tOp (fun x y H Q => ∃ i j, x = V.str i ∧ y = V.str j ∧ i.length + j.length ≤ sizeLine ∧ Q (V.str (i ++ j)) H) (tVar 5) (tIf (tTest (tOp rEq (tCall spPick [] C8.E0 (tCons (tVar 0) (tCons (tC (V.int 5)) tNil))) (tC (V.int 2)))) (tVar 4) (tOp rIxS (tVar 1) (tC (V.int 0))))) (gName 5)))
          (tRet (tLst (tCons (tVar 5) (tCons (tVar 6) tNil))))))
      { nx := fun _ H' => Q V.non H', rt := Q } [some (.ref a), some (.str al), b2, b3, some (.str (SX.S [c])), b5, some (.int at_), b7, b8, b9] H1 := by
  have hl := hal.len
  have hsz : al.length ≤ sizeLine := Nat.le_trans hl.2 (by decide)
  refine ⟨_, rfl, _, rfl, _, _, rfl, rfl, _, _, rfl, A, a, _, rfl, hm, W.src, by split <;> omega, by split <;> omega, fun be H2 b0 b1 g2 => ?_⟩
  have hbe : be < 40 - at_ := by revert b1; split <;> omega
  obtain ⟨ai, rfl⟩ := Int.eq_ofNat_of_zero_le h0
  obtain ⟨bi, rfl⟩ := Int.eq_ofNat_of_zero_le b0
  have W2 := W.go g2
  refine ⟨_, rfl, _, rfl, _, rfl, A, a, al, _, rfl, hm, W2.src, hal, by omega, by omega, fun cs H3 hcs hcl g3 => ?_⟩
  have W3 := W2.go g3
  have k3 := (k.on W g2).on W2 g3
  clear k
  have hcl : cs.length = ai := by omega
  refine ⟨_, rfl, _, _, rfl, rfl, by rw [S_len, S_len]; exact Nat.le_trans (show cs.length + [c].length ≤ 50 by simp; omega) (szl rfl), ?_⟩
  rw [S_cat]
  refine ⟨_, rfl, (bi : Int), rfl, by omega, by omega, ?_⟩
  refine for_it (walk_range (lo := 0)) (fun i σ H' => Iv (Go A H3 H' ∧ ∃ (ds : List Nat) (b : Option V), ds.length = i ∧ σ = [some (.ref a), some (.str al), b2, b3, some (.str (SX.S [c])), some (.str (SX.S (cs ++ [c] ++ ds))), some (.int ai), some (.int bi), b, b9])) (.of ⟨Go.refl _ _, [], _, rfl, by rw [List.append_nil]; rfl⟩) (fun _ _ _ _ _ => trivial) (fun i y σ H4 H5 hi hp hy => ?_) (fun σ H4 hp => ?_)
  · obtain ⟨g4, ds, b, hds, rfl⟩ := hp.get
    obtain ⟨rfl, rfl⟩ := hy
    have hi : i < bi := by simpa using hi
    have W4 := W3.go g4
    have add : ∀ (e : Nat) (H6 : Hp), Go A H3 H6 → (SX.S (cs ++ [c] ++ ds)).length + (SX.S [e]).length ≤ sizeLine ∧ SX.S (cs ++ [c] ++ ds) ++ SX.S [e] = SX.S (cs ++ [c] ++ (ds ++ [e])) := fun e H6 g6 => by
      rw [S_len, S_len, S_cat]
      exact ⟨Nat.le_trans (show (cs ++ [c] ++ ds).length + [e].length ≤ 100 by simp; omega) (szl rfl), by simp⟩
    refine ⟨_, rfl, _, rfl, A, a, _, rfl, hm, W4.src, by omega, by omega, fun r H6 _ _ g6 => ?_⟩
    refine ⟨rfl, _, rfl, ?_⟩
    have g36 := g4.trans g6
    refine ite2 (fun _ => ?_) (fun _ => ?_)
    · refine ⟨_, rfl, _, _, rfl, rfl, (add c H6 g36).1, ?_⟩
      rw [(add c H6 g36).2]
      exact .of ⟨g36, ds ++ [c], _, by simp; omega, rfl⟩
    · obtain ⟨e, he, hat⟩ := sign_at (al := al) (r := 0) (by omega) (by omega)
      refine ⟨_, rfl, _, _, e, rfl, rfl, hsz, hat, _, _, rfl, rfl, (add e H6 g36).1, ?_⟩
      have e2 := (add e H6 g36).2
      refine .of ⟨g36, ds ++ [e], some (.int (0 + (i : Int))), by simp; omega, ?_⟩
      show _ = [some (.ref a), some (.str al), b2, b3, some (.str (SX.S [c])), some (.str (SX.S (cs ++ [c] ++ (ds ++ [e])))), some (.int ai), some (.int bi), some (.int (0 + (i : Int))), b9]
      rw [← e2]
      rfl
  · obtain ⟨g4, ds, b, hds, rfl⟩ := hp.get
    have hds : ds.length = bi := by simpa using hds
    refine ⟨_, rfl, _, rfl, by show 2 ≤ sizeLine; exact szl rfl, fun p hp => ?_⟩
    refine k3 p _ ai (.str (SX.S (cs ++ [c] ++ ds))) _ (g4.trans (Go.new hp)) (Go.none W3 g4 hp) upd_same (.str _) ?_ (by omega) (by omega)
    rw [← hcl]
    exact tx_at hcs hc (by omega)
theorem scWrongTx : FnScope ["source", "alphabet", "way", "outs", "odd", "text", "at", "behind", "k", "letter"] ["source", "alphabet"] (C8.fnScope sWrongTx) := C8.fnScope_by (by decide +kernel)
theorem ok_wrongtx {f : Addr} {fd : FuncData} (F : C8.Def K mg "_law_wrong_text" sWrongTx f fd) (b : Binds K fd ["source", "alphabet"] []) (T : Txt mg) (c_law_pick : C8.Cal P w K mg base 1 "_law_pick" spPick []) (c_law_letters : C8.Cal P w K mg base 2 "_law_letters" spLetters []) : C8.Cal P w K mg base 3 "_law_wrong_text" spWrongTx [] := by
  refine C8.cal0 F b .nil scWrongTx (fun vs H Q E h => ?_) (fun cdv A0 outer s H vs Q E hr h => ?_)
  · obtain ⟨A, S, a, al, rfl, _⟩ := h
    rfl
  · obtain ⟨A, S, a, al, rfl, hm, W, hal, k⟩ := h
    have sc := scWrongTx
    have hlen := hal.len
    refine ⟨_, -- _law_wrong_text: 0 source 1 alphabet* 2 way 3 outs 4 odd 5 text 6 at 7 behind 8 k 9 letter

      (pss_cons (ps_set (i := 2) sc.nd rfl (Or.inl rfl) (C8.pe_c c_law_pick hr (by decide) rfl (pa_cons (pv 0) (pa_cons pe_int pa_nil))))
      (pss_cons (ps_if (pt_cmpR op_eq (pv 2) pe_int (nomark _)) 
        (pss_one (ps_ret (pe_lst (pa_cons (pe_ix ix_list (pe_lst (pa_cons pe_non (pa_cons pe_int (pa_cons pe_bl (pa_cons (pe_lst (pa_cons pe_str pa_nil)) (pa_cons (pe_tup pa_nil) (pa_cons pe_dnewK pa_nil))))))) (C8.pe_c c_law_pick hr (by decide) rfl (pa_cons (pv 0) (pa_cons pe_int pa_nil))) (fun _ _ => rfl)) (pa_cons (pe_un un_neg pe_int) pa_nil))))) pss_nil)
      (pss_cons (ps_setLc (i := 3) (own := [("letter", 9)]) (g := gName 9) rfl sc.nd rfl rfl (sw_true rfl rfl rfl (by decide +kernel)) (pi_str pe_str) (blkOk_by (own := [("letter", 9)]) (by kernel_rfl)) (fun _ _ _ _ _ => (pg_name (i := 9) sc.nd rfl (Or.inl rfl))) (fun _ _ _ _ _ => (pts_one (pt_cmpR op_notIn_sign (pv 9) (pv 1) (by rfl)))) (fun _ _ _ _ _ => (pv 9)))
      (pss_cons (ps_set (i := 4) sc.nd rfl (Or.inl rfl) (pe_ix ix_list (pe_lst (pa_cons pe_str (pa_cons pe_str (pa_cons pe_str (pa_cons pe_str (pa_cons pe_str (pa_cons (pe_ix ix_list (pv 3) (C8.pe_c c_law_pick hr (by decide) rfl (pa_cons (pv 0) (pa_cons (pe_callB (call_lenQ (K := K) rfl) (by rfl) T.len PySem.boot_len (pa_cons (pv 3) pa_nil)) pa_nil))) (fun _ _ => rfl)) pa_nil))))))) (C8.pe_c c_law_pick hr (by decide) rfl (pa_cons (pv 0) (pa_cons pe_int pa_nil))) (fun _ _ => rfl)))
      (pss_cons (ps_if (pt_cmpR op_eq (pv 2) pe_int (nomark _)) 
        (pss_cons (ps_set (i := 5) sc.nd rfl (Or.inl rfl) (C8.pe_c c_law_letters hr (by decide) rfl (pa_cons (pv 0) (pa_cons (pv 1) (pa_cons pe_int pa_nil)))))
        (pss_cons (ps_if (pt_cmpR op_eq (C8.pe_c c_law_pick hr (by decide) rfl (pa_cons (pv 0) (pa_cons pe_int pa_nil))) pe_int (nomark _)) 
          (pss_one (ps_set (i := 5) sc.nd rfl (Or.inl rfl) (pe_op op_add_str (pv 4) (pe_slice C8.sl_txt (pv 5) (po_some pe_int) po_none)))) pss_nil)
        (pss_one (ps_ret (pe_lst (pa_cons (pv 5) (pa_cons (pe_un un_neg pe_int) pa_nil))))))) pss_nil)
      (pss_cons (ps_set (i := 6) sc.nd rfl (Or.inl rfl) (C8.pe_c c_law_pick hr (by decide) rfl (pa_cons (pv 0) (pa_cons pe_int pa_nil))))
      (pss_cons (ps_if (pt_cmpR op_eq (pv 2) pe_int (nomark _)) 
        (pss_one (ps_set (i := 6) sc.nd rfl (Or.inl rfl) (C8.pe_c c_law_pick hr (by decide) rfl (pa_cons (pv 0) (pa_cons pe_int pa_nil))))) pss_nil)
      (pss_cons (ps_set (i := 7) sc.nd rfl (Or.inl rfl) (C8.pe_c c_law_pick hr (by decide) rfl (pa_cons (pv 0) (pa_cons (pe_callB (id := "min") (call_min2 rfl) (by rfl) T.min (by decide +kernel) (pa_cons pe_int (pa_cons (pe_op op_sub pe_int (pv 6)) pa_nil))) pa_nil))))
      (pss_cons (ps_set (i := 5) sc.nd rfl (Or.inl rfl) (pe_op op_add_str (C8.pe_c c_law_letters hr (by decide) rfl (pa_cons (pv 0) (pa_cons (pv 1) (pa_cons (pv 6) pa_nil)))) (pv 4)))
      (pss_cons (ps_for PassesOwn.never rfl (pi_range1 (by rfl) T.range (pa_cons (pv 7) pa_nil)) (pg_name (i := 8) sc.nd rfl (Or.inl rfl)) 
        (pss_one (ps_set (i := 5) sc.nd rfl (Or.inl rfl) (pe_op op_add_str (pv 5) (pe_ifExp (pt_cmpR op_eq (C8.pe_c c_law_pick hr (by decide) rfl (pa_cons (pv 0) (pa_cons pe_int pa_nil))) pe_int (nomark _)) (pv 4) (pe_ix ix_str (pv 1) pe_int (fun _ _ => rfl)))))))
      (pss_one (ps_ret (pe_lst (pa_cons (pv 5) (pa_cons (pv 6) pa_nil))))))))))))))), ?_⟩
    refine ⟨_, rfl, A, a, _, rfl, hm, W.src, by omega, by omega, fun way H1 w0 w1 g1 => ?_⟩
    have W1 := W.go g1
    have k1 := k.on W g1
    clear k
    refine ⟨_, rfl, rfl, _, rfl, ?_⟩
    refine ite2 (fun _ => ?_) (fun _ => ?_)
    · refine ⟨by show 1 ≤ sizeLine; exact szl rfl, fun l1 hl1 => ⟨Nat.zero_le _, fun l2 hl2 dl hdl => ⟨by show 6 ≤ sizeLine; exact szl rfl, fun m hm2 => ?_⟩⟩⟩
      have s1 : Same H1 (upd H1 l1 (.lst [.str (Str.ofString "a")])) := Same.new hl1
      have q1 : upd H1 l1 (.lst [.str (Str.ofString "a")]) l1 = some (.lst [.str (Str.ofString "a")]) := upd_same
      generalize upd H1 l1 (.lst [.str (Str.ofString "a")]) = H2 at *
      have s2 : Same H2 (upd H2 l2 (.tup [])) := Same.new hl2
      have q2 : upd H2 l2 (.tup []) l2 = some (.tup []) := upd_same
      generalize upd H2 l2 (.tup []) = H3 at *
      have s3 : Same H3 (upd H3 dl (.dK [])) := Same.new hdl
      have q3 : upd H3 dl (.dK []) dl = some (.dK []) := upd_same
      generalize upd H3 dl (.dK []) = H4 at *
      have s4 := Same.new (o := .lst [.non, .int 5, .bl true, .ref l1, .ref l2, .ref dl]) hm2
      have q4 : upd H4 m (.lst [.non, .int 5, .bl true, .ref l1, .ref l2, .ref dl]) m = some (.lst [.non, .int 5, .bl true, .ref l1, .ref l2, .ref dl]) := upd_same
      generalize upd H4 m (.lst [.non, .int 5, .bl true, .ref l1, .ref l2, .ref dl]) = H5 at *
      have s15 := ((s1.trans s2).trans s3).trans s4
      have W5 := W1.go (Go.same s15)
      have mS : m ∉ S := (W1.go (Go.same ((s1.trans s2).trans s3))).fresh hm2
      have dS : dl ∉ S := (W1.go (Go.same (s1.trans s2))).fresh hdl
      have l2S : l2 ∉ S := (W1.go (Go.same s1)).fresh hl2
      have l1S : l1 ∉ S := W1.fresh hl1
      have nA : ∀ {c}, c ∉ S → c ∉ A := fun h q => h (W.sub _ q)
      refine ⟨_, rfl, A, a, _, rfl, hm, W5.src, by omega, by omega, fun r H6 r0 r1 g6 => ?_⟩
      obtain ⟨v, hv, hvm⟩ := at_in (l := [.non, .int 5, .bl true, .ref l1, .ref l2, .ref dl]) r0 r1
      refine ⟨m, _, r, v, rfl, rfl, SqL.of (g6.keep _ _ (nA mS) q4), hv, _, rfl, by show 2 ≤ sizeLine; exact szl rfl, fun p hp => ?_⟩
      have d6 := g6.keep _ _ (nA dS) (s4 _ _ q3)
      have t6 := g6.keep _ _ (nA l2S) (s4 _ _ (s3 _ _ q2))
      have u6 := g6.keep _ _ (nA l1S) (s4 _ _ (s3 _ _ (s2 _ _ q1)))
      have g16 := (Go.same (A := A) s15).trans g6
      have fin : ∀ d : D, Rp S H6 v d → NoTx al d (-1) → Q (.ref p) (upd H6 p (.lst [v, .int (-1)])) := fun d rd hs =>
        k1 p v (-1) d _ (g16.trans (Go.new hp)) (Go.none W1 g16 hp) upd_same (rd.same (Same.new hp)) hs (by omega) (by omega)
      simp only [List.mem_cons, List.not_mem_nil, or_false] at hvm
      rcases hvm with rfl | rfl | rfl | rfl | rfl | rfl
      · exact fin .non .non ⟨rfl, fun z e => by cases e⟩
      · exact fin (.int 5) (.int 5) ⟨rfl, fun z e => by cases e⟩
      · exact fin (.bl _) (.bl _) ⟨rfl, fun z e => by cases e⟩
      · exact fin (.lst [.str _]) (.lst l1S u6 (.cons (.str _) .nil)) ⟨rfl, fun z e => by cases e⟩
      · exact fin (.tup []) (.tup l2S t6 .nil) ⟨rfl, fun z e => by cases e⟩
      · exact fin .dct (.dct dS d6) ⟨rfl, fun z e => by cases e⟩
    · refine ⟨_, rfl, fun L hL => lc_D (A := A) (S := S) (j := 9) (Xp := fun i x => ∃ c, LETS.cps.toList[i]? = some c ∧ x = .str ⟨#[c]⟩) (fun i ds => ds = (outL al i).map fun c => D.str ⟨#[c]⟩)
        walk_str (fun i H x H' _ y => ⟨y.1, ?_⟩) W1 hL (show LETS.cps.size ≤ 100000 by decide) (fun _ _ => trivial) rfl (fun i ds h => ?_) (fun _ => rfl) (fun i ds x H2 hi h hx W2 k2 Kt Kf ht hf => ?_) (fun ys ds H2 h g2 hL2 hr2 => ?_)⟩
      · obtain ⟨c, hc, e⟩ := y.2
        exact ⟨c, by rw [Array.getElem?_toList]; exact hc, e⟩
      · rw [h, List.length_map]
        exact Nat.le_trans (List.length_filter_le _ _) (by rw [List.length_take]; omega)
      · obtain ⟨c, hc, rfl⟩ := hx
        subst h
        have hs := outL_snoc (al := al) hc
        refine ⟨_, rfl, _, rfl, c, al, rfl, rfl, _, rfl, ?_⟩
        cases hcc : (!decide (c ∈ al.cps.toList)) with
        | false =>
          rw [hcc] at hs
          exact iteF (hf _ (Go.refl _ _) (by rw [hs]; simp))
        | true =>
          rw [hcc] at hs
          exact iteT ⟨_, rfl, ht _ (.str ⟨#[c]⟩) _ (Go.refl _ _) (.str _) (by rw [hs]; simp)⟩
      · have ho := outL_pos hal
        have h : ds = (outL al 26).map fun c => D.str ⟨#[c]⟩ := h
        subst h
        have ey : ys = ((outL al 26).map fun c => (⟨#[c]⟩ : Str)).map V.str := by
          have : ((outL al 26).map fun c => D.str ⟨#[c]⟩) = ((outL al 26).map fun c => (⟨#[c]⟩ : Str)).map D.str := by rw [List.map_map]; rfl
          rw [this] at hr2
          exact hr2.strs_eq
        subst ey
        have W2 := W1.go g2
        have LS : L ∉ S := W1.fresh hL
        have LA : L ∉ A := fun q => LS (W.sub _ q)
        refine ⟨_, rfl, _, rfl, _, rfl, L, _, rfl, .inl (SqL.of hL2), A, a, _, rfl, hm, W2.src, by simp; omega, by simp; omega, fun r H3 r0 r1 g3 => ?_⟩
        obtain ⟨v, hv, hvm⟩ := at_in r0 r1
        obtain ⟨y, hy, rfl⟩ := List.mem_map.mp hvm
        obtain ⟨oc, hoc, rfl⟩ := List.mem_map.mp hy
        have oco : oc ∉ al.cps.toList := by
          have := (List.mem_filter.mp hoc).2
          simpa using this
        have W3 := W2.go g3
        refine ⟨L, _, r, _, rfl, rfl, SqL.of (g3.keep _ _ LA hL2), hv, by show 6 ≤ sizeLine; exact szl rfl, fun m hm2 => ?_⟩
        have s4 := Same.new (o := .lst [.str (Str.ofString "A"), .str (Str.ofString "0"), .str (Str.ofString " "), .str (Str.ofString "~"), .str (Str.ofString "\n"), .str ⟨#[oc]⟩]) hm2
        have q4 : upd H3 m (.lst [.str (Str.ofString "A"), .str (Str.ofString "0"), .str (Str.ofString " "), .str (Str.ofString "~"), .str (Str.ofString "\n"), .str ⟨#[oc]⟩]) m = _ := upd_same
        have W4 := W3.go (Go.same s4)
        have mA : m ∉ A := fun q => (W3.fresh hm2) (W.sub _ q)
        refine ⟨_, rfl, A, a, _, rfl, hm, W4.src, by omega, by omega, fun r2 H5 r20 r21 g5 => ?_⟩
        obtain ⟨v2, hv2, hvm2⟩ := at_in (l := [.str (Str.ofString "A"), .str (Str.ofString "0"), .str (Str.ofString " "), .str (Str.ofString "~"), .str (Str.ofString "\n"), .str ⟨#[oc]⟩]) r20 r21
        refine ⟨m, _, r2, v2, rfl, rfl, SqL.of (g5.keep _ _ mA q4), hv2, ?_⟩
        obtain ⟨c, rfl, hc⟩ : ∃ c, v2 = .str (SX.S [c]) ∧ c ∉ al.cps.toList := by
          have oo := odd_out hal
          simp only [List.mem_cons, List.not_mem_nil, or_false] at hvm2
          rcases hvm2 with rfl | rfl | rfl | rfl | rfl | rfl
          · exact ⟨65, rfl, oo _ (by decide)⟩
          · exact ⟨48, rfl, oo _ (by decide)⟩
          · exact ⟨32, rfl, oo _ (by decide)⟩
          · exact ⟨126, rfl, oo _ (by decide)⟩
          · exact ⟨10, rfl, oo _ (by decide)⟩
          · exact ⟨oc, rfl, oco⟩
        have g25 := g2.trans (g3.trans ((Go.same s4).trans g5))
        have W5 := W4.go g5
        have k5 := k1.on W1 g25
        clear k1 hv hvm hy hoc oco hv2 q4 s4 W4 W3 W2 hL2 hr2 g25 g5 g3 g2
        refine ⟨_, rfl, rfl, _, rfl, ?_⟩
        refine ite2 (fun _ => ?_) (fun _ => ?_)
        · refine ⟨_, rfl, _, rfl, A, a, al, _, rfl, hm, W5.src, hal, by omega, by omega, fun cs H6 hcs hcl g6 => ?_⟩
          have W6 := W5.go g6
          refine ⟨_, rfl, A, a, _, rfl, hm, W6.src, by omega, by omega, fun r3 H7 _ _ g7 => ?_⟩
          have W7 := W6.go g7
          have k7 := (k5.on W5 g6).on W6 g7
          have fin : ∀ z : Str, z.length = 41 → ∀ p, H7 p = none → Q (.ref p) (upd H7 p (.lst [.str z, .int (-1)])) := fun z hz p hp => k7 p _ (-1) (.str z) _ (Go.new hp) hp upd_same (.str z) (tx_long hz) (by omega) (by omega)
          refine ⟨rfl, _, rfl, ?_⟩
          refine ite2 (fun _ => ?_) (fun _ => ?_)
          · refine ⟨_, rfl, _, rfl, _, rfl, _, rfl, by rw [S_len]; exact Nat.le_trans (show cs.length ≤ 50 by omega) (szl rfl), ?_⟩
            rw [SX.slice_from (by decide)]
            refine ⟨_, _, rfl, rfl, by rw [S_len, S_len]; exact Nat.le_trans (show [c].length + (cs.drop (1 : Int).toNat).length ≤ 100 by simp; omega) (szl rfl), ?_⟩
            rw [S_cat]
            exact ⟨_, rfl, _, rfl, by show 2 ≤ sizeLine; exact szl rfl, fun p hp => fin _ (by rw [S_len]; simp; omega) p hp⟩
          · exact ⟨_, rfl, _, rfl, by show 2 ≤ sizeLine; exact szl rfl, fun p hp => fin _ (by rw [S_len]; omega) p hp⟩
        · refine ⟨_, rfl, A, a, _, rfl, hm, W5.src, by omega, by omega, fun at_ H6 a0 a1 g6 => ?_⟩
          have W6 := W5.go g6
          refine ⟨_, rfl, rfl, _, rfl, ?_⟩
          refine ite2 (fun _ => ?_) (fun _ => ?_)
          · refine ⟨_, rfl, A, a, _, rfl, hm, W6.src, by omega, by omega, fun at2 H7 a20 a21 g7 => ?_⟩
            exact text_tail hm (W6.go g7) hal hc a20 a21 ((k5.on W5 g6).on W6 g7)
          · exact text_tail hm W6 hal hc a0 (by omega) (k5.on W5 g6)
end

/-! ### _law_wrong_moves -/
abbrev sWrongMv : Stmt := top 61
def NoMv (k : Nat) (d : D) (i : Int) : Prop := d.mvFault k = some i ∧ d.fit
def spWrongMv : Sp := fun vs H Q _ => ∃ (A S : List Addr) (a : Addr) (v : V) (k : Nat) (mv : List (List Int)) (g : List Int), vs = [.ref a, v, .int k] ∧ a ∈ A ∧ Wd A S H ∧ Rp S H v (mvD mv) ∧ Mach k mv g ∧ 1 ≤ k ∧ k ≤ 3 ∧ Pair A S H (NoMv k) Q
theorem fit_none {d : D} (h : d.seq? = none) : d.fit := fun ds e => by rw [h] at e; cases e
/-- rows at L, the one at place i a list of its own at b -/
structure Rw (k : Nat) (S : List Addr) (H : Hp) (L : Addr) (mv : List (List Int)) (i : Nat) (b : Addr) (r : List Int) : Prop where
  ex : ∃ (ys : List V) (ds : List D), H L = some (.lst ys) ∧ ys.length = mv.length ∧ Rps (L :: S) H ys ds ∧ ys[i]? = some (.ref b) ∧ (∀ (j : Nat) (y : V) (d : D), j ≠ i → ys[j]? = some y → ds[j]? = some d → Rp (b :: L :: S) H y d) ∧
    (∀ j, j < i → ∃ q, mv[j]? = some q ∧ ds[j]? = some (rowD q)) ∧ (∀ d ∈ ds, ∀ rs, d.seq? = some rs → rs.length ≤ 1000)
  LS : L ∉ S
  bS : b ∉ L :: S
  hb : H b = some (.lst (r.map V.int))
  row : mv[i]? = some r
theorem Rw.go {k : Nat} {A S : List Addr} {H H' : Hp} {L b : Addr} {mv : List (List Int)} {i : Nat} {r : List Int} (h : Rw k S H L mv i b r) (hA : ∀ a ∈ A, a ∈ S) (g : Go A H H') : Rw k S H' L mv i b r := by
  obtain ⟨⟨ys, ds, h1, h2, h3, h4, h5, h6, h7⟩, LS, bS, hb, row⟩ := h
  refine ⟨⟨ys, ds, g.keep _ _ (fun q => LS (hA _ q)) h1, h2, h3.keep (g.keep.mono fun a ha => List.mem_cons_of_mem _ (hA a ha)), h4, fun j y d hj e1 e2 => (h5 j y d hj e1 e2).keep (g.keep.mono fun a ha => List.mem_cons_of_mem _ (List.mem_cons_of_mem _ (hA a ha))), h6, h7⟩, LS, bS, g.keep _ _ (fun q => bS (List.mem_cons_of_mem _ (hA _ q))) hb, row⟩
/-- a later row exchanged -/
theorem Rw.later {k : Nat} {S : List Addr} {H : Hp} {L b c : Addr} {mv : List (List Int)} {i p : Nat} {r : List Int} {zs : List V} {es : List D} (h : Rw k S H L mv i b r) (hp : i < p) (hc : c ∉ b :: L :: S) (ec : H c = some (.lst zs)) (rc : Rps (b :: L :: S) H zs es) (hl : es.length ≤ 1000) :
    ∃ ys, H L = some (.lst ys) ∧ ys.length = mv.length ∧ Rw k S (upd H L (.lst (ys.set p (.ref c)))) L mv i b r := by
  obtain ⟨⟨ys, ds, h1, h2, h3, h4, h5, h6, h7⟩, LS, bS, hb, row⟩ := h
  have kL : ∀ {T : List Addr}, Keep (L :: T) H (upd H L (.lst (ys.set p (.ref c)))) := Keep.upd (List.mem_cons_self ..)
  have kb : Keep (b :: L :: S) H (upd H L (.lst (ys.set p (.ref c)))) := Keep.upd (List.mem_cons_of_mem _ (List.mem_cons_self ..))
  have bL : b ≠ L := fun e => bS (by rw [e]; exact List.mem_cons_self ..)
  have rc2 : Rp (b :: L :: S) H (.ref c) (.lst es) := .lst hc ec rc
  refine ⟨ys, h1, h2, ⟨ys.set p (.ref c), ds.set p (.lst es), upd_same, by rw [List.length_set]; exact h2, Rps.set ((rc2.less fun _ h => List.mem_cons_of_mem _ h).keep kL) p (h3.keep kL), ?_, fun j y d hj e1 e2 => ?_, fun j hj => ?_, fun d hd rs e => ?_⟩, LS, bS, (upd_ne bL).trans hb, row⟩
  · rw [List.getElem?_set_ne (by omega)]
    exact h4
  · by_cases e : j = p
    · subst e
      rw [List.getElem?_set] at e1 e2
      simp only [if_true] at e1 e2
      split at e1
      · split at e2
        · cases e1; cases e2
          exact rc2.keep kb
        · cases e2
      · cases e1
    · rw [List.getElem?_set_ne (Ne.symm e)] at e1 e2
      exact (h5 j y d hj e1 e2).keep kb
  · obtain ⟨q, q1, q2⟩ := h6 j hj
    exact ⟨q, q1, by rw [List.getElem?_set_ne (by omega)]; exact q2⟩
  · rcases List.mem_or_eq_of_mem_set hd with hd | rfl
    · exact h7 d hd rs e
    · cases e
      exact hl
theorem putK_le {κ : Type} [DecidableEq κ] (c : List (κ × V)) (k : κ) (x : V) : (putK c k x).length ≤ c.length + 1 := by
  unfold putK
  split <;> simp
/-- the row itself exchanged for d, or changed to d: what is told -/
theorem no_mv {k : Nat} {mv : List (List Int)} {g : List Int} {ds : List D} {i : Nat} {d dd : D} (M : Mach k mv g) (hs : dd.seq? = some (ds.set i d)) (hn : ds.length = mv.length) (hi : i < mv.length) (hb : ∀ j, j < i → ∃ q, mv[j]? = some q ∧ ds[j]? = some (rowD q)) (hd : d.rowOk k mv.length = false)
    (hf : ∀ d ∈ ds, ∀ rs, d.seq? = some rs → rs.length ≤ 1000) (hfd : ∀ rs, d.seq? = some rs → rs.length ≤ 1000) : NoMv k dd i := by
  have hl : (ds.set i d).length = mv.length := by rw [List.length_set]; exact hn
  have mp := M.pos
  have mm := M.most
  refine ⟨mv_at hs (by rw [hl]; exact ⟨mp, mm⟩) (fun j hj => ?_) (List.getElem?_set_self (by omega)) (by rw [hl]; exact hd), fun es e => ?_⟩
  · obtain ⟨q, q1, q2⟩ := hb j hj
    refine ⟨rowD q, by rw [List.getElem?_set_ne (by omega)]; exact q2, ?_⟩
    rw [hl]
    have hrow := M.row q (List.mem_of_getElem? q1)
    rw [row_some (ds := q.map D.int) rfl, List.length_map, decide_eq_true hrow.1, Bool.true_and, List.all_eq_true]
    intro e he
    obtain ⟨z, hz, rfl⟩ := List.mem_map.mp he
    have := hrow.2 z hz
    rw [inr_int, decide_eq_true this.1, Bool.true_and, decide_eq_true_iff]
    omega
  · rw [hs] at e
    cases e
    refine ⟨by rw [hl]; omega, fun r hr rs e => ?_⟩
    rcases List.mem_or_eq_of_mem_set hr with hr | rfl
    · exact hf r hr rs e
    · exact hfd rs e
section
open PyProof.Rows
variable {P : Program} {w : World} {K : PySem.W.Frag} {mg : Str → Option Value} {base : Heap}
theorem scWrongMv : FnScope ["source", "told", "many", "rows", "size", "way", "at", "p", "table", "t", "odd", "row"] ["source", "told", "many"] (C8.fnScope sWrongMv) := C8.fnScope_by (by decide +kernel)
theorem ok_wrongmv {f : Addr} {fd : FuncData} (F : C8.Def K mg "_law_wrong_moves" sWrongMv f fd) (b : Binds K fd ["source", "told", "many"] []) (T : Txt mg) (c_law_pick : C8.Cal P w K mg base 1 "_law_pick" spPick []) : C8.Cal P w K mg base 2 "_law_wrong_moves" spWrongMv [] := by
  refine C8.cal0 F b .nil scWrongMv (fun vs H Q E h => ?_) (fun cdv A0 outer s H vs Q E hr h => ?_)
  · obtain ⟨A, S, a, v, k, mv, g, rfl, _⟩ := h
    rfl
  · obtain ⟨A, S, a, v, k, mv, g, rfl, hm, W, hv, M, hk1, hk3, kk⟩ := h
    have sc := scWrongMv
    have hu : (A0.deeper (envOfC "_law_wrong_moves" (C8.fnScope sWrongMv) s.heap.objs.size f cdv)).units + 1 < cLine := by have := hr.units; omega
    cases hv with
    | @lst t0 xs _ n1 e1 r1 =>
    have xl := r1.len
    rw [List.length_map] at xl
    have ml := M.most
    refine ⟨_, -- _law_wrong_moves: 0 source 1 told 2 many 3 rows* 4 size* 5 way 6 at 7 p 8 table 9 t 10 odd 11 row

      (pss_cons (ps_set (i := 3) sc.nd rfl (Or.inr rfl) (pe_lc (own := [("row", 11)]) (g := gName 11) rfl sc.nd (pi_list (pv 1)) (blkOk_by (own := [("row", 11)]) (by kernel_rfl)) (fun _ _ _ _ _ => (pg_name (i := 11) sc.nd rfl (Or.inl rfl))) (fun _ _ _ _ _ => pts_nil) (fun _ _ _ _ _ => (pe_callTy (T := "list") (call_lstQ (K := K) rfl) (by rfl) T.list (by decide +kernel) (pa_cons (pv 11) pa_nil)))))
      (pss_cons (ps_set (i := 4) sc.nd rfl (Or.inr rfl) (pe_callB (call_lenQ (K := K) rfl) (by rfl) T.len PySem.boot_len (pa_cons (pv 3) pa_nil)))
      (pss_cons (ps_set (i := 5) sc.nd rfl (Or.inl rfl) (C8.pe_c c_law_pick hr (by decide) rfl (pa_cons (pv 0) (pa_cons pe_int pa_nil))))
      (pss_cons (ps_if (pt_cmpR op_eq (pv 5) pe_int (nomark _)) 
        (pss_one (ps_ret (pe_lst (pa_cons (pe_ix ix_list (pe_lst (pa_cons pe_non (pa_cons pe_str (pa_cons pe_int (pa_cons (pe_lst pa_nil) (pa_cons (pe_tup pa_nil) (pa_cons pe_bl (pa_cons pe_dnewK pa_nil)))))))) (C8.pe_c c_law_pick hr (by decide) rfl (pa_cons (pv 0) (pa_cons pe_int pa_nil))) (fun _ _ => rfl)) (pa_cons (pe_un un_neg pe_int) pa_nil))))) pss_nil)
      (pss_cons (ps_if (pt_cmpR op_eq (pv 5) pe_int (nomark _)) 
        (pss_cons (ps_set (i := 3) sc.nd rfl (Or.inr rfl) (pe_lc (own := [("p", 7)]) (g := gName 7) rfl sc.nd (pi_range1 (by rfl) T.range (pa_cons pe_int pa_nil)) (blkOk_by (own := [("p", 7)]) (by kernel_rfl)) (fun _ _ _ _ _ => (pg_name (i := 7) sc.nd rfl (Or.inl rfl))) (fun _ _ _ _ _ => pts_nil) (fun _ _ _ _ _ => (pe_callTy (T := "list") (call_lstQ (K := K) rfl) (by rfl) T.list (by decide +kernel) (pa_cons (pe_ix (ixLK (K := K) rfl) (pv 3) pe_int (fun _ _ => rfl)) pa_nil)))))
        (pss_cons (ps_if (pt_cmpR op_eq (C8.pe_c c_law_pick hr (by decide) rfl (pa_cons (pv 0) (pa_cons pe_int pa_nil))) pe_int (nomark _)) 
          (pss_one (ps_asg pe_non (pg_sub (pv 3) (C8.pe_c c_law_pick hr (by decide) rfl (pa_cons (pv 0) (pa_cons pe_int pa_nil))) set_list))) pss_nil)
        (pss_one (ps_ret (pe_lst (pa_cons (pv 3) (pa_cons (pe_un un_neg pe_int) pa_nil))))))) pss_nil)
      (pss_cons (ps_set (i := 6) sc.nd rfl (Or.inl rfl) (C8.pe_c c_law_pick hr (by decide) rfl (pa_cons (pv 0) (pa_cons (pv 4) pa_nil))))
      (pss_cons (ps_for PassesOwn.never rfl (pi_range2 (by rfl) T.range (pa_cons (pe_op op_add (pv 6) pe_int) (pa_cons (pv 4) pa_nil))) (pg_name (i := 7) sc.nd rfl (Or.inl rfl)) 
        (pss_one (ps_if (pt_cmpR op_eq (C8.pe_c c_law_pick hr (by decide) rfl (pa_cons (pv 0) (pa_cons pe_int pa_nil))) pe_int (nomark _)) 
          (pss_one (ps_asg (pe_lc (own := [("t", 9)]) (g := gName 9) rfl sc.nd (pi_range1 (by rfl) T.range (pa_cons (pv 2) pa_nil)) (blkOk_by (own := [("t", 9)]) (by kernel_rfl)) (fun _ _ _ _ _ => (pg_name (i := 9) sc.nd rfl (Or.inl rfl))) (fun _ _ _ _ _ => pts_nil) (fun _ _ _ _ _ => (pv 4))) (pg_sub (pv 3) (pv 7) set_list))) pss_nil)))
      (pss_cons (ps_if (pt_cmpR (op_inQ (K := K) rfl) (pv 5) (pe_tup (pa_cons pe_int (pa_cons pe_int pa_nil))) (by rfl)) 
        (pss_cons (ps_set (i := 8) sc.nd rfl (Or.inl rfl) pe_dnewK)
        (pss_cons (ps_for PassesOwn.never rfl (pi_range1 (by rfl) T.range (pa_cons (pv 2) pa_nil)) (pg_name (i := 9) sc.nd rfl (Or.inl rfl)) 
          (pss_one (ps_dput hu (pv 8) (pv 9) pe_int rfl)))
        (pss_cons (ps_asg (pe_ix ix_list (pe_lst (pa_cons pe_non (pa_cons pe_int (pa_cons (pe_op op_mulS pe_str (pv 2)) (pa_cons (pe_op op_cat (pe_ix ix_list (pv 3) (pv 6) (fun _ _ => rfl)) (pe_lst (pa_cons pe_int pa_nil))) (pa_cons (pe_slice sl_list (pe_ix ix_list (pv 3) (pv 6) (fun _ _ => rfl)) (po_some pe_int) po_none) (pa_cons (pv 8) (pa_cons pe_bl pa_nil)))))))) (C8.pe_c c_law_pick hr (by decide) rfl (pa_cons (pv 0) (pa_cons pe_int pa_nil))) (fun _ _ => rfl)) (pg_sub (pv 3) (pv 6) set_list))
        (pss_one (ps_ret (pe_lst (pa_cons (pv 3) (pa_cons (pv 6) pa_nil)))))))) pss_nil)
      (pss_cons (ps_set (i := 10) sc.nd rfl (Or.inl rfl) (pe_lst (pa_cons (pv 4) (pa_cons (pe_un un_neg pe_int) (pa_cons pe_bl (pa_cons pe_non (pa_cons pe_str (pa_cons (pe_lst (pa_cons pe_int pa_nil)) (pa_cons (pe_op op_add (pv 4) (pe_op op_pow pe_int pe_int)) (pa_cons pe_bl (pa_cons (pe_op op_add (pv 4) pe_int) (pa_cons (pe_un un_neg (pv 4)) pa_nil))))))))))))
      (pss_cons (ps_asg (pe_ix ix_list (pv 10) (C8.pe_c c_law_pick hr (by decide) rfl (pa_cons (pv 0) (pa_cons (pe_callB (call_lenQ (K := K) rfl) (by rfl) T.len PySem.boot_len (pa_cons (pv 10) pa_nil)) pa_nil))) (fun _ _ => rfl)) (pg_sub (pe_ix ix_list (pv 3) (pv 6) (fun _ _ => rfl)) (C8.pe_c c_law_pick hr (by decide) rfl (pa_cons (pv 0) (pa_cons (pv 2) pa_nil))) set_list))
      (pss_cons (ps_if (pt_cmpR op_eq (C8.pe_c c_law_pick hr (by decide) rfl (pa_cons (pv 0) (pa_cons pe_int pa_nil))) pe_int (nomark _)) 
        (pss_one (ps_ret (pe_lst (pa_cons (pe_callTy (T := "tuple") (call_tupQ (K := K) rfl) (by rfl) T.tuple (by decide +kernel) (pa_cons (pv 3) pa_nil)) (pa_cons (pv 6) pa_nil))))) pss_nil)
      (pss_one (ps_ret (pe_lst (pa_cons (pv 3) (pa_cons (pv 6) pa_nil)))))))))))))))), ?_⟩
    refine ⟨_, rfl, _, rfl, ⟨_, SqL.of e1⟩, fun Lr hLr => lc_G (A := A) (S := S) (j := 11) (Xp := fun i x => ∃ r b, mv[i]? = some r ∧ x = .ref b ∧ b ∉ S ∧ H b = some (.lst (r.map V.int))) (fun i ys H' => Cps H H' Lr mv i ys)
      walk_list (fun i H2 x H3 _ y => ⟨y.1, rowD_item r1 y.2⟩) W hLr (by omega) (fun H2 k2 => SqL.of (k2 _ _ (fun q => (List.mem_cons.mp q).elim (fun e => by rw [← e, e1] at hLr; cases hLr) (fun q => n1 (W.sub _ q))) e1)) (fun _ => Cps.zero) (fun i ys H h => Nat.le_of_eq h.len) (fun i ys H2 H3 k2 h => h.keep (fun a ha => W.ex a (W.sub a ha)) k2) (fun _ => rfl)
      (fun i ys2 y H2 hi h hy W2 k2 Kt Kf ht2 hf2 => ?_) (fun ys H2 h2 g2 hL2 W2 => ?_)⟩
    · obtain ⟨r, b0, hr0, rfl, hbS, hb0⟩ := hy
      have hb2 := k2 _ _ (fun hm => (List.mem_cons.mp hm).elim (fun e => by rw [← e, hb0] at hLr; cases hLr) (fun hm => hbS (W.sub _ hm))) hb0
      refine yes_go ⟨_, rfl, b0, _, rfl, .inl (SqL.of hb2), fun l hl => ht2 _ _ (Go.new hl) ?_⟩
      have hl0 : H l = none := by
        cases e : H l with
        | none => rfl
        | some o =>
          by_cases hlA : l ∈ A
          · obtain ⟨c, d, n, z⟩ := W2.src l hlA
            rw [hl] at z; cases z
          · have := k2 l o (fun hm => by
              rcases List.mem_cons.mp hm with e3 | hm
              · rw [e3, hLr] at e; cases e
              · exact hlA hm) e
            rw [hl] at this; cases this
      refine h.step hr0 hl hl0 (fun e => ?_)
      obtain ⟨o, z⟩ := W2.ex Lr (List.mem_cons_self ..)
      rw [← e, hl] at z; cases z
    · rw [xl] at h2
      have yl := h2.len
      have W2' := W.go g2
      have k2 := kk.on W g2
      have LS : Lr ∉ S := W.fresh hLr
      have LA : Lr ∉ A := fun q => LS (W.sub _ q)
      refine ⟨_, rfl, Lr, _, rfl, .inl (SqL.of hL2), ?_⟩
      rw [yl]
      refine ⟨_, rfl, A, a, _, rfl, hm, W2'.src, by omega, by omega, fun way H3 w0 w1 g3 => ?_⟩
      have W3 := W2'.go g3
      have k3 := k2.on W2' g3
      have hL3 := g3.keep _ _ LA hL2
      refine ⟨_, rfl, rfl, _, rfl, ?_⟩
      refine ite2 (fun _ => ?_) (fun _ => ?_)
      · refine ⟨Nat.zero_le _, fun l1 hl1 => ⟨Nat.zero_le _, fun l2 hl2 dl hdl => ⟨by show 7 ≤ sizeLine; exact szl rfl, fun m hm2 => ?_⟩⟩⟩
        have s1 : Same H3 (upd H3 l1 (.lst [])) := Same.new hl1
        have q1 : upd H3 l1 (.lst []) l1 = some (.lst []) := upd_same
        generalize upd H3 l1 (.lst []) = H4 at *
        have s2 : Same H4 (upd H4 l2 (.tup [])) := Same.new hl2
        have q2 : upd H4 l2 (.tup []) l2 = some (.tup []) := upd_same
        generalize upd H4 l2 (.tup []) = H5 at *
        have s3 : Same H5 (upd H5 dl (.dK [])) := Same.new hdl
        have q3 : upd H5 dl (.dK []) dl = some (.dK []) := upd_same
        generalize upd H5 dl (.dK []) = H6 at *
        have s4 := Same.new (o := .lst [.non, .str (Str.ofString "00"), .int 7, .ref l1, .ref l2, .bl true, .ref dl]) hm2
        have q4 : upd H6 m (.lst [.non, .str (Str.ofString "00"), .int 7, .ref l1, .ref l2, .bl true, .ref dl]) m = some (.lst [.non, .str (Str.ofString "00"), .int 7, .ref l1, .ref l2, .bl true, .ref dl]) := upd_same
        generalize upd H6 m (.lst [.non, .str (Str.ofString "00"), .int 7, .ref l1, .ref l2, .bl true, .ref dl]) = H7 at *
        have s15 := ((s1.trans s2).trans s3).trans s4
        have W7 := W3.go (Go.same s15)
        have mS : m ∉ S := (W3.go (Go.same ((s1.trans s2).trans s3))).fresh hm2
        have dS : dl ∉ S := (W3.go (Go.same (s1.trans s2))).fresh hdl
        have l2S : l2 ∉ S := (W3.go (Go.same s1)).fresh hl2
        have l1S : l1 ∉ S := W3.fresh hl1
        have nA : ∀ {c}, c ∉ S → c ∉ A := fun h q => h (W.sub _ q)
        refine ⟨_, rfl, A, a, _, rfl, hm, W7.src, by omega, by omega, fun r H8 r0 r1 g8 => ?_⟩
        obtain ⟨v, hv, hvm⟩ := at_in (l := [.non, .str (Str.ofString "00"), .int 7, .ref l1, .ref l2, .bl true, .ref dl]) r0 r1
        refine ⟨m, _, r, v, rfl, rfl, SqL.of (g8.keep _ _ (nA mS) q4), hv, _, rfl, by show 2 ≤ sizeLine; exact szl rfl, fun p hp => ?_⟩
        have d6 := g8.keep _ _ (nA dS) (s4 _ _ q3)
        have t6 := g8.keep _ _ (nA l2S) (s4 _ _ (s3 _ _ q2))
        have u6 := g8.keep _ _ (nA l1S) (s4 _ _ (s3 _ _ (s2 _ _ q1)))
        have g16 := (Go.same (A := A) s15).trans g8
        have fin : ∀ d : D, Rp S H8 v d → NoMv k d (-1) → Q (.ref p) (upd H8 p (.lst [v, .int (-1)])) := fun d rd hs =>
          k3 p v (-1) d _ (g16.trans (Go.new hp)) (Go.none W3 g16 hp) upd_same (rd.same (Same.new hp)) hs (by omega) (by omega)
        have no : ∀ d : D, d.seq? = none → NoMv k d (-1) := fun d h => ⟨mv_none h, fit_none h⟩
        have em : ∀ d : D, d.seq? = some [] → NoMv k d (-1) := fun d h => ⟨mv_len h (by simp), fun ds e => by rw [h] at e; cases e; simp⟩
        simp only [List.mem_cons, List.not_mem_nil, or_false] at hvm
        rcases hvm with rfl | rfl | rfl | rfl | rfl | rfl | rfl
        · exact fin .non .non (no _ rfl)
        · exact fin (.str _) (.str _) (no _ rfl)
        · exact fin (.int 7) (.int 7) (no _ rfl)
        · exact fin (.lst []) (.lst l1S u6 .nil) (em _ rfl)
        · exact fin (.tup []) (.tup l2S t6 .nil) (em _ rfl)
        · exact fin (.bl _) (.bl _) (no _ rfl)
        · exact fin .dct (.dct dS d6) (no _ rfl)
      · refine ⟨_, rfl, rfl, _, rfl, ?_⟩
        refine ite2 (fun _ => ?_) (fun _ => ?_)
        · have hp0 : 0 < mv.length := M.pos
          obtain ⟨r0, hr0⟩ : ∃ r, mv[0]? = some r := ⟨_, List.getElem?_eq_getElem hp0⟩
          obtain ⟨b0, hy0, hb00, hb0L, hb0S, hb0, _⟩ := h2.row W hr0
          have b0A : b0 ∉ A := fun q => hb0S (W.sub _ q)
          have hb3 := g3.keep _ _ b0A hb0
          have rl := (M.row r0 (List.mem_of_getElem? hr0)).1
          refine ⟨61, rfl, by decide, by decide, fun L2 hL2' => lc_D (A := A) (S := S) (j := 7) (Xp := fun _ _ => True) (fun i ds => ds = List.replicate i (rowD r0)) (walk_range (lo := 0)) (fun i H x H' _ y => ⟨y.1, trivial⟩) W3 hL2' (show (61 : Int).toNat ≤ 100000 by decide) (fun _ _ => trivial) rfl (fun i ds h => by rw [h]; simp) (fun _ => rfl) (fun i ds x H4 hi h hx W4 k4 Kt Kf ht hf => ?_) (fun zs ds H4 h g4 hL4 hr4 => ?_)⟩
          · refine yes_go ?_
            have hL3' := k4 _ _ (fun q => (List.mem_cons.mp q).elim (fun e => by rw [e, hL2'] at hL3; cases hL3) LA) hL3
            have hb4 := k4 _ _ (fun q => (List.mem_cons.mp q).elim (fun e => by rw [e, hL2'] at hb3; cases hb3) b0A) hb3
            refine ⟨_, rfl, Lr, _, _, .ref b0, rfl, rfl, SqL.of hL3', atI_nat (j := 0) hy0, b0, _, rfl, .inl (SqL.of hb4), fun l hl => ht _ (rowD r0) _ (Go.new hl) (.lst (W4.fresh hl) upd_same (Rps.ints r0)) ?_⟩
            rw [h, List.replicate_succ']
          · have h : ds = List.replicate 61 (rowD r0) := h
            subst h
            have W4 := W3.go g4
            have L2S : L2 ∉ S := W3.fresh hL2'
            have L2A : L2 ∉ A := fun q => L2S (W.sub _ q)
            have zl := hr4.len
            rw [List.length_replicate] at zl
            have out : ∀ (H5 : Hp) (zs5 : List V) (ds5 : List D), Go A H3 H5 → H5 L2 = some (.lst zs5) → Rps S H5 zs5 ds5 → ds5.length = 61 → (∀ d ∈ ds5, ∀ rs, d.seq? = some rs → rs.length ≤ 1000) → ∀ p, H5 p = none → Q (.ref p) (upd H5 p (.lst [.ref L2, .int (-1)])) := fun H5 zs5 ds5 g5 e5 r5 l5 f5 p hp =>
              k3 p _ (-1) (.lst ds5) _ (g5.trans (Go.new hp)) (Go.none W3 g5 hp) upd_same (.lst L2S ((Same.new hp) _ _ e5) (r5.same (Same.new hp))) ⟨mv_len rfl (by omega), fun es e => by cases e; exact ⟨by omega, f5⟩⟩ (by omega) (by omega)
            have rf : ∀ rs, (rowD r0).seq? = some rs → rs.length ≤ 1000 := fun rs e => by cases e; rw [List.length_map]; omega
            refine ⟨_, rfl, A, a, _, rfl, hm, W4.src, by omega, by omega, fun q H5 _ _ g5 => ?_⟩
            have hL5 := g5.keep _ _ L2A hL4
            have r5 : Rps (L2 :: S) H5 zs (List.replicate 61 (rowD r0)) := hr4.keep (g5.keep.mono fun a ha => List.mem_cons_of_mem _ (W.sub a ha))
            refine ⟨rfl, _, rfl, ?_⟩
            refine ite2 (fun _ => ?_) (fun _ => ?_)
            · refine ⟨_, rfl, _, rfl, A, a, _, rfl, hm, (W4.go g5).src, by omega, by omega, fun q2 H6 q20 q21 g6 => ?_⟩
              obtain ⟨qi, rfl⟩ := Int.eq_ofNat_of_zero_le q20
              have hL6 := g6.keep _ _ L2A hL5
              have r6 : Rps (L2 :: S) H6 zs (List.replicate 61 (rowD r0)) := r5.keep (g6.keep.mono fun a ha => List.mem_cons_of_mem _ (W.sub a ha))
              refine ⟨L2, zs, _, qi, rfl, rfl, hL6, ixN_at (by omega), _, rfl, _, rfl, by show 2 ≤ sizeLine; exact szl rfl, fun p hp => ?_⟩
              refine out _ (zs.set qi .non) ((List.replicate 61 (rowD r0)).set qi .non) (Go.put W3 (g4.trans (g5.trans g6)) hL2') upd_same (Rps.less (fun _ h => List.mem_cons_of_mem _ h) ((Rps.set .non qi r6).keep (Keep.upd (List.mem_cons_self ..)))) (by simp) (fun d hd rs e => ?_) p hp
              rcases List.mem_or_eq_of_mem_set hd with hd | rfl
              · rw [List.eq_of_mem_replicate hd] at e
                exact rf rs e
              · cases e
            · exact ⟨_, rfl, _, rfl, by show 2 ≤ sizeLine; exact szl rfl, fun p hp => out H5 zs _ (g4.trans g5) hL5 (r5.less fun _ h => List.mem_cons_of_mem _ h) (by simp) (fun d hd => by rw [List.eq_of_mem_replicate hd]; exact rf) p hp⟩
        · refine ⟨_, rfl, _, rfl, A, a, _, rfl, hm, W3.src, by have := M.pos; omega, by omega, fun at_ H4 a0 a1 g4 => ?_⟩
          obtain ⟨ai, rfl⟩ := Int.eq_ofNat_of_zero_le a0
          have hai : ai < mv.length := by omega
          have g04 := g2.trans (g3.trans g4)
          obtain ⟨r, hr0⟩ : ∃ r, mv[ai]? = some r := ⟨_, List.getElem?_eq_getElem hai⟩
          have hrow := M.row r (List.mem_of_getElem? hr0)
          obtain ⟨b, hy, hb0, hbS, hb, hoth⟩ := h2.rowL W hr0
          have rw2 : Rw k S H2 Lr mv ai b r := ⟨⟨ys, mv.map rowD, hL2, yl, h2.dataL W, hy, hoth, fun j hj => ⟨mv[j], List.getElem?_eq_getElem (by omega), by rw [List.getElem?_map, List.getElem?_eq_getElem (by omega)]; rfl⟩, fun d hd rs e => by
            obtain ⟨q, hq, rfl⟩ := List.mem_map.mp hd
            cases e
            have := (M.row q hq).1
            rw [List.length_map]
            omega⟩, LS, hbS, hb, hr0⟩
          have rw4 := rw2.go W.sub (g3.trans g4)
          refine ⟨_, rfl, _, _, rfl, rfl, _, rfl, _, _, rfl, ⟨by omega, by omega, by omega, by omega⟩, ?_⟩
          refine for_it (walk_range (lo := (ai : Int) + 1)) (fun i σ H' => Iv (Go A H H' ∧ Rw k S H' Lr mv ai b r ∧ ∃ bp bt, σ = [some (.ref a), some (.ref t0), some (.int k), some (.ref Lr), some (.int mv.length), some (.int way), some (.int ai), bp, none, bt, none, none])) (.of ⟨g04, rw4, _, _, rfl⟩) (fun _ _ _ _ _ => trivial) (fun i y σ H5 H6 hi hp hy => ?_) (fun σ H5 hp => ?_)
          · obtain ⟨g5, rw5, bp, bt, rfl⟩ := hp.get
            obtain ⟨rfl, rfl⟩ := hy
            have W5 := W.go g5
            refine ⟨_, rfl, A, a, _, rfl, hm, W5.src, by omega, by omega, fun q H6 _ _ g6 => ?_⟩
            refine ⟨rfl, _, rfl, ?_⟩
            have g06 := g5.trans g6
            have rw6 := rw5.go W.sub g6
            refine ite2 (fun _ => ?_) (fun _ => ?_)
            · have W6 := W.go g06
              refine ⟨_, rfl, (k : Int), rfl, by omega, by omega, fun c hc => lc_D (A := A) (S := S) (j := 9) (Xp := fun _ _ => True) (fun i ds => ds = (List.replicate i (mv.length : Int)).map D.int) (walk_range (lo := 0)) (fun i H x H' _ y => ⟨y.1, trivial⟩) W6 hc (show (k : Int).toNat ≤ 100000 by omega) (fun _ _ => trivial) rfl (fun i ds h => by rw [h]; simp) (fun _ => rfl) (fun i ds x H7 hi h hx W7 k7 Kt Kf ht hf => ?_) (fun zs ds H7 h g7 hL7 hr7 => ?_)⟩
              · refine yes_go ⟨_, rfl, ht _ (.int mv.length) _ (Go.refl _ _) (.int _) ?_⟩
                rw [h, List.replicate_succ', List.map_append]
                rfl
              · have h : ds = (List.replicate k (mv.length : Int)).map D.int := h
                subst h
                have rw7 := rw6.go W.sub g7
                have cn : c ∉ b :: Lr :: S := fun hm => by
                  rcases List.mem_cons.mp hm with e | hm
                  · rw [e, rw6.hb] at hc; cases hc
                  rcases List.mem_cons.mp hm with e | hm
                  · obtain ⟨ys6, _, e6, _⟩ := rw6.ex
                    rw [e, e6] at hc; cases hc
                  · exact (W6.fresh hc) hm
                obtain ⟨ys7, e7, l7, rw8⟩ := rw7.later (p := ai + 1 + i) (zs := zs) (es := (List.replicate k (mv.length : Int)).map D.int) (by omega) cn hL7 hr7.ints_any (by simp; omega)
                refine ⟨_, rfl, _, rfl, Lr, ys7, _, ai + 1 + i, rfl, rfl, e7, ?_, .of ⟨Go.put W (g06.trans g7) hLr, rw8, _, _, rfl⟩⟩
                have hi : i < ((mv.length : Int) - ((ai : Int) + 1)).toNat := hi
                rw [show (ai : Int) + 1 + (i : Int) = ((ai + 1 + i : Nat) : Int) by omega]
                exact ixN_at (by omega)
            · exact .of ⟨g06, rw6, _, _, rfl⟩
          · obtain ⟨g5, rw5, bp, bt, rfl⟩ := hp.get
            have W5 := W.go g5
            refine ⟨_, rfl, by show 2 ≤ sizeLine; exact szl rfl, fun l7 hl7 => ⟨l7, [.int 3, .int 7], rfl, .inr (.inl (.inl upd_same)), rfl, rfl, _, rfl, ?_⟩⟩
            have s6 := Same.new (o := .tup [.int 3, .int 7]) hl7
            have g6 := g5.trans (Go.same s6)
            have rw6 := rw5.go W.sub (Go.same s6)
            generalize upd H5 l7 (.tup [.int 3, .int 7]) = H6 at s6 g6 rw6 ⊢
            have W6 := W.go g6
            refine ite2 (fun _ => ?_) (fun _ => ?_)
            · intro dl hdl
              refine ⟨_, rfl, (k : Int), rfl, by omega, by omega, ?_⟩
              refine for_it (walk_range (lo := 0)) (fun i σ H' => Iv (Same H6 H' ∧ (∃ kvs, H' dl = some (.dK kvs) ∧ kvs.length ≤ i) ∧ ∃ bt, σ = [some (.ref a), some (.ref t0), some (.int k), some (.ref Lr), some (.int mv.length), some (.int way), some (.int ai), bp, some (.ref dl), bt, none, none])) (.of ⟨Same.new hdl, ⟨[], upd_same, Nat.le_refl _⟩, _, rfl⟩) (fun _ _ _ _ _ => trivial) (fun i y σ H7 H8 hi hp hy => ?_) (fun σ H7 hp => ?_)
              · obtain ⟨s7, ⟨kvs, e7, l7⟩, bt, rfl⟩ := hp.get
                obtain ⟨rfl, rfl⟩ := hy
                have hi : i < k := by simpa using hi
                refine ⟨_, rfl, _, rfl, dl, _, rfl, DPut.k (k := .inl (0 + (i : Int))) e7 (Nat.lt_of_lt_of_le (show kvs.length < 100 by omega) (szl rfl)), .of ⟨fun b o e => ?_, ⟨_, upd_same, Nat.le_trans (putK_le ..) (by omega)⟩, _, rfl⟩⟩
                rw [upd_ne (ne_of_none e hdl)]
                exact s7 b o e
              · obtain ⟨s7, ⟨kvs, e7, l7⟩, bt, rfl⟩ := hp.get
                have rw7 := rw6.go W.sub (Go.same s7)
                obtain ⟨⟨ys7, ds7, f1, f2, f3, f4, f5, f6, f7⟩, _, bS7, hb7, _⟩ := rw7
                refine ⟨_, rfl, _, _, rfl, rfl, mulok_zero (by omega), _, rfl, _, rfl, Lr, ys7, _, .ref b, rfl, rfl, SqL.of f1, atI_nat f4, by show 1 ≤ sizeLine; exact szl rfl, fun l1 hl1 => ?_⟩
                have s8 := s7.trans (Same.new (o := .lst [.int 0]) hl1)
                have s78 := Same.new (o := .lst [.int 0]) hl1
                refine ⟨b, l1, _, _, rfl, rfl, s78 _ _ hb7, upd_same, by rw [List.length_map, hrow.1]; exact Nat.le_trans (show k + 1 ≤ 10 by omega) (szl rfl), fun l2 hl2 => ?_⟩
                have s79 := s78.trans (Same.new (o := .lst (r.map V.int ++ [.int 0])) hl2)
                have q2 : upd (upd H7 l1 (.lst [.int 0])) l2 (.lst (r.map V.int ++ [.int 0])) l2 = some (.lst (r.map V.int ++ [.int 0])) := upd_same
                generalize upd (upd H7 l1 (.lst [.int 0])) l2 (.lst (r.map V.int ++ [.int 0])) = H9 at s79 q2 ⊢
                refine ⟨_, rfl, _, rfl, Lr, ys7, _, .ref b, rfl, rfl, SqL.of (s79 _ _ f1), atI_nat f4, _, rfl, b, _, rfl, SqL.of (s79 _ _ hb7), fun l3 hl3 => ?_⟩
                rw [show (some (1 : Int)) = some (((1 : Nat) : Int)) from rfl, cut_from _ 1 (by rw [List.length_map]; omega), ← List.map_drop]
                have s10 := Same.new (o := .lst ((r.drop 1).map V.int)) hl3
                have q3 : upd H9 l3 (.lst ((r.drop 1).map V.int)) l3 = some (.lst ((r.drop 1).map V.int)) := upd_same
                generalize upd H9 l3 (.lst ((r.drop 1).map V.int)) = H10 at s10 q3 ⊢
                refine ⟨_, rfl, by show 7 ≤ sizeLine; exact szl rfl, fun m hm2 => ?_⟩
                have s11 := Same.new (o := .lst [.non, .int 0, .str (Txt.mul (Str.ofString "0") k), .ref l2, .ref l3, .ref dl, .bl true]) hm2
                have q4 : upd H10 m (.lst [.non, .int 0, .str (Txt.mul (Str.ofString "0") k), .ref l2, .ref l3, .ref dl, .bl true]) m = some (.lst [.non, .int 0, .str (Txt.mul (Str.ofString "0") k), .ref l2, .ref l3, .ref dl, .bl true]) := upd_same
                generalize upd H10 m (.lst [.non, .int 0, .str (Txt.mul (Str.ofString "0") k), .ref l2, .ref l3, .ref dl, .bl true]) = H11 at s11 q4 ⊢
                have s7b := s79.trans (s10.trans s11)
                have W11 := W6.go (Go.same (s7.trans s7b))
                have mS : m ∉ S := (W6.go (Go.same (s7.trans (s79.trans s10)))).fresh hm2
                have mA : m ∉ A := fun q => mS (W.sub _ q)
                refine ⟨_, rfl, A, a, _, rfl, hm, W11.src, by omega, by omega, fun q H12 q0 q1 g12 => ?_⟩
                obtain ⟨v, hv, hvm⟩ := at_in (l := [.non, .int 0, .str (Txt.mul (Str.ofString "0") k), .ref l2, .ref l3, .ref dl, .bl true]) q0 q1
                have g7b := (Go.same (A := A) s7b).trans g12
                have f1' := g7b.keep _ _ LA f1
                have g012 := g6.trans ((Go.same (A := A) s7).trans g7b)
                have W12 := W.go g012
                have f3' : Rps (Lr :: S) H12 ys7 ds7 := f3.keep (g7b.keep.mono fun a ha => List.mem_cons_of_mem _ (W.sub a ha))
                refine ⟨m, _, q, v, rfl, rfl, SqL.of (g12.keep _ _ mA q4), hv, _, rfl, _, rfl, Lr, ys7, _, ai, rfl, rfl, f1', ixN_at (by omega), _, rfl, _, rfl, by show 2 ≤ sizeLine; exact szl rfl, fun p hp => ?_⟩
                have fin : ∀ d : D, Rp (Lr :: S) H12 v d → d.rowOk k mv.length = false → (∀ rs, d.seq? = some rs → rs.length ≤ 1000) → Q (.ref p) (upd (upd H12 Lr (.lst (ys7.set ai v))) p (.lst [.ref Lr, .int ai])) := fun d rd hd hfd => by
                  have gf : Go A H (upd H12 Lr (.lst (ys7.set ai v))) := Go.put W g012 hLr
                  have rf : Rps S (upd H12 Lr (.lst (ys7.set ai v))) (ys7.set ai v) (ds7.set ai d) := ((Rps.set rd ai f3').keep (Keep.upd (List.mem_cons_self ..))).less fun _ h => List.mem_cons_of_mem _ h
                  exact kk p _ ai (.lst (ds7.set ai d)) _ (gf.trans (Go.new hp)) (Go.none W gf hp) upd_same (.lst LS ((Same.new hp) _ _ upd_same) (rf.same (Same.new hp))) (no_mv M rfl (by rw [← f3'.len, f2]) hai f6 hd f7 hfd) (by omega) (by omega)
                have l2S : l2 ∉ Lr :: S := fun hq => by
                  rcases List.mem_cons.mp hq with e | hq
                  · exact ne_none (s78 _ _ f1) hl2 e
                  · exact ((W6.go (Go.same s8)).fresh hl2) hq
                have l3S : l3 ∉ Lr :: S := fun hq => by
                  rcases List.mem_cons.mp hq with e | hq
                  · exact ne_none (s79 _ _ f1) hl3 e
                  · exact ((W6.go (Go.same (s7.trans s79))).fresh hl3) hq
                have dS : dl ∉ Lr :: S := fun hq => by
                  rcases List.mem_cons.mp hq with e | hq
                  · rw [e, f1] at e7; cases e7
                  · exact (W6.fresh hdl) hq
                have nA : ∀ {c}, c ∉ Lr :: S → c ∉ A := fun h q => h (List.mem_cons_of_mem _ (W.sub _ q))
                have u2 := g12.keep _ _ (nA l2S) (s11 _ _ (s10 _ _ q2))
                have u3 := g12.keep _ _ (nA l3S) (s11 _ _ q3)
                have u4 := g7b.keep _ _ (nA dS) e7
                have rk := hrow.1
                simp only [List.mem_cons, List.not_mem_nil, or_false] at hvm
                rcases hvm with rfl | rfl | rfl | rfl | rfl | rfl | rfl
                · exact fin .non .non rfl (fun rs e => by cases e)
                · exact fin (.int 0) (.int 0) rfl (fun rs e => by cases e)
                · exact fin (.str _) (.str _) rfl (fun rs e => by cases e)
                · refine fin (.lst (r.map D.int ++ [.int 0])) (.lst l2S u2 (Rps.app (Rps.ints r) (.cons (.int 0) .nil))) ?_ (fun rs e => by cases e; simp; omega)
                  rw [row_some (ds := r.map D.int ++ [.int 0]) rfl, decide_eq_false (by simp; omega), Bool.false_and]
                · refine fin (.lst ((r.drop 1).map D.int)) (.lst l3S u3 (Rps.ints _)) ?_ (fun rs e => by cases e; simp; omega)
                  rw [row_some (ds := (r.drop 1).map D.int) rfl, decide_eq_false (by simp; omega), Bool.false_and]
                · exact fin .dct (.dct dS u4) rfl (fun rs e => by cases e)
                · exact fin (.bl _) (.bl _) rfl (fun rs e => by cases e)
            · refine ⟨_, rfl, _, rfl, by show 1 ≤ sizeLine; exact szl rfl, fun l0 hl0 => ?_⟩
              refine ⟨_, rfl, _, _, rfl, rfl, ⟨by decide, by decide, by decide⟩, _, _, rfl, rfl, _, rfl, _, _, rfl, rfl, _, rfl, _, rfl, by show 10 ≤ sizeLine; exact szl rfl, fun m hm2 => ?_⟩
              have s7 : Same H6 (upd H6 l0 (.lst [.int 0])) := Same.new hl0
              have q7 : upd H6 l0 (.lst [.int 0]) l0 = some (.lst [.int 0]) := upd_same
              generalize upd H6 l0 (.lst [.int 0]) = H7 at s7 q7 hm2 ⊢
              have s8 := Same.new (o := .lst [.int mv.length, .int (-1), .bl true, .non, .str (Str.ofString "0"), .ref l0, .int (mv.length + (10 : Int) ^ (30 : Int).toNat), .bl false, .int (mv.length + 1), .int (-mv.length)]) hm2
              have q8 : upd H7 m (.lst [.int mv.length, .int (-1), .bl true, .non, .str (Str.ofString "0"), .ref l0, .int (mv.length + (10 : Int) ^ (30 : Int).toNat), .bl false, .int (mv.length + 1), .int (-mv.length)]) m = _ := upd_same
              have s68 := s7.trans s8
              have W8 := W6.go (Go.same s68)
              have mS : m ∉ S := (W6.go (Go.same s7)).fresh hm2
              have mA : m ∉ A := fun q => mS (W.sub _ q)
              refine ⟨_, rfl, _, rfl, _, rfl, m, _, rfl, .inl (SqL.of q8), A, a, _, rfl, hm, W8.src, by show (0:Int) < 10; decide, by show (10:Int) < 2 ^ 30; decide, fun q H9 q0 q1 g9 => ?_⟩
              obtain ⟨v, hv, hvm⟩ := at_in q0 q1
              have g69 := (Go.same (A := A) s68).trans g9
              have rw9 := rw6.go W.sub g69
              have W9 := W8.go g9
              obtain ⟨⟨ys9, ds9, f1, f2, f3, f4, f5, f6, f7⟩, _, bS9, hb9, _⟩ := id rw9
              refine ⟨m, _, q, v, rfl, rfl, SqL.of (g9.keep _ _ mA q8), hv, _, rfl, _, rfl, Lr, ys9, _, .ref b, rfl, rfl, SqL.of f1, atI_nat f4, _, rfl, _, rfl, A, a, _, rfl, hm, W9.src, by omega, by omega, fun tt H10 t0' t1' g10 => ?_⟩
              obtain ⟨ti, rfl⟩ := Int.eq_ofNat_of_zero_le t0'
              have bA : b ∉ A := fun q => bS9 (List.mem_cons_of_mem _ (W.sub _ q))
              have hb10 := g10.keep _ _ bA hb9
              have rk := hrow.1
              refine ⟨b, _, _, ti, rfl, rfl, hb10, ixN_at (by rw [List.length_map]; omega), ?_⟩
              have l0S : l0 ∉ b :: Lr :: S := fun hq => by
                rcases List.mem_cons.mp hq with e | hq
                · exact ne_none rw6.hb hl0 e
                rcases List.mem_cons.mp hq with e | hq
                · obtain ⟨ys6, _, e6, _⟩ := rw6.ex
                  exact ne_none e6 hl0 e
                · exact (W6.fresh hl0) hq
              have u0 := (g9.trans g10).keep _ _ (fun q => l0S (List.mem_cons_of_mem _ (List.mem_cons_of_mem _ (W.sub _ q)))) (s8 _ _ q7)
              have bad : ∃ d, Rp (b :: Lr :: S) H10 v d ∧ d.inr 0 ((mv.length : Int) - 1) = false := by
                have nn : ∀ z : Int, (z < 0 ∨ (mv.length : Int) ≤ z) → ∃ d, Rp (b :: Lr :: S) H10 (.int z) d ∧ d.inr 0 ((mv.length : Int) - 1) = false := fun z hz => ⟨.int z, .int z, by rw [inr_int]; rcases hz with h | h <;> simp <;> omega⟩
                have mp := M.pos
                simp only [List.mem_cons, List.not_mem_nil, or_false] at hvm
                rcases hvm with rfl | rfl | rfl | rfl | rfl | rfl | rfl | rfl | rfl | rfl
                · exact nn _ (by omega)
                · exact nn _ (by omega)
                · exact ⟨.bl true, .bl true, rfl⟩
                · exact ⟨.non, .non, rfl⟩
                · exact ⟨.str _, .str _, rfl⟩
                · exact ⟨.lst [.int 0], .lst l0S u0 (.cons (.int 0) .nil), rfl⟩
                · exact nn _ (by have : (0 : Int) ≤ 10 ^ (30 : Int).toNat := by decide
                                 omega)
                · exact ⟨.bl false, .bl false, rfl⟩
                · exact nn _ (by omega)
                · exact nn _ (by omega)
              obtain ⟨d, rd, hd⟩ := bad
              have g010 := g6.trans (g69.trans g10)
              have gb : Go A H (upd H10 b (.lst ((r.map V.int).set ti v))) := Go.put W g010 hb0
              have LrB : Lr ≠ b := fun e => bS9 (by rw [e]; exact List.mem_cons_self ..)
              have hL11 := (upd_ne (o := .lst ((r.map V.int).set ti v)) LrB).trans (g10.keep _ _ LA f1)
              have rf := Rps.row_set (H := H10) (S := Lr :: S) (zs := (r.map V.int).set ti v) (es := (r.map D.int).set ti d) f3.len f4 bS9 (fun j y d hj e1 e2 => (f5 j y d hj e1 e2).keep (g10.keep.mono fun a ha => List.mem_cons_of_mem _ (List.mem_cons_of_mem _ (W.sub a ha)))) (Rps.set rd ti (Rps.ints r))
              generalize upd H10 b (.lst ((r.map V.int).set ti v)) = H11 at gb hL11 rf ⊢
              have W11 := W.go gb
              have nomv : ∀ dd : D, dd.seq? = some (ds9.set ai (.lst ((r.map D.int).set ti d))) → NoMv k dd ai := fun dd hs => by
                refine no_mv M hs (by rw [← f3.len, f2]) hai f6 ?_ f7 (fun rs e => by cases e; simp; omega)
                rw [row_some (ds := (r.map D.int).set ti d) rfl]
                have : (((r.map D.int).set ti d).all fun e => e.inr 0 ((mv.length : Int) - 1)) = false := List.all_eq_false.mpr ⟨d, List.mem_iff_getElem?.mpr ⟨ti, List.getElem?_set_self (by rw [List.length_map]; omega)⟩, by simp [hd]⟩
                rw [this, Bool.and_false]
              refine ⟨_, rfl, A, a, _, rfl, hm, W11.src, by omega, by omega, fun z H12 _ _ g12 => ?_⟩
              have g012 := gb.trans g12
              have hL12 := g12.keep _ _ LA hL11
              have rf12 : Rps (Lr :: S) H12 ys9 (ds9.set ai (.lst ((r.map D.int).set ti d))) := rf.keep (g12.keep.mono fun a ha => List.mem_cons_of_mem _ (W.sub a ha))
              have rf12 := rf12.less (S := S) fun _ h => List.mem_cons_of_mem _ h
              refine ⟨rfl, _, rfl, ?_⟩
              refine ite2 (fun _ => ?_) (fun _ => ?_)
              · refine ⟨_, rfl, Lr, _, rfl, .inl ⟨SqL.of hL12, fun l4 hl4 => ⟨_, rfl, by show 2 ≤ sizeLine; exact szl rfl, fun p hp => ?_⟩⟩⟩
                have s13 := Same.new (o := .tup ys9) hl4
                have q13 : upd H12 l4 (.tup ys9) l4 = some (.tup ys9) := upd_same
                exact kk p _ ai (.tup (ds9.set ai (.lst ((r.map D.int).set ti d)))) _ (g012.trans (Go.same (s13.trans (Same.new hp)))) (Go.none W (g012.trans (Go.same s13)) hp) upd_same (.tup ((W.go g012).fresh hl4) ((Same.new hp) _ _ q13) ((rf12.same s13).same (Same.new hp))) (nomv _ rfl) (by omega) (by omega)
              · refine ⟨_, rfl, _, rfl, by show 2 ≤ sizeLine; exact szl rfl, fun p hp => ?_⟩
                exact kk p _ ai (.lst (ds9.set ai (.lst ((r.map D.int).set ti d)))) _ (g012.trans (Go.new hp)) (Go.none W g012 hp) upd_same (.lst LS ((Same.new hp) _ _ hL12) (rf12.same (Same.new hp))) (nomv _ rfl) (by omega) (by omega)
end

/-! ### _law_refused -/
abbrev sRefused : Stmt := top 64
def spRefused : Sp := fun vs H Q _ => ∃ (A S : List Addr) (a : Addr) (al : Str) (v : V) (mv : List (List Int)) (g : List Int), vs = [.ref a, .str al, v] ∧ a ∈ A ∧ Wd A S H ∧ IsAl al ∧ Rp S H v (.tup [mvD mv, rowD g]) ∧ Mach al.length mv g ∧ ∀ H', Go A H H' → Q (.bl true) H'
/-- words as a list of texts -/
theorem low_txts {l : List Str} (h : ∀ x ∈ l, PyData.strOk x = true) : Low 1 (txtsD l) := .lst fun d hd => by
  obtain ⟨x, hx, rfl⟩ := List.mem_map.mp hd
  exact .str _ (h x hx)
theorem Rp.noS {S : List Addr} {H : Hp} {a : Addr} {d : D} (r : Rp S H (.ref a) d) : a ∉ S := by
  cases r <;> assumption
theorem NoAl.on {A S : List Addr} {H H' : Hp} {v : V} (h : NoAl S H v) (W : Wd A S H) (g : Go A H H') : NoAl S H' v := h.go W g fun a e => by
  subst e
  obtain ⟨d, pd, r, _⟩ := h.ex
  exact fun q => r.noS (W.sub _ q)
section
open PyProof.Rows
variable {P : Program} {w : World} {K : PySem.W.Frag} {mg : Str → Option Value} {base : Heap}
theorem scRefused : FnScope ["source", "alphabet", "told", "moves", "good", "wrong", "bent", "shut", "due"] ["source", "alphabet", "told"] (C8.fnScope sRefused) := C8.fnScope_by (by decide +kernel)
theorem ok_refused {f : Addr} {fd : FuncData} (F : C8.Def K mg "_law_refused" sRefused f fd) (b : Binds K fd ["source", "alphabet", "told"] []) (T : Txt mg) (c_law_pick : C8.Cal P w K mg base 1 "_law_pick" spPick []) (c_law_wrong_alphabet : C8.Cal P w K mg base 2 "_law_wrong_alphabet" spWrongAl []) (c_law_wrong_moves : C8.Cal P w K mg base 2 "_law_wrong_moves" spWrongMv [])
    (c_law_wrong_good : C8.Cal P w K mg base 2 "_law_wrong_good" spWrongGd []) (c_law_making : CalZ Gd P w K mg base 5 "_law_making" spMaking) (c_law_filling : CalZ Gd P w K mg base 6 "_law_filling" spFilling) : CalZ Gd P w K mg base 7 "_law_refused" spRefused := by
  refine calZ (fun A env h => h.deeper env) F b scRefused (fun vs H Q E h => ?_) (fun cdv A0 outer s H vs Q E hG hr h => ?_)
  · obtain ⟨A, S, a, al, v, mv, g, rfl, _⟩ := h
    rfl
  · obtain ⟨A, S, a, al, v, mv, g, rfl, hm, W, hal, hv, M, k⟩ := h
    have sc := scRefused
    have hu : (A0.deeper (envOfC "_law_refused" (C8.fnScope sRefused) s.heap.objs.size f cdv)).units + 64 < cLine := by have := hr.un; omega
    have hg := hG
    refine ⟨_, -- _law_refused: 0 source 1 alphabet 2 told 3 moves 4 good 5 wrong 6 bent 7 shut 8 due

      (pss_cons (ps_set (i := 3) sc.nd rfl (Or.inl rfl) (pe_ix (ixQ (K := K) rfl) (pv 2) pe_int (fun _ _ => rfl)))
      (pss_cons (ps_set (i := 4) sc.nd rfl (Or.inl rfl) (pe_ix (ixQ (K := K) rfl) (pv 2) pe_int (fun _ _ => rfl)))
      (pss_cons (ps_set (i := 5) sc.nd rfl (Or.inl rfl) (C8.pe_c c_law_wrong_alphabet hr (by decide) rfl (pa_cons (pv 0) pa_nil)))
      (pss_cons (ps_set (i := 6) sc.nd rfl (Or.inl rfl) (C8.pe_c c_law_wrong_moves hr (by decide) rfl (pa_cons (pv 0) (pa_cons (pv 3) (pa_cons (pe_callB call_len_str (by rfl) T.len PySem.boot_len (pa_cons (pv 1) pa_nil)) pa_nil)))))
      (pss_cons (ps_set (i := 7) sc.nd rfl (Or.inl rfl) (C8.pe_c c_law_wrong_good hr (by decide) rfl (pa_cons (pv 0) (pa_cons (pe_callB (call_lenQ (K := K) rfl) (by rfl) T.len PySem.boot_len (pa_cons (pv 3) pa_nil)) (pa_cons (pv 4) pa_nil)))))
      (pss_cons (ps_set (i := 8) sc.nd rfl (Or.inl rfl) (pe_lst (pa_cons pe_str (pa_cons (pe_op op_add_str pe_str (pe_callB (call_repr hg hu) (by rfl) T.repr (by decide +kernel) (pa_cons (pv 5) pa_nil))) (pa_cons pe_str pa_nil)))))
      (pss_cons (ps_if (pt_cmpR (op_neD hr.units) (pe_z (E := fun _ _ _ _ => False) c_law_making hG hr (by decide) rfl (fun σ => passF σ) (pa_cons (pv 5) (pa_cons (pe_ix ix_list (pe_lst (pa_cons (pv 3) (pa_cons (pe_ix ix_list (pv 6) pe_int (fun _ _ => rfl)) pa_nil))) (C8.pe_c c_law_pick hr (by decide) rfl (pa_cons (pv 0) (pa_cons pe_int pa_nil))) (fun _ _ => rfl)) (pa_cons (pe_ix ix_list (pe_lst (pa_cons (pv 4) (pa_cons (pe_ix ix_list (pv 7) pe_int (fun _ _ => rfl)) pa_nil))) (C8.pe_c c_law_pick hr (by decide) rfl (pa_cons (pv 0) (pa_cons pe_int pa_nil))) (fun _ _ => rfl)) pa_nil)))) (pv 8) (nomark _)) 
        (pss_one (ps_ret pe_bl)) pss_nil)
      (pss_cons (ps_if (pt_cmpR (op_neD hr.units) (pe_z (E := fun _ _ _ _ => False) c_law_filling hG hr (by decide) rfl (fun σ => passF σ) (pa_cons (pv 5) pa_nil)) (pe_lst (pa_cons (pv 8) (pa_cons (pv 8) pa_nil))) (nomark _)) 
        (pss_one (ps_ret pe_bl)) pss_nil)
      (pss_cons (ps_set (i := 8) sc.nd rfl (Or.inl rfl) (pe_lst (pa_cons pe_str (pa_cons (pe_op op_add_str pe_str (pe_callTy (T := "str") call_str_int (by rfl) T.str (by decide +kernel) (pa_cons (pe_ix ix_list (pv 6) pe_int (fun _ _ => rfl)) pa_nil))) (pa_cons pe_str pa_nil)))))
      (pss_cons (ps_if (pt_cmpR (op_neD hr.units) (pe_z (E := fun _ _ _ _ => False) c_law_making hG hr (by decide) rfl (fun σ => passF σ) (pa_cons (pv 1) (pa_cons (pe_ix ix_list (pv 6) pe_int (fun _ _ => rfl)) (pa_cons (pe_ix ix_list (pe_lst (pa_cons (pv 4) (pa_cons (pe_ix ix_list (pv 7) pe_int (fun _ _ => rfl)) pa_nil))) (C8.pe_c c_law_pick hr (by decide) rfl (pa_cons (pv 0) (pa_cons pe_int pa_nil))) (fun _ _ => rfl)) pa_nil)))) (pv 8) (nomark _)) 
        (pss_one (ps_ret pe_bl)) pss_nil)
      (pss_cons (ps_set (i := 8) sc.nd rfl (Or.inl rfl) (pe_lst (pa_cons pe_str (pa_cons (pe_op op_add_str pe_str (pe_callTy (T := "str") call_str_int (by rfl) T.str (by decide +kernel) (pa_cons (pe_ix ix_list (pv 7) pe_int (fun _ _ => rfl)) pa_nil))) (pa_cons pe_str pa_nil)))))
      (pss_one (ps_ret (pe_and (pe_cmpR (op_eqD hr.units) (pe_z (E := fun _ _ _ _ => False) c_law_making hG hr (by decide) rfl (fun σ => passF σ) (pa_cons (pv 1) (pa_cons (pv 3) (pa_cons (pe_ix ix_list (pv 7) pe_int (fun _ _ => rfl)) pa_nil)))) (pv 8) (nomark _)) (pe_one (pe_cmpR (op_eqD hr.units) (pe_z (E := fun _ _ _ _ => False) c_law_making hG hr (by decide) rfl (fun σ => passF σ) (pa_cons (pv 1) (pa_cons (pv 3) (pa_cons (pv 4) pa_nil)))) (pe_lst pa_nil) (nomark _))))))))))))))))), ?_⟩
    obtain ⟨t, ws, rfl, htS, ht, hws⟩ := hv.tupItem
    cases hws with
    | @cons x0 _ _ _ h1 hws =>
    cases hws with
    | @cons x1 _ _ _ h2 hws =>
    cases hws
    have hlen := hal.len
    have AO := oth_ok hal
    have ml := M.most
    have mp := M.pos
    have tA : t ∉ A := fun q => htS (W.sub _ q)
    refine ⟨_, rfl, t, _, _, _, rfl, rfl, .inr (.inl (.inl ht)), rfl, _, rfl, t, _, _, _, rfl, rfl, .inr (.inl (.inl ht)), rfl, ?_⟩
    refine ⟨_, rfl, A, S, a, rfl, hm, W, fun wv H1 g1 nw => ?_⟩
    have W1 := W.go g1
    have h11 := h1.go W g1
    have h21 := h2.go W g1
    refine ⟨_, rfl, _, rfl, _, rfl, al, rfl, Nat.le_trans (show al.length ≤ 3 by omega) (szl rfl), A, S, a, _, al.length, mv, g, rfl, hm, W1, h11, M, hlen.1, hlen.2, fun p1 bv bi bd H2 g2 hp1 q1 rb nb b0 b1 => ?_⟩
    have W2 := W1.go g2
    have h12 := h11.go W1 g2
    have h22 := h21.go W1 g2
    have nw2 := nw.on W1 g2
    have p1S : p1 ∉ S := W1.fresh hp1
    have nA : ∀ {c}, c ∉ S → c ∉ A := fun h q => h (W.sub _ q)
    obtain ⟨m0, ms0, e0, hm0, hr0⟩ : ∃ m0 ms0, x0 = .ref m0 ∧ H2 m0 = some (.lst ms0) ∧ ms0.length = mv.length := by
      cases h12 with
      | lst n e r => exact ⟨_, _, rfl, e, by rw [r.len, List.length_map]⟩
    obtain ⟨ga, e3⟩ : ∃ ga, x1 = .ref ga := by
      cases h22 with
      | lst n e r => exact ⟨_, rfl⟩
    subst e0 e3
    refine ⟨_, rfl, _, rfl, m0, ms0, rfl, .inl (SqL.of hm0), _, rfl, A, S, a, ga, mv.length, g, by rw [hr0]; rfl, hm, W2, h22, mp, ml, M.asc, M.inn, fun p2 gv gi gd H3 g3 hp2 q2 rg ng c0 c1 => ?_⟩
    have W3 := W2.go g3
    have h13 := h12.go W2 g3
    have h23 := h22.go W2 g3
    have rb3 := rb.go W2 g3
    have q13 := g3.keep _ _ (nA p1S) q1
    have p2S : p2 ∉ S := W2.fresh hp2
    obtain ⟨wd, wpd, rw3, wz, wa, we, wok⟩ := (nw2.on W2 g3).ex
    have wl := we.sz
    have tl : (Str.ofString "thing ").length + wpd.shown.length ≤ sizeLine := by
      have e6 : (Str.ofString "thing ").length = 6 := by decide +kernel
      exact Nat.le_trans (show (Str.ofString "thing ").length + wpd.shown.length ≤ 1000 + 6 by omega) (by decide)
    refine ⟨_, rfl, wv, wpd, rfl, we.sh, Nat.le_trans wl (szl rfl), we.it, _, _, rfl, rfl, tl, by show 3 ≤ sizeLine; exact szl rfl, fun du hdu => ?_⟩
    have sd := Same.new (o := .lst [.str (Str.ofString "value"), .str (Str.ofString "thing " ++ wpd.shown), .str (Str.ofString "alphabet")]) hdu
    have qd : upd H3 du (.lst [.str (Str.ofString "value"), .str (Str.ofString "thing " ++ wpd.shown), .str (Str.ofString "alphabet")]) du = some (.lst ((Er.words .alphabet wpd).map V.str)) := upd_same
    generalize upd H3 du (.lst [.str (Str.ofString "value"), .str (Str.ofString "thing " ++ wpd.shown), .str (Str.ofString "alphabet")]) = H4 at sd qd ⊢
    have W4 := W3.go (Go.same sd)
    have duS : du ∉ S := W3.fresh hdu
    refine ⟨_, rfl, _, rfl, _, rfl, p1, _, _, bv, rfl, rfl, SqL.of (sd _ _ q13), rfl, by show 2 ≤ sizeLine; exact szl rfl, fun l1 hl1 => ?_⟩
    have l1S : l1 ∉ S := W4.fresh hl1
    have s5 := Same.new (o := .lst [.ref m0, bv]) hl1
    have q5 : upd H4 l1 (.lst [.ref m0, bv]) l1 = some (.lst [.ref m0, bv]) := upd_same
    have W5 := W4.go (Go.same s5)
    refine ⟨_, rfl, A, a, _, rfl, hm, W5.src, by omega, by omega, fun r1 H6 r10 r11 g6 => ?_⟩
    obtain ⟨vm, hvm, hvm2⟩ := at_in (l := [.ref m0, bv]) r10 r11
    refine ⟨l1, _, r1, vm, rfl, rfl, SqL.of (g6.keep _ _ (nA l1S) q5), hvm, ?_⟩
    have W6 := W5.go g6
    have g36 := (Go.same (A := A) (sd.trans s5)).trans g6
    have q26 := g36.keep _ _ (nA p2S) q2
    have q16 := g36.keep _ _ (nA p1S) q13
    have qd6 := g6.keep _ _ (nA duS) (s5 _ _ qd)
    refine ⟨_, rfl, _, rfl, p2, _, _, gv, rfl, rfl, SqL.of q26, rfl, by show 2 ≤ sizeLine; exact szl rfl, fun l2 hl2 => ?_⟩
    have l2S : l2 ∉ S := W6.fresh hl2
    have s7 := Same.new (o := .lst [.ref ga, gv]) hl2
    have q7 : upd H6 l2 (.lst [.ref ga, gv]) l2 = some (.lst [.ref ga, gv]) := upd_same
    have W7 := W6.go (Go.same s7)
    refine ⟨_, rfl, A, a, _, rfl, hm, W7.src, by omega, by omega, fun r2 H8 r20 r21 g8 => ?_⟩
    obtain ⟨vg, hvg, hvg2⟩ := at_in (l := [.ref ga, gv]) r20 r21
    refine ⟨l2, _, r2, vg, rfl, rfl, SqL.of (g8.keep _ _ (nA l2S) q7), hvg, ?_⟩
    have g38 := g36.trans ((Go.same (A := A) s7).trans g8)
    have W8 := W7.go g8
    have h18 := h13.go W3 g38
    have h28 := h23.go W3 g38
    have rb8 := rb3.go W3 g38
    have rg8 := rg.go W3 g38
    have mvo : MvOf (mvD mv) mv := ⟨mv.map rowD, rfl, by rw [List.map_map]; rfl⟩
    have gdo : GdOf (rowD g) g := rfl
    obtain ⟨dm, rm, fm⟩ : ∃ dm, Rp S H8 vm dm ∧ dm.fit := by
      simp only [List.mem_cons, List.not_mem_nil, or_false] at hvm2
      rcases hvm2 with rfl | rfl
      · exact ⟨_, h18, mvo.fit M (by omega)⟩
      · exact ⟨_, rb8, nb.2⟩
    obtain ⟨dg, rgg, fg⟩ : ∃ dg, Rp S H8 vg dg ∧ dg.fit := by
      simp only [List.mem_cons, List.not_mem_nil, or_false] at hvg2
      rcases hvg2 with rfl | rfl
      · exact ⟨_, h28, gdo.fit M⟩
      · exact ⟨_, rg8, ng.2⟩
    have nw8 : ErV H8 .alphabet wv wpd ∧ Rp S H8 wv wd := by
      refine ⟨⟨?_, we.sz, we.it⟩, rw3.go W3 g38⟩
      cases hs : we.sh with
      | non => exact .non
      | bl b => exact .bl b
      | int i => exact .int i
      | str x => exact .str x
      | lst h => exact .lst (g38.keep _ _ (nA rw3.noS) h)
      | tup h => exact .tup (g38.keep _ _ (nA rw3.noS) h)
    have qd8 := g8.keep _ _ (nA duS) (s7 _ _ qd6)
    have lw : Low 1 (txtsD (Er.words .alphabet wpd)) := low_txts fun x hx => by
      simp only [Er.words, List.mem_cons, List.not_mem_nil, or_false] at hx
      rcases hx with rfl | rfl | rfl
      · decide +kernel
      · exact wok
      · decide +kernel
    refine ⟨S, wv, vm, vg, wd, dm, dg, al, rfl, nw8.2, rm, rgg, wz, by omega, .inr ⟨fm, fg, .alphabet, wv, wpd, .inl ⟨wa, rfl, rfl⟩, nw8.1, fun p H9 hp s9 e9 => ?_⟩⟩
    have W9 := W8.go (Go.same s9)
    refine ⟨_, rfl, ne_lowT (S := []) (T := []) (.lst (by simp) e9 (Rps.txts _)) (.lst (by simp) (s9 _ _ qd8) (Rps.txts _)) lw (by decide) ⟨_, rfl, iteF ?_⟩⟩
    have we9 : ErV H9 .alphabet wv wpd := nw8.1.go s9
    refine ⟨_, rfl, S, wv, wd, wpd, rfl, nw8.2.same s9, wz, wa, we9, fun y H10 s10 ry => ?_⟩
    have qd10 := s10 _ _ (s9 _ _ qd8)
    refine ⟨_, rfl, _, rfl, by show 2 ≤ sizeLine; exact szl rfl, fun l3 hl3 => ?_⟩
    have s11 := Same.new (o := .lst [.ref du, .ref du]) hl3
    have rdu : Rp [] H10 (.ref du) (txtsD (Er.words .alphabet wpd)) := .lst (by simp) qd10 (Rps.txts _)
    refine ne_lowT (S := []) (T := []) (n := 2) (ry.same s11) (.lst (by simp) upd_same (.cons (rdu.same s11) (.cons (rdu.same s11) .nil))) (.lst fun d hd => ?_) (by decide) ⟨_, rfl, iteF ?_⟩
    · simp only [List.mem_cons, List.not_mem_nil, or_false] at hd
      rcases hd with rfl | rfl <;> exact lw
    have sm := small_item (i := bi) ⟨b0, b1⟩
    have sm2 := small_item (i := gi) ⟨c0, c1⟩
    rw [shown_int] at sm sm2
    have e5 : (Str.ofString "item ").length = 5 := by decide +kernel
    have g3l := g38.trans (Go.same (A := A) (s9.trans (s10.trans s11)))
    generalize upd H10 l3 (.lst [.ref du, .ref du]) = H11 at s11 g3l ⊢
    have q1l := g3l.keep _ _ (nA p1S) q13
    refine ⟨_, rfl, p1, _, _, .int bi, rfl, rfl, SqL.of q1l, rfl, bi, rfl, small_log ⟨b0, b1⟩, _, _, rfl, rfl, ?_, by show 3 ≤ sizeLine; exact szl rfl, fun du2 hdu2 => ?_⟩
    · have := sm.1
      exact Nat.le_trans (show _ ≤ 1000 + 5 by omega) (by decide)
    · have W11 := W3.go g3l
      have du2S : du2 ∉ S := W11.fresh hdu2
      have sd2 := Same.new (o := .lst [.str (Str.ofString "value"), .str (Str.ofString "item " ++ Str.ofString (toString bi)), .str (Str.ofString "moves")]) hdu2
      have qd2 : upd H11 du2 (.lst [.str (Str.ofString "value"), .str (Str.ofString "item " ++ Str.ofString (toString bi)), .str (Str.ofString "moves")]) du2 = some (.lst ((Er.words .moves (.int bi)).map V.str)) := by
        rw [show Er.words .moves (.int bi) = [Str.ofString "value", Str.ofString "item " ++ Str.ofString (toString bi), Str.ofString "moves"] by unfold Er.words; rw [shown_int]; rfl]
        exact upd_same
      generalize upd H11 du2 (.lst [.str (Str.ofString "value"), .str (Str.ofString "item " ++ Str.ofString (toString bi)), .str (Str.ofString "moves")]) = H12 at sd2 qd2 ⊢
      have g3m := g3l.trans (Go.same (A := A) sd2)
      have W12 := W3.go g3m
      have q1m := g3m.keep _ _ (nA p1S) q13
      have q2m := g3m.keep _ _ (nA p2S) q2
      refine ⟨_, rfl, _, rfl, p1, _, _, bv, rfl, rfl, SqL.of q1m, rfl, _, rfl, _, rfl, p2, _, _, gv, rfl, rfl, SqL.of q2m, rfl, by show 2 ≤ sizeLine; exact szl rfl, fun l4 hl4 => ?_⟩
      have l4S : l4 ∉ S := W12.fresh hl4
      have s13 := Same.new (o := .lst [.ref ga, gv]) hl4
      have q13' : upd H12 l4 (.lst [.ref ga, gv]) l4 = some (.lst [.ref ga, gv]) := upd_same
      have W13 := W12.go (Go.same s13)
      refine ⟨_, rfl, A, a, _, rfl, hm, W13.src, by omega, by omega, fun r3 H14 r30 r31 g14 => ?_⟩
      obtain ⟨vg3, hvg3, hvg32⟩ := at_in (l := [.ref ga, gv]) r30 r31
      refine ⟨l4, _, r3, vg3, rfl, rfl, SqL.of (g14.keep _ _ (nA l4S) q13'), hvg3, ?_⟩
      have g3n := g3m.trans ((Go.same (A := A) s13).trans g14)
      have rbn := rb3.go W3 g3n
      obtain ⟨dg3, rgg3, fg3⟩ : ∃ dg, Rp S H14 vg3 dg ∧ dg.fit := by
        simp only [List.mem_cons, List.not_mem_nil, or_false] at hvg32
        rcases hvg32 with rfl | rfl
        · exact ⟨_, h23.go W3 g3n, gdo.fit M⟩
        · exact ⟨_, rg.go W3 g3n, ng.2⟩
      have qd2n := g14.keep _ _ (nA du2S) (s13 _ _ qd2)
      have lw2 : Low 1 (txtsD (Er.words .moves (.int bi))) := low_txts fun x hx => by
        simp only [Er.words, List.mem_cons, List.not_mem_nil, or_false] at hx
        rcases hx with rfl | rfl | rfl
        · decide +kernel
        · rw [shown_int]; exact sm.2
        · decide +kernel
      refine ⟨S, _, bv, vg3, .str al, bd, dg3, al, rfl, .str al, rbn, rgg3, fun z e => by cases e; omega, by omega, .inr ⟨nb.2, fg3, .moves, .int bi, .int bi, .inr (.inl ⟨bi, rfl, AO.2.2.2, nb.1, rfl, rfl⟩), ⟨.int bi, by rw [shown_int]; exact sm.1, fun i e => by cases e; exact small_log ⟨b0, b1⟩⟩, fun p H15 hp s15 e15 => ?_⟩⟩
      refine ⟨_, rfl, ne_lowT (S := []) (T := []) (.lst (by simp) e15 (Rps.txts _)) (.lst (by simp) (s15 _ _ qd2n) (Rps.txts _)) lw2 (by decide) ⟨_, rfl, iteF ?_⟩⟩
      have g3o := g3n.trans (Go.same (A := A) s15)
      have q2o := g3o.keep _ _ (nA p2S) q2
      have W15 := W3.go g3o
      refine ⟨_, rfl, p2, _, _, .int gi, rfl, rfl, SqL.of q2o, rfl, gi, rfl, small_log ⟨c0, c1⟩, _, _, rfl, rfl, ?_, by show 3 ≤ sizeLine; exact szl rfl, fun du3 hdu3 => ?_⟩
      · have := sm2.1
        exact Nat.le_trans (show _ ≤ 1000 + 5 by omega) (by decide)
      have sd3 := Same.new (o := .lst [.str (Str.ofString "value"), .str (Str.ofString "item " ++ Str.ofString (toString gi)), .str (Str.ofString "good")]) hdu3
      have qd3 : upd H15 du3 (.lst [.str (Str.ofString "value"), .str (Str.ofString "item " ++ Str.ofString (toString gi)), .str (Str.ofString "good")]) du3 = some (.lst ((Er.words .good (.int gi)).map V.str)) := by
        rw [show Er.words .good (.int gi) = [Str.ofString "value", Str.ofString "item " ++ Str.ofString (toString gi), Str.ofString "good"] by unfold Er.words; rw [shown_int]; rfl]
        exact upd_same
      generalize upd H15 du3 (.lst [.str (Str.ofString "value"), .str (Str.ofString "item " ++ Str.ofString (toString gi)), .str (Str.ofString "good")]) = H16 at sd3 qd3 ⊢
      have g3p := g3o.trans (Go.same (A := A) sd3)
      have q2p := g3p.keep _ _ (nA p2S) q2
      have h1p := h13.go W3 g3p
      have h2p := h23.go W3 g3p
      have rgp := rg.go W3 g3p
      have lw3 : Low 1 (txtsD (Er.words .good (.int gi))) := low_txts fun x hx => by
        simp only [Er.words, List.mem_cons, List.not_mem_nil, or_false] at hx
        rcases hx with rfl | rfl | rfl
        · decide +kernel
        · rw [shown_int]; exact sm2.2
        · decide +kernel
      refine ⟨_, rfl, _, rfl, _, rfl, p2, _, _, gv, rfl, rfl, SqL.of q2p, rfl, S, _, _, gv, .str al, mvD mv, gd, al, rfl, .str al, h1p, rgp, fun z e => by cases e; omega, by omega, .inr ⟨mvo.fit M (by omega), ng.2, .good, .int gi, .int gi, .inr (.inr ⟨mv.map rowD, gi, rfl, AO.2.2.2, mvo.ok M, rfl, by rw [List.length_map]; exact ng.1, rfl, rfl⟩), ⟨.int gi, by rw [shown_int]; exact sm2.1, fun i e => by cases e; exact small_log ⟨c0, c1⟩⟩, fun p H17 hp s17 e17 => ?_⟩⟩
      refine ⟨_, rfl, eq_lowT (S := []) (T := []) (.lst (by simp) e17 (Rps.txts _)) (.lst (by simp) (s17 _ _ qd3) (Rps.txts _)) lw3 (by decide) ⟨_, rfl, iteT ?_⟩⟩
      refine ⟨_, rfl, _, rfl, _, rfl, S, _, _, _, .str al, mvD mv, rowD g, al, rfl, .str al, h1p.same s17, h2p.same s17, fun z e => by cases e; omega, by omega, .inl ⟨mv, g, rfl, AO.2.2.2, mvo, gdo, M, fun p3 H18 hp3 s18 e18 => ?_⟩⟩
      refine ⟨Nat.zero_le _, fun l9 hl9 => ?_⟩
      have s19 := Same.new (o := .lst []) hl9
      refine eq_lowT (S := []) (T := []) (.lst (by simp) (s19 _ _ e18) .nil) (.lst (by simp) upd_same .nil) (low_rowD []) (by decide) ?_
      exact k _ ((g1.trans (g2.trans (g3.trans g3p))).trans (Go.same (s17.trans (s18.trans s19))))
end

/-! ### what law's parts keep -/
theorem rowT_apart {U T : List Addr} {H : Hp} {v : V} {r : List Int} (h : Rp U H v (rowT r)) (hT : ∀ a ∈ T, a ∈ U ∨ H a = none ∨ ∃ zs, H a = some (.lst zs)) : Rp T H v (rowT r) := by
  obtain ⟨a, xs, rfl, n, e, rs⟩ := h.tupItem
  refine .tup (fun hm => ?_) e rs.ints_any
  rcases hT a hm with q | q | ⟨zs, q⟩
  · exact n q
  · rw [e] at q; cases q
  · rw [e] at q; cases q
theorem mvT_apart {U T : List Addr} {H : Hp} {v : V} {mv : List (List Int)} (h : Rp U H v (mvT mv)) (hT : ∀ a ∈ T, a ∈ U ∨ H a = none ∨ ∃ zs, H a = some (.lst zs)) : Rp T H v (mvT mv) := by
  obtain ⟨a, xs, rfl, n, e, rs⟩ := h.tupItem
  refine .tup (fun hm => ?_) e (Rps.of_get rs.len fun j y d h1 h2 => ?_)
  · rcases hT a hm with q | q | ⟨zs, q⟩
    · exact n q
    · rw [e] at q; cases q
    · rw [e] at q; cases q
  · obtain ⟨dd, h3, h4⟩ := rs.item h1
    rw [h2] at h3
    cases h3
    rw [List.getElem?_map] at h2
    cases hr : mv[j]? with
    | none => rw [hr] at h2; cases h2
    | some r =>
      rw [hr] at h2
      cases h2
      exact rowT_apart h4 hT
/-- a reader, apart from other lists and from what has not come yet -/
theorem RdAt.apart {ad : Ad} {U T : List Addr} {H : Hp} {x : Addr} {al : Str} {mv : List (List Int)} {g : List Int} (r : RdAt ad U H x al mv g) (hT : ∀ a ∈ T, a ∈ U ∨ H a = none ∨ ∃ zs, H a = some (.lst zs)) : RdAt ad T H x al mv g := by
  obtain ⟨⟨dx, vm, vg, e, rm, rg⟩, M⟩ := r
  exact ⟨⟨dx, vm, vg, e, mvT_apart rm hT, rowT_apart rg hT⟩, M⟩
theorem RdAt.notL {ad : Ad} {U T : List Addr} {H : Hp} {x : Addr} {al : Str} {mv : List (List Int)} {g : List Int} (r : RdAt ad U H x al mv g) (hT : ∀ a ∈ T, H a = none ∨ ∃ zs, H a = some (.lst zs)) : x ∉ T := fun hm => by
  obtain ⟨⟨dx, vm, vg, e, _⟩, _⟩ := r
  rcases hT x hm with q | ⟨zs, q⟩
  · rw [e] at q; cases q
  · rw [e] at q; cases q
theorem RdAt.less {ad : Ad} {U T : List Addr} {H : Hp} {x : Addr} {al : Str} {mv : List (List Int)} {g : List Int} (r : RdAt ad U H x al mv g) (h : ∀ a ∈ T, a ∈ U) : RdAt ad T H x al mv g := by
  obtain ⟨⟨dx, vm, vg, e, rm, rg⟩, M⟩ := r
  exact ⟨⟨dx, vm, vg, e, rm.less h, rg.less h⟩, M⟩
/-- what was passed, another list changed -/
theorem Pas.updL {H : Hp} {U : List Addr} {p c : Addr} {x0 x1 : V} {mv : List (List Int)} {zs : List V} {o : HO} (h : Pas H U p x0 x1 mv) (hc : c ∉ U) (hp : c ≠ p) (e : H c = some (.lst zs)) : Pas (upd H c o) U p x0 x1 mv := by
  obtain ⟨at_, no, len, small, sh⟩ := h
  have nU : ∀ {a}, a ∈ U → a ≠ c := fun ha z => hc (by rw [← z]; exact ha)
  have row : ∀ {V0 : List Addr} (y : V) (r : List Int), (∀ a ∈ V0, a ∈ U) → RowIn H V0 y r → RowIn (upd H c o) V0 y r := fun y r hV h => by
    obtain ⟨b, rfl, q⟩ := h
    refine ⟨b, rfl, q.imp (fun q => ⟨q.1, (upd_ne (nU (hV _ q.1))).trans q.2⟩) fun q => (upd_ne (fun z => by rw [z, e] at q; cases q)).trans q⟩
  refine ⟨(upd_ne (Ne.symm hp)).trans at_, no, len, fun a ha => ?_, ?_⟩
  · obtain ⟨ws, q1, q2⟩ := small a ha
    exact ⟨ws, (upd_ne (nU ha)).trans q1, q2⟩
  · rcases sh with ⟨a0, xs, a1, ys, V0, e0, e1, eU, n0, n1, h0, h1, hl, hr⟩ | ⟨a0, xs, e0, h0, hr⟩
    · have i0 : a0 ∈ U := by rw [eU]; exact List.mem_cons_self ..
      have i1 : a1 ∈ U := by rw [eU]; exact List.mem_cons_of_mem _ (List.mem_cons_self ..)
      exact .inl ⟨a0, xs, a1, ys, V0, e0, e1, eU, n0, n1, (upd_ne (nU i0)).trans h0, (upd_ne (nU i1)).trans h1, hl, hr.imp fun y r => row y r fun a ha => by rw [eU]; exact List.mem_cons_of_mem _ (List.mem_cons_of_mem _ ha)⟩
    · exact .inr ⟨a0, xs, e0, (upd_ne (fun z => by rw [z, e] at h0; cases h0)).trans h0, hr.imp fun y r => row y r fun _ h => h⟩
theorem Pas.same {H H' : Hp} {U : List Addr} {p : Addr} {x0 x1 : V} {mv : List (List Int)} (h : Pas H U p x0 x1 mv) (s : Same H H') : Pas H' U p x0 x1 mv := by
  obtain ⟨at_, no, len, small, sh⟩ := h
  have row : ∀ {V0 : List Addr} (y : V) (r : List Int), RowIn H V0 y r → RowIn H' V0 y r := fun y r h => by
    obtain ⟨b, rfl, q⟩ := h
    exact ⟨b, rfl, q.imp (fun q => ⟨q.1, s _ _ q.2⟩) fun q => s _ _ q⟩
  refine ⟨s _ _ at_, no, len, fun a ha => ?_, ?_⟩
  · obtain ⟨ws, q1, q2⟩ := small a ha
    exact ⟨ws, s _ _ q1, q2⟩
  · rcases sh with ⟨a0, xs, a1, ys, V0, e0, e1, eU, n0, n1, h0, h1, hl, hr⟩ | ⟨a0, xs, e0, h0, hr⟩
    · exact .inl ⟨a0, xs, a1, ys, V0, e0, e1, eU, n0, n1, s _ _ h0, s _ _ h1, hl, hr.imp row⟩
    · exact .inr ⟨a0, xs, e0, s _ _ h0, hr.imp row⟩

/-! ### law -/
abbrev sLaw : Stmt := top 65
def spLaw (K : PySem.W.Frag) : Sp := fun vs H Q _ => ∃ (a : Addr) (ns : List Int), vs = [.ref a] ∧ SqL K H a (ns.map V.int) ∧ (∀ n ∈ ns, Builtin.Int.intBits n ≤ 1048576) ∧ ∀ H', Q (.bl true) H'
/-- what stands behind the makings -/
structure Lw (ad : Ad) (A : List Addr) (H : Hp) (al : Str) (pl rd x0 x1 : Addr) (v0 v1 : V) (m0 m1 : List (List Int)) (g0 g1 : List Int) : Prop where
  src : ∀ a ∈ A, Src H a
  pls : H pl = some (.lst [v0, v1])
  rds : H rd = some (.lst [.ref x0, .ref x1])
  p0 : Rp A H v0 (.tup [mvD m0, rowD g0])
  p1 : Rp A H v1 (.tup [mvD m1, rowD g1])
  d0 : RdAt ad A H x0 al m0 g0
  d1 : RdAt ad A H x1 al m1 g1
theorem two_noA {A : List Addr} {H : Hp} {b : Addr} {y z : V} (s : ∀ a ∈ A, Src H a) (h : H b = some (.lst [y, z])) : b ∉ A := fun hm => by
  obtain ⟨_, _, _, q⟩ := s b hm
  rw [h] at q
  cases q
section
variable {ad : Ad} {A : List Addr} {H H' : Hp} {al : Str} {pl rd x0 x1 : Addr} {v0 v1 : V} {m0 m1 : List (List Int)} {g0 g1 : List Int}
theorem Lw.go (w : Lw ad A H al pl rd x0 x1 v0 v1 m0 m1 g0 g1) (g : Go A H H') : Lw ad A H' al pl rd x0 x1 v0 v1 m0 m1 g0 g1 :=
  ⟨g.src w.src, g.keep _ _ (two_noA w.src w.pls) w.pls, g.keep _ _ (two_noA w.src w.rds) w.rds, w.p0.go (Wd.of w.src) g, w.p1.go (Wd.of w.src) g, w.d0.go (Wd.of w.src) g, w.d1.go (Wd.of w.src) g⟩
theorem Lw.same (w : Lw ad A H al pl rd x0 x1 v0 v1 m0 m1 g0 g1) (s : Same H H') : Lw ad A H' al pl rd x0 x1 v0 v1 m0 m1 g0 g1 := w.go (Go.same s)
/-- the one or the other -/
theorem Lw.at (w : Lw ad A H al pl rd x0 x1 v0 v1 m0 m1 g0 g1) {k : Int} (h : k = 0 ∨ k = 1) : ∃ v x m g, atI [v0, v1] k = some v ∧ atI [V.ref x0, V.ref x1] k = some (.ref x) ∧ Rp A H v (.tup [mvD m, rowD g]) ∧ RdAt ad A H x al m g ∧ Mach al.length m g := by
  rcases h with rfl | rfl
  · exact ⟨_, _, _, _, rfl, rfl, w.p0, w.d0, w.d0.mach⟩
  · exact ⟨_, _, _, _, rfl, rfl, w.p1, w.d1, w.d1.mach⟩
end
/-- the readers so far -/
def Rds (ad : Ad) (A : List Addr) (H : Hp) (al : Str) (rd : Addr) (tm : Nat → List (List Int)) (tg : Nat → List Int) (i : Nat) : Prop := ∃ rs : List V, H rd = some (.lst rs) ∧ rs.length = i ∧ ∀ (j : Nat) (y : V), rs[j]? = some y → ∃ x, y = .ref x ∧ RdAt ad A H x al (tm j) (tg j)
/-- one more reader; U: the lists that were passed and are changed -/
theorem Rds.step {ad : Ad} {A U : List Addr} {H H1 H2 H4 : Hp} {al : Str} {rd x : Addr} {tm : Nat → List (List Int)} {tg : Nat → List Int} {rs : List V} {i : Nat} (src : ∀ a ∈ A, Src H a) (hrd : H rd = some (.lst rs)) (hl : rs.length = i)
    (old : ∀ (j : Nat) (y : V), rs[j]? = some y → ∃ x, y = .ref x ∧ RdAt ad A H x al (tm j) (tg j)) (hU : ∀ a ∈ U, H a = none) (hU2 : ∀ a ∈ U, ∃ zs, H2 a = some (.lst zs)) (rdA : rd ∉ A)
    (g1 : Go A H H1) (s2 : Same H1 H2) (nw : RdAt ad (rd :: A ++ U) H2 x al (tm i) (tg i)) (k4 : Keep U (upd H2 rd (.lst (rs ++ [.ref x]))) H4) : Rds ad A H4 al rd tm tg (i + 1) ∧ Keep (rd :: A) H H4 ∧ ∀ a ∈ A, Src H4 a := by
  have rdU : rd ∉ U := fun q => by rw [hU _ q] at hrd; cases hrd
  have kT : Keep (rd :: A ++ U) H2 H4 := (Keep.upd (by simp)).trans (k4.mono fun a ha => List.mem_append_right _ ha)
  have k02 : Keep A H H2 := g1.keep.trans (Keep.same s2)
  have kH : Keep (rd :: A ++ U) H H4 := (k02.mono fun a ha => by simp [ha]).trans kT
  have src2 := (g1.trans (Go.same s2)).src src
  have lsT : ∀ a ∈ rd :: A ++ U, H a = none ∨ ∃ zs, H a = some (.lst zs) := fun a ha => by
    simp only [List.cons_append, List.mem_cons, List.mem_append] at ha
    rcases ha with rfl | ha | ha
    · exact .inr ⟨_, hrd⟩
    · obtain ⟨_, _, _, q⟩ := src a ha
      exact .inr ⟨_, q⟩
    · exact .inl (hU a ha)
  have lsT2 : ∀ a ∈ rd :: A ++ U, H2 a = none ∨ ∃ zs, H2 a = some (.lst zs) := fun a ha => by
    simp only [List.cons_append, List.mem_cons, List.mem_append] at ha
    rcases ha with rfl | ha | ha
    · exact .inr ⟨_, k02 _ _ rdA hrd⟩
    · obtain ⟨_, _, _, q⟩ := src2 a ha
      exact .inr ⟨_, q⟩
    · exact .inr (hU2 a ha)
  refine ⟨⟨rs ++ [.ref x], k4 _ _ rdU upd_same, by simp [hl], fun j y hy => ?_⟩, fun b o hb e => ?_, fun a ha => ?_⟩
  · by_cases hj : j < rs.length
    · rw [List.getElem?_append_left hj] at hy
      obtain ⟨z, rfl, r⟩ := old j y hy
      refine ⟨z, rfl, ?_⟩
      have r1 : RdAt ad (rd :: A ++ U) H z al (tm j) (tg j) := r.apart fun a ha => .inr (lsT a ha)
      exact (r1.keep kH (r1.notL lsT)).less fun a ha => by simp [ha]
    · rw [List.getElem?_append_right (by omega)] at hy
      have hj2 : j = i := by
        have := (List.getElem?_eq_some_iff.mp hy).1
        simp at this
        omega
      subst hj2
      rw [show j - rs.length = 0 by omega] at hy
      cases hy
      exact ⟨x, rfl, (nw.keep kT (nw.notL lsT2)).less fun a ha => by simp [ha]⟩
  · refine kH b o (fun q => ?_) e
    rcases List.mem_append.mp q with q | q
    · exact hb q
    · rw [hU b q] at e; cases e
  · obtain ⟨c1, c2, c3, q⟩ := src2 a ha
    refine ⟨c1, c2, c3, k4 _ _ (fun hm => ?_) ((upd_ne (fun z => rdA (by rw [← z]; exact ha))).trans q)⟩
    obtain ⟨_, _, _, q0⟩ := src a ha
    rw [hU a hm] at q0
    cases q0
theorem mvD_range (mv : List (List Int)) : (List.range mv.length).map (fun i => rowD (mv.getD i [])) = mv.map rowD := by
  refine List.ext_getElem? fun i => ?_
  simp only [List.getElem?_map]
  by_cases hi : i < mv.length
  · rw [List.getElem?_range hi, List.getElem?_eq_getElem hi]
    show some (rowD (mv.getD i [])) = _
    rw [List.getD_eq_getElem?_getD, List.getElem?_eq_getElem hi]
    rfl
  · rw [List.getElem?_eq_none (by simpa using hi), List.getElem?_eq_none (by simpa using hi)]
    rfl

section
open PyProof.Rows
variable {P : Program} {w : World} {K : PySem.W.Frag} {mg : Str → Option Value} {base : Heap} {ad : Ad}
theorem scLaw : FnScope ["script", "source", "second", "third", "fourth", "alphabet", "plains", "readers", "told", "passed", "texts", "k", "same", "text", "at", "due", "reader", "row"] ["script"] (C8.fnScope sLaw) := C8.fnScope_by (by decide +kernel)
theorem ok_law {f : Addr} {fd : FuncData} (R : RdC K ad.Reader) (RI : RdI K ad.Reader) (RQ : RdQ K ad.Reader) (F : C8.Def K mg "law" sLaw f fd) (b : Binds K fd ["script"] []) (T : Txt mg) (O : Own K mg ad)
    (c_law_source : C8.Cal P w K mg base 1 "_law_source" (spSource K) []) (c_law_alphabet : C8.Cal P w K mg base 2 "_law_alphabet" spAlphabet []) (c_law_sized : C8.Cal P w K mg base 3 "_law_sized" spSized []) (c_law_passed : C8.Cal P w K mg base 2 "_law_passed" spPassed [])
    (m_Reader : MakZ P w K mg base 3 "Reader" ad.Reader (spInit K ad)) (c_law_spoilt : C8.Cal P w K mg base 1 "_law_spoilt" spSpoilt []) (c_law_word : C8.Cal P w K mg base 2 "_law_word" spWord []) (c_law_letters : C8.Cal P w K mg base 2 "_law_letters" spLetters [])
    (c_law_right : C8.Cal P w K mg base 4 "_law_right" (spRight ad) []) (mt_eq : C8.Met P w K mg base 1 ad.Reader "__eq__" (spEqR K ad) []) (c_law_equal : C8.Cal P w K mg base 5 "_law_equal" (spEqual ad) []) (c_law_ends : C8.Cal P w K mg base 6 "_law_ends" spEnds [])
    (c_law_refused : CalZ Gd P w K mg base 7 "_law_refused" spRefused) (c_law_wrong_text : C8.Cal P w K mg base 3 "_law_wrong_text" spWrongTx []) (c_law_rooming : CalZ Gd P w K mg base 5 "_law_rooming" (spTexting ad)) (c_law_finding : CalZ Gd P w K mg base 5 "_law_finding" (spTexting ad)) :
    CalZ Gd P w K mg base 8 "law" (spLaw K) := by
  refine calZ (fun A env h => h.deeper env) F b scLaw (fun vs H Q E h => ?_) (fun cdv A0 outer s H vs Q E hG hr h => ?_)
  · obtain ⟨a, ns, rfl, _⟩ := h
    rfl
  · obtain ⟨a, ns, rfl, hS, hb, k⟩ := h
    have sc := scLaw
    refine ⟨_, -- law: 0 script 1 source 2 second 3 third 4 fourth 5 alphabet 6 plains 7 readers 8 told 9 passed 10 texts 11 k 12 same 13 text 14 at 15 due 16 reader 17 row

      (pss_cons (ps_set (i := 1) sc.nd rfl (Or.inl rfl) (C8.pe_c c_law_source hr (by decide) rfl (pa_cons (pv 0) (pa_cons pe_int pa_nil))))
      (pss_cons (ps_set (i := 2) sc.nd rfl (Or.inl rfl) (C8.pe_c c_law_source hr (by decide) rfl (pa_cons (pv 0) (pa_cons pe_int pa_nil))))
      (pss_cons (ps_set (i := 3) sc.nd rfl (Or.inl rfl) (C8.pe_c c_law_source hr (by decide) rfl (pa_cons (pv 0) (pa_cons pe_int pa_nil))))
      (pss_cons (ps_set (i := 4) sc.nd rfl (Or.inl rfl) (C8.pe_c c_law_source hr (by decide) rfl (pa_cons (pv 0) (pa_cons pe_int pa_nil))))
      (pss_cons (ps_set (i := 5) sc.nd rfl (Or.inl rfl) (C8.pe_c c_law_alphabet hr (by decide) rfl (pa_cons (pv 1) pa_nil)))
      (pss_cons (ps_set (i := 6) sc.nd rfl (Or.inl rfl) (pe_lst (pa_cons (C8.pe_c c_law_sized hr (by decide) rfl (pa_cons (pv 1) (pa_cons (pe_callB call_len_str (by rfl) T.len PySem.boot_len (pa_cons (pv 5) pa_nil)) pa_nil))) (pa_cons (C8.pe_c c_law_sized hr (by decide) rfl (pa_cons (pv 2) (pa_cons (pe_callB call_len_str (by rfl) T.len PySem.boot_len (pa_cons (pv 5) pa_nil)) pa_nil))) pa_nil))))
      (pss_cons (ps_set (i := 7) sc.nd rfl (Or.inl rfl) (pe_lst pa_nil))
      (C8.pss_cut (ps_for passesG rfl (pi_list (pv 6)) (pg_name (i := 8) sc.nd rfl (Or.inl rfl)) 
        (pss_cons (ps_set (i := 9) sc.nd rfl (Or.inl rfl) (C8.pe_c c_law_passed hr (by decide) rfl (pa_cons (pv 3) (pa_cons (pv 8) pa_nil))))
        (pss_cons (ps_expr (pe_append (K := K) rfl (pv 7) (pa_cons (pe_makeZ (E := fun _ _ _ _ => False) m_Reader hr (by decide) rfl (fun σ => passF σ) (pa_cons (pv 5) (pa_cons (pe_ix ix_list (pv 9) pe_int (fun _ _ => rfl)) (pa_cons (pe_ix ix_list (pv 9) pe_int (fun _ _ => rfl)) pa_nil)))) pa_nil)))
        (pss_one (ps_expr (C8.pe_c c_law_spoilt hr (by decide) rfl (pa_cons (pv 9) pa_nil)))))))
      (pss_cons (ps_set (i := 10) sc.nd rfl (Or.inl rfl) (pe_lst (pa_cons pe_str (pa_cons (C8.pe_c c_law_word hr (by decide) rfl (pa_cons (pv 3) (pa_cons (pv 5) (pa_cons pe_int pa_nil)))) (pa_cons (C8.pe_c c_law_word hr (by decide) rfl (pa_cons (pv 3) (pa_cons (pv 5) (pa_cons pe_int pa_nil)))) (pa_cons (C8.pe_c c_law_letters hr (by decide) rfl (pa_cons (pv 3) (pa_cons (pv 5) (pa_cons pe_int pa_nil)))) pa_nil))))))
      (pss_cons (ps_for passesG rfl (pi_seqW (pe_tup (pa_cons pe_int (pa_cons pe_int (pa_cons pe_int pa_nil))))) (pg_name (i := 11) sc.nd rfl (Or.inl rfl)) 
        (pss_one (ps_if (pt_not (pt_val (C8.pe_c c_law_right hr (by decide) rfl (pa_cons (pv 5) (pa_cons (pe_ix ix_list (pv 6) (pv 11) (fun _ _ => rfl)) (pa_cons (pe_ix ix_list (pv 7) (pv 11) (fun _ _ => rfl)) (pa_cons (pv 10) pa_nil))))))) 
          (pss_one (ps_ret pe_bl)) pss_nil)))
      (C8.pss_cut (ps_set (i := 12) sc.nd rfl (Or.inl rfl) (pe_and (pe_cmpR (op_eqD hr.units) (pe_lc (own := [("row", 17)]) (g := gName 17) rfl sc.nd (pi_list (pe_ix (ixQ (K := K) rfl) (pe_ix ix_list (pv 6) pe_int (fun _ _ => rfl)) pe_int (fun _ _ => rfl))) (blkOk_by (own := [("row", 17)]) (by kernel_rfl)) (fun _ _ _ _ _ => (pg_name (i := 17) sc.nd rfl (Or.inl rfl))) (fun _ _ _ _ _ => pts_nil) (fun _ _ _ _ _ => (pe_callTy (T := "list") (call_lstQ (K := K) rfl) (by rfl) T.list (by decide +kernel) (pa_cons (pv 17) pa_nil)))) (pe_lc (own := [("row", 17)]) (g := gName 17) rfl sc.nd (pi_list (pe_ix (ixQ (K := K) rfl) (pe_ix ix_list (pv 6) pe_int (fun _ _ => rfl)) pe_int (fun _ _ => rfl))) (blkOk_by (own := [("row", 17)]) (by kernel_rfl)) (fun _ _ _ _ _ => (pg_name (i := 17) sc.nd rfl (Or.inl rfl))) (fun _ _ _ _ _ => pts_nil) (fun _ _ _ _ _ => (pe_callTy (T := "list") (call_lstQ (K := K) rfl) (by rfl) T.list (by decide +kernel) (pa_cons (pv 17) pa_nil)))) (nomark _)) (pe_one (pe_cmpR (op_eqD hr.units) (pe_ix (ixQ (K := K) rfl) (pe_ix ix_list (pv 6) pe_int (fun _ _ => rfl)) pe_int (fun _ _ => rfl)) (pe_ix (ixQ (K := K) rfl) (pe_ix ix_list (pv 6) pe_int (fun _ _ => rfl)) pe_int (fun _ _ => rfl)) (nomark _)))))
      (pss_cons (ps_if (PW.pt (pw_or (pt_cmpR op_ne (pe_cmpR (op_eqO mt_eq hr (by decide)) (pe_ix ix_list (pv 7) pe_int (fun _ _ => rfl)) (pe_ix ix_list (pv 7) pe_int (fun _ _ => rfl)) (nomark _)) (pv 12) (nomark _)) (pw_or1 (pt_not (pt_val (C8.pe_c c_law_equal hr (by decide) rfl (pa_cons (pv 5) (pa_cons (pe_ix ix_list (pv 6) pe_int (fun _ _ => rfl)) (pa_cons (pe_ix ix_list (pv 7) pe_int (fun _ _ => rfl)) (pa_cons (pv 3) pa_nil)))))))))) 
        (pss_one (ps_ret pe_bl)) pss_nil)
      (pss_cons (ps_if (pt_not (pt_val (C8.pe_c c_law_ends hr (by decide) rfl (pa_cons (pv 5) pa_nil)))) 
        (pss_one (ps_ret pe_bl)) pss_nil)
      (pss_cons (ps_for passesG rfl (pi_range1 (by rfl) T.range (pa_cons pe_int pa_nil)) (pg_name (i := 11) sc.nd rfl (Or.inl rfl)) 
        (pss_cons (ps_if (pt_not (pt_val (pe_z (E := fun _ _ _ _ => False) c_law_refused hG hr (by decide) rfl (fun σ => passF σ) (pa_cons (pv 4) (pa_cons (pv 5) (pa_cons (pe_ix ix_list (pv 6) (pe_op op_mod (pe_callTy (T := "int") call_int1 (by rfl) T.int (by decide +kernel) (pa_cons (pv 11) pa_nil)) pe_int) (fun _ _ => rfl)) pa_nil)))))) 
          (pss_one (ps_ret pe_bl)) pss_nil)
        (pss_cons (ps_asg (C8.pe_c c_law_wrong_text hr (by decide) rfl (pa_cons (pv 4) (pa_cons (pv 5) pa_nil))) (pg_lst rfl (pgs_cons (pg_name (i := 13) sc.nd rfl (Or.inl rfl)) (pgs_cons (pg_name (i := 14) sc.nd rfl (Or.inl rfl)) pgs_nil))))
        (pss_cons (ps_set (i := 15) sc.nd rfl (Or.inl rfl) (pe_lst (pa_cons pe_str (pa_cons (pe_op op_add_str pe_str (pe_callTy (T := "str") call_str_int (by rfl) T.str (by decide +kernel) (pa_cons (pv 14) pa_nil))) (pa_cons pe_str pa_nil)))))
        (pss_one (ps_for passesG rfl (pi_list (pv 7)) (pg_name (i := 16) sc.nd rfl (Or.inl rfl)) 
          (pss_one (ps_if (PW.pt (pw_or (pt_cmpR (op_neD hr.units) (pe_z (E := fun _ _ _ _ => False) c_law_rooming hG hr (by decide) rfl (fun σ => passF σ) (pa_cons (pv 16) (pa_cons (pv 13) pa_nil))) (pv 15) (nomark _)) (pw_or1 (pt_cmpR (op_neD hr.units) (pe_z (E := fun _ _ _ _ => False) c_law_finding hG hr (by decide) rfl (fun σ => passF σ) (pa_cons (pv 16) (pa_cons (pv 13) pa_nil))) (pv 15) (nomark _))))) 
            (pss_one (ps_ret pe_bl)) pss_nil))))))))
      (pss_one (ps_ret (pe_and (C8.pe_c c_law_right hr (by decide) rfl (pa_cons (pv 5) (pa_cons (pe_ix ix_list (pv 6) pe_int (fun _ _ => rfl)) (pa_cons (pe_ix ix_list (pv 7) pe_int (fun _ _ => rfl)) (pa_cons (pv 10) pa_nil))))) (pe_one (C8.pe_c c_law_right hr (by decide) rfl (pa_cons (pv 5) (pa_cons (pe_ix ix_list (pv 6) pe_int (fun _ _ => rfl)) (pa_cons (pe_ix ix_list (pv 7) pe_int (fun _ _ => rfl)) (pa_cons (pv 10) pa_nil))))))))))))))))))))))), ?_⟩
    refine ⟨_, rfl, a, ns, 0, rfl, hS, hb, by decide, by decide, fun q1 y1 t1 c1 H1 n1 s1 e1 => ?_⟩
    refine ⟨_, rfl, a, ns, 1, rfl, s1.seq hS, hb, by decide, by decide, fun q2 y2 t2 c2 H2 n2 s2 e2 => ?_⟩
    refine ⟨_, rfl, a, ns, 2, rfl, (s1.trans s2).seq hS, hb, by decide, by decide, fun q3 y3 t3 c3 H3 n3 s3 e3 => ?_⟩
    refine ⟨_, rfl, a, ns, 3, rfl, ((s1.trans s2).trans s3).seq hS, hb, by decide, by decide, fun q4 y4 t4 c4 H4 n4 s4 e4 => ?_⟩
    obtain ⟨A, m1, m2, m3, m4, src⟩ : ∃ A : List Addr, q1 ∈ A ∧ q2 ∈ A ∧ q3 ∈ A ∧ q4 ∈ A ∧ ∀ a ∈ A, Src H4 a := ⟨[q1, q2, q3, q4], by simp, by simp, by simp, by simp, fun a ha => by
      simp only [List.mem_cons, List.not_mem_nil, or_false] at ha
      rcases ha with rfl | rfl | rfl | rfl
      · exact ⟨_, _, _, s4 _ _ (s3 _ _ (s2 _ _ e1))⟩
      · exact ⟨_, _, _, s4 _ _ (s3 _ _ e2)⟩
      · exact ⟨_, _, _, s4 _ _ e3⟩
      · exact ⟨_, _, _, e4⟩⟩
    clear s1 s2 s3 s4 e1 e2 e3 e4 n1 n2 n3 n4 hS hb
    refine ⟨_, rfl, A, q1, rfl, m1, src, fun al H5 hal g5 => ?_⟩
    have W5 := Wd.of (g5.src src)
    clear g5 src
    have hlen := hal.len
    have AO := oth_ok hal
    refine ⟨_, rfl, _, rfl, al, rfl, Nat.le_trans (show al.length ≤ 3 by omega) (szl rfl), A, A, q1, _, rfl, m1, W5, by omega, by omega, fun v0 mv0 g0 H6 g6 p0 M0 => ?_⟩
    refine ⟨_, rfl, _, rfl, al, rfl, Nat.le_trans (show al.length ≤ 3 by omega) (szl rfl), A, A, q2, _, rfl, m2, W5.go g6, by omega, by omega, fun v1 mv1 g1 H7 g7 p1 M1 => ⟨by show 2 ≤ sizeLine; exact szl rfl, fun pl hpl => ?_⟩⟩
    have M0 : Mach al.length mv0 g0 := M0
    have M1 : Mach al.length mv1 g1 := M1
    have W7 := (W5.go g6).go g7
    have gn := Go.new (A := A) (o := .lst [v0, v1]) hpl
    have p0 := (p0.go (W5.go g6) g7).go W7 gn
    have p1 := p1.go W7 gn
    have W8 := W7.go gn
    have e8 : upd H7 pl (.lst [v0, v1]) pl = some (.lst [v0, v1]) := upd_same
    generalize upd H7 pl (.lst [v0, v1]) = H8 at gn p0 p1 W8 e8 ⊢
    clear g6 g7 gn W7 W5 hpl
    refine ⟨Nat.zero_le _, fun rd hrd => ?_⟩
    refine ⟨fun σ' H' => ∃ (x0 x1 : Addr) (b8 b9 : Option V), Lw ad A H' al pl rd x0 x1 v0 v1 mv0 mv1 g0 g1 ∧ σ' = [some (.ref a), some (.ref q1), some (.ref q2), some (.ref q3), some (.ref q4), some (.str al), some (.ref pl), some (.ref rd), b8, b9, none, none, none, none, none, none, none, none], ?_, ?_⟩
    · have rdp : rd ≠ pl := fun e => by rw [e, e8] at hrd; cases hrd
      have rdA : rd ∉ A := W8.fresh hrd
      have plA : pl ∉ A := two_noA W8.src e8
      have gn := Go.new (A := A) (o := .lst []) hrd
      have more : ∀ {v : V} {d : D}, Rp A H8 v d → Rp (rd :: A) H8 v d := fun r => r.more fun b hb => (List.mem_cons.mp hb).elim (fun e => .inr (by rw [e]; exact hrd)) .inl
      have p0 := (more p0).keep (Keep.same (Same.new (o := .lst []) hrd))
      have p1 := (more p1).keep (Keep.same (Same.new (o := .lst []) hrd))
      have e9 := gn.keep _ _ plA e8
      have src9 := gn.src W8.src
      have r9 : upd H8 rd (.lst []) rd = some (.lst []) := upd_same
      generalize upd H8 rd (.lst []) = H9 at p0 p1 e9 src9 r9 ⊢
      have plT : pl ∉ rd :: A := fun q => (List.mem_cons.mp q).elim (fun e => rdp e.symm) plA
      refine ⟨_, rfl, _, rfl, ⟨_, SqL.of e9⟩, ?_⟩
      refine for_it (walk_list (xs := [v0, v1])) (fun i σ H' => Iv (Keep (rd :: A) H9 H' ∧ (∀ a ∈ A, Src H' a) ∧ Rds ad A H' al rd (fun j => if j = 0 then mv0 else mv1) (fun j => if j = 0 then g0 else g1) i ∧
        ∃ b8 b9, σ = [some (.ref a), some (.ref q1), some (.ref q2), some (.ref q3), some (.ref q4), some (.str al), some (.ref pl), some (.ref rd), b8, b9, none, none, none, none, none, none, none, none])) (.of ⟨Keep.refl _ _, src9, ⟨[], r9, rfl, fun j y e => by simp at e⟩, _, _, rfl⟩) (fun _ _ _ _ hp => ?_) (fun i y σ H1 H2 hi hp hy => ?_) (fun σ H1 hp => ?_)
      · obtain ⟨k1, _⟩ := hp.get
        exact SqL.of (k1 _ _ plT e9)
      · obtain ⟨k1, src1, ⟨rs, hrs, hl, old⟩, b8, b9, rfl⟩ := hp.get
        obtain ⟨rfl, hy⟩ := hy
        have hi : i < 2 := hi
        obtain ⟨ry, Mi⟩ : Rp (rd :: A) H2 y (.tup [mvD (if i = 0 then mv0 else mv1), rowD (if i = 0 then g0 else g1)]) ∧ Mach al.length (if i = 0 then mv0 else mv1) (if i = 0 then g0 else g1) := by
          by_cases h0 : i = 0
          · subst h0
            cases hy
            exact ⟨p0.keep k1, M0⟩
          · have h1 : i = 1 := by omega
            subst h1
            cases hy
            exact ⟨p1.keep k1, M1⟩
        have Wr : Wd A (rd :: A) H2 := (Wd.of src1).add hrs
        refine ⟨_, rfl, _, rfl, A, rd :: A, q3, y, al.length, _, _, rfl, m3, Wr, ry, Mi, by omega, fun U p x0 x1 dm dg H3 g3 hU hp3 hpas rx0 rx1 mvo gdo => ?_⟩
        have rdU : rd ∉ U := fun q => by rw [hU _ q] at hrs; cases hrs
        have rd3 := g3.keep _ _ rdA hrs
        have rdp : rd ≠ p := fun e => by rw [e, hp3] at hrs; cases hrs
        refine ⟨_, rfl, .inl ⟨rfl, _, SqL.of rd3⟩, _, rfl, _, rfl, p, _, _, x0, rfl, rfl, SqL.of hpas.at_, rfl, _, rfl, p, _, _, x1, rfl, rfl, SqL.of hpas.at_, rfl, fun x dx hx hdx hne => ?_⟩
        refine init_good (U := rd :: A ++ U) (.str (S := rd :: A) al) rx0 rx1 rfl AO.2.2.2 (by omega) mvo gdo Mi (fun c hc => ?_) hx hdx hne (fun H4 s4 r4 => ⟨rfl, ?_⟩)
        · simp only [List.cons_append, List.mem_cons, List.mem_append] at hc
          rcases hc with rfl | hc | hc
          · exact ⟨_, rd3⟩
          · obtain ⟨_, _, _, q⟩ := g3.src src1 c hc
            exact ⟨_, q⟩
          · obtain ⟨zs, q, _⟩ := hpas.small c hc
            exact ⟨_, q⟩
        · refine ⟨rd, rs, .ref x, rfl, rfl, s4 _ _ rd3, Nat.lt_of_le_of_lt (show rs.length ≤ 2 by omega) (by decide), ?_⟩
          refine ⟨_, rfl, U, p, x0, x1, _, rfl, (hpas.same s4).updL rdU rdp (s4 _ _ rd3), fun r H6 k6 => .of ?_⟩
          obtain ⟨z1, z2, z3⟩ := Rds.step src1 hrs hl old hU (fun c hc => by obtain ⟨zs, q, _⟩ := hpas.small c hc; exact ⟨_, s4 _ _ q⟩) rdA g3 s4 r4 k6
          exact ⟨k1.trans z2, z3, z1, _, _, rfl⟩
      · obtain ⟨k1, src1, ⟨rs, hrs, hl, old⟩, b8, b9, rfl⟩ := hp.get
        have hl : rs.length = 2 := hl
        obtain ⟨y0, y1, rfl⟩ : ∃ y0 y1, rs = [y0, y1] := match rs, hl with | [y0, y1], _ => ⟨y0, y1, rfl⟩
        obtain ⟨x0, rfl, d0⟩ := old 0 y0 rfl
        obtain ⟨x1, rfl, d1⟩ := old 1 y1 rfl
        have less : ∀ {v : V} {d : D}, Rp (rd :: A) H1 v d → Rp A H1 v d := fun r => r.less fun _ q => List.mem_cons_of_mem _ q
        exact ⟨x0, x1, b8, b9, ⟨src1, k1 _ _ plT e9, hrs, less (p0.keep k1), less (p1.keep k1), d0, d1⟩, rfl⟩
    · rintro σ H9 ⟨x0, x1, b8, b9, L, rfl⟩
      clear p0 p1 M0 M1 W8 e8 hrd
      refine ⟨_, rfl, _, rfl, A, q3, al, 8, rfl, m3, L.src, hal, by decide, by decide, fun cs1 H10 o1 l1 g10 => ?_⟩
      have L := L.go g10
      refine ⟨_, rfl, _, rfl, A, q3, al, 8, rfl, m3, L.src, hal, by decide, by decide, fun cs2 H11 o2 l2 g11 => ?_⟩
      have L := L.go g11
      refine ⟨_, rfl, _, rfl, A, q3, al, 40, rfl, m3, L.src, hal, by decide, by decide, fun cs3 H12 o3 l3 g12 => ⟨by show 4 ≤ sizeLine; exact szl rfl, fun tx htx => ?_⟩⟩
      have L := L.go g12
      clear g10 g11 g12
      obtain ⟨ts, rt, hts⟩ : ∃ ts : List Str, Rp A (upd H12 tx (.lst [.str (Str.ofString ""), .str (SX.S cs1), .str (SX.S cs2), .str (SX.S cs3)])) (.ref tx) (.lst (ts.map D.str)) ∧ ∀ t ∈ ts, Over al t ∧ t.length ≤ 40 := by
        refine ⟨[Str.ofString "", SX.S cs1, SX.S cs2, SX.S cs3], .lst ((Wd.of L.src).fresh htx) upd_same (Rps.txts [Str.ofString "", SX.S cs1, SX.S cs2, SX.S cs3]), fun t ht => ?_⟩
        simp only [List.mem_cons, List.not_mem_nil, or_false] at ht
        rcases ht with rfl | rfl | rfl | rfl
        · exact ⟨fun c hc => (by cases hc), Nat.zero_le _⟩
        · exact ⟨fun c hc => o1 c hc, by rw [SX.S_len]; omega⟩
        · exact ⟨fun c hc => o2 c hc, by rw [SX.S_len]; omega⟩
        · exact ⟨fun c hc => o3 c hc, by rw [SX.S_len]; omega⟩
      have L := L.same (Same.new (o := .lst [.str (Str.ofString ""), .str (SX.S cs1), .str (SX.S cs2), .str (SX.S cs3)]) htx)
      generalize upd H12 tx (.lst [.str (Str.ofString ""), .str (SX.S cs1), .str (SX.S cs2), .str (SX.S cs3)]) = H13 at L rt ⊢
      clear o1 o2 o3 l1 l2 l3 htx
      have hal1 : al.length ≤ 1000 := by omega
      refine ⟨by show 3 ≤ sizeLine; exact szl rfl, fun p hp => ⟨p, _, rfl, .inr (.inl (.inl upd_same)), fun J G wJ hG => ?_⟩⟩
      have L := L.same (Same.new (o := .tup [.int 0, .int 1, .int 0]) hp)
      have rt := rt.same (Same.new (o := .tup [.int 0, .int 1, .int 0]) hp)
      generalize upd H13 p (.tup [.int 0, .int 1, .int 0]) = H14 at L rt hG ⊢
      clear hp
      refine for_it wJ (fun i σ H' => Iv (Same H14 H' ∧ ∃ b11, σ = [some (.ref a), some (.ref q1), some (.ref q2), some (.ref q3), some (.ref q4), some (.str al), some (.ref pl), some (.ref rd), b8, b9, some (.ref tx), b11, none, none, none, none, none, none])) (.of ⟨Same.refl _, _, rfl⟩) (fun _ _ _ _ hp => ?_) (fun i y σ H15 H16 hi hp hy => ?_) (fun σ H15 hp => ?_)
      · exact hG _ hp.get.1
      · obtain ⟨s15, b11, rfl⟩ := hp.get
        obtain ⟨rfl, hy⟩ := hy
        obtain ⟨kk, rfl, hkk⟩ : ∃ kk : Int, y = .int kk ∧ (kk = 0 ∨ kk = 1) := by
          have hi : i < 3 := hi
          match i, hi, hy with
          | 0, _, hy => cases hy; exact ⟨0, rfl, .inl rfl⟩
          | 1, _, hy => cases hy; exact ⟨1, rfl, .inr rfl⟩
          | 2, _, hy => cases hy; exact ⟨0, rfl, .inl rfl⟩
        have L := L.same s15
        obtain ⟨v, x, m, g, hv, hx, rv, dx, M⟩ := L.at hkk
        refine ⟨_, rfl, _, rfl, _, rfl, pl, _, _, v, rfl, rfl, SqL.of L.pls, hv, _, rfl, _, rfl, rd, _, _, .ref x, rfl, rfl, SqL.of L.rds, hx, _, rfl, A, A, al, v, .ref tx, x, m, g, ts, rfl, hal1, rv, dx, rt.same s15, hts, fun H17 s17 => ⟨_, rfl, iteF ?_⟩⟩
        exact .of ⟨s15.trans s17, _, rfl⟩
      · obtain ⟨s15, b11, rfl⟩ := hp.get
        have L := L.same s15
        have rt := rt.same s15
        clear s15
        refine ⟨fun σ' H' => Lw ad A H' al pl rd x0 x1 v0 v1 mv0 mv1 g0 g1 ∧ Rp A H' (.ref tx) (.lst (ts.map D.str)) ∧ σ' = [some (.ref a), some (.ref q1), some (.ref q2), some (.ref q3), some (.ref q4), some (.str al), some (.ref pl), some (.ref rd), b8, b9, some (.ref tx), b11, some (.bl (decide (mv0 = mv1 ∧ g0 = g1))), none, none, none, none, none], ?_, ?_⟩
        · obtain ⟨t0, ws0, rfl, tA0, ht0, hw0⟩ := L.p0.tupItem
          obtain ⟨t1, ws1, rfl, tA1, ht1, hw1⟩ := L.p1.tupItem
          cases hw0 with
          | cons h01 hw0 =>
          cases hw0 with
          | cons h02 hw0 =>
          cases hw0
          cases hw1 with
          | cons h11 hw1 =>
          cases hw1 with
          | cons h12 hw1 =>
          cases hw1
          cases h01 with
          | lst n01 e01 r01 =>
          cases h11 with
          | lst n11 e11 r11 =>
          have W := Wd.of L.src
          refine ⟨_, rfl, pl, _, _, _, rfl, rfl, SqL.of L.pls, rfl, t0, _, _, _, rfl, rfl, .inr (.inl (.inl ht0)), rfl, ?_⟩
          have xl0 := r01.len
          have xl1 := r11.len
          have ml0 := L.d0.mach.most
          have ml1 := L.d1.mach.most
          rw [List.length_map] at xl0 xl1
          refine ⟨_, rfl, ⟨_, SqL.of e01⟩, fun L1 hL1 => lc_FS (Xp := fun i x => ∃ r b, mv0[i]? = some r ∧ x = .ref b ∧ b ∉ A ∧ H15 b = some (.lst (r.map V.int))) A (fun i => rowD (mv0.getD i [])) walk_list (fun i H2 x H3 _ y => ⟨y.1, rowD_item r01 y.2⟩) W.ex hL1 (by omega) (fun H2 s2 => SqL.of (s2 _ _ e01)) (fun _ => rfl) (fun i x H2 hi hx s2 hex Kt ht2 => ?_) (fun ys H2 s2 hL2 hr2 => ?_)⟩
          · obtain ⟨r, b0, hr0, rfl, _, hb0⟩ := hx
            refine ⟨_, rfl, b0, _, rfl, .inl (SqL.of (s2 _ _ hb0)), fun l hl => ht2 _ _ (Same.new hl) ?_⟩
            rw [List.getD_eq_getElem?_getD, hr0]
            refine .lst (fun hm => ?_) upd_same (Rps.ints r)
            obtain ⟨o, e⟩ := hex l hm
            rw [hl] at e
            cases e
          · rw [xl0, mvD_range] at hr2
            have ra : Rp A H2 (.ref L1) (mvD mv0) := .lst (W.fresh hL1) hL2 hr2
            have W2 := W.go (Go.same s2)
            refine ⟨_, rfl, pl, _, _, _, rfl, rfl, SqL.of (s2 _ _ L.pls), rfl, t1, _, _, _, rfl, rfl, .inr (.inl (.inl (s2 _ _ ht1))), rfl, ?_⟩
            have e112 := s2 _ _ e11
            have r112 := r11.keep (Keep.same s2)
            refine ⟨_, rfl, ⟨_, SqL.of e112⟩, fun L2 hL2 => lc_FS (Xp := fun i x => ∃ r b, mv1[i]? = some r ∧ x = .ref b ∧ b ∉ A ∧ H2 b = some (.lst (r.map V.int))) A (fun i => rowD (mv1.getD i [])) walk_list (fun i H2 x H3 _ y => ⟨y.1, rowD_item r112 y.2⟩) W2.ex hL2 (by omega) (fun H3 s3 => SqL.of (s3 _ _ e112)) (fun _ => rfl) (fun i x H3 hi hx s3 hex Kt ht2 => ?_) (fun ys H3 s3 hL3 hr3 => ?_)⟩
            · obtain ⟨r, b0, hr0, rfl, _, hb0⟩ := hx
              refine ⟨_, rfl, b0, _, rfl, .inl (SqL.of (s3 _ _ hb0)), fun l hl => ht2 _ _ (Same.new hl) ?_⟩
              rw [List.getD_eq_getElem?_getD, hr0]
              refine .lst (fun hm => ?_) upd_same (Rps.ints r)
              obtain ⟨o, e⟩ := hex l hm
              rw [hl] at e
              cases e
            · rw [xl1, mvD_range] at hr3
              have rb : Rp A H3 (.ref L2) (mvD mv1) := .lst (W2.fresh hL2) hL3 hr3
              have s03 := s2.trans s3
              refine eq_low (ra.same s3) rb (low_mvD _) (low_mvD _) (by decide) (by decide) (mv0 = mv1) ⟨mvD_inj, fun e => by rw [e]⟩ ⟨_, rfl, ?_⟩
              have fin : ∀ bb : Bool, bb = decide (mv0 = mv1 ∧ g0 = g1) → ∀ H' : Hp, Same H15 H' → Lw ad A H' al pl rd x0 x1 (.ref t0) (.ref t1) mv0 mv1 g0 g1 ∧ Rp A H' (.ref tx) (.lst (ts.map D.str)) ∧ [some (.ref a), some (.ref q1), some (.ref q2), some (.ref q3), some (.ref q4), some (.str al), some (.ref pl), some (.ref rd), b8, b9, some (.ref tx), b11, some (.bl bb), none, none, none, none, none] =
                  [some (.ref a), some (.ref q1), some (.ref q2), some (.ref q3), some (.ref q4), some (.str al), some (.ref pl), some (.ref rd), b8, b9, some (.ref tx), b11, some (.bl (decide (mv0 = mv1 ∧ g0 = g1))), none, none, none, none, none] := fun bb e H' s => ⟨L.same s, rt.same s, by rw [e]⟩
              by_cases hmv : mv0 = mv1
              · rw [decide_eq_true hmv]
                refine iteT ?_
                have L3 := L.same s03
                refine ⟨_, rfl, pl, _, _, _, rfl, rfl, SqL.of L3.pls, rfl, t0, _, _, _, rfl, rfl, .inr (.inl (.inl (s03 _ _ ht0))), rfl, ?_⟩
                refine ⟨_, rfl, pl, _, _, _, rfl, rfl, SqL.of L3.pls, rfl, t1, _, _, _, rfl, rfl, .inr (.inl (.inl (s03 _ _ ht1))), rfl, ?_⟩
                refine eq_low (h02.same s03) (h12.same s03) (low_rowD _) (low_rowD _) (by decide) (by decide) (g0 = g1) ⟨rowD_inj, fun e => by rw [e]⟩ (fin _ ?_ _ s03)
                simp [hmv]
              · rw [decide_eq_false hmv]
                refine iteF (fin _ ?_ _ s03)
                simp [hmv]
        · rintro σ H16 ⟨L, rt, rfl⟩
          have L0 := L
          refine ⟨_, rfl, rd, _, _, _, rfl, rfl, SqL.of L.rds, rfl, _, rfl, rd, _, _, _, rfl, rfl, SqL.of L.rds, rfl, ?_⟩
          have hc : (!decide (V.bl (if false = true then !decide (al = al ∧ mv0 = mv1 ∧ g0 = g1) else decide (al = al ∧ mv0 = mv1 ∧ g0 = g1)) = V.bl (decide (mv0 = mv1 ∧ g0 = g1)))) = false := by simp
          refine eqR R RI RQ L.d0 L.d1 ⟨_, rfl, rfl, false, congrArg V.bl hc, iteF ?_⟩
          refine ⟨_, rfl, _, rfl, pl, _, _, _, rfl, rfl, SqL.of L.pls, rfl, _, rfl, rd, _, _, _, rfl, rfl, SqL.of L.rds, rfl, _, rfl, A, A, al, v1, x1, q3, mv1, g1, rfl, m3, Wd.of L.src, hal, L.p1, L.d1, fun H17 g17 => ⟨_, rfl, iteF ?_⟩⟩
          have L := L.go g17
          have rt := rt.go (Wd.of L0.src) g17
          refine ⟨_, rfl, al, rfl, AO.2.2.2, hal1, fun H18 s18 => ⟨_, rfl, iteF ?_⟩⟩
          have L := L.same s18
          have rt := rt.same s18
          clear g17 s18 L0
          refine ⟨3, rfl, by decide, by decide, ?_⟩
          refine for_it (walk_range (lo := 0)) (fun i σ H' => Iv (Go A H18 H' ∧ ∃ b11 b13 b14 b15 b16, σ = [some (.ref a), some (.ref q1), some (.ref q2), some (.ref q3), some (.ref q4), some (.str al), some (.ref pl), some (.ref rd), b8, b9, some (.ref tx), b11, some (.bl (decide (mv0 = mv1 ∧ g0 = g1))), b13, b14, b15, b16, none])) (.of ⟨Go.refl _ _, _, _, _, _, _, rfl⟩) (fun _ _ _ _ _ => trivial) (fun i0 y σ H19 H20 hi hp hy => ?_) (fun σ H19 hp => ?_)
          · obtain ⟨g19, b11, b13, b14, b15, b16, rfl⟩ := hp.get
            obtain ⟨rfl, rfl⟩ := hy
            have hi : i0 < 3 := hi
            have L := L.go g19
            have hmod : (0 + (i0 : Int)) % 2 = 0 ∨ (0 + (i0 : Int)) % 2 = 1 := by omega
            obtain ⟨v, x, m, g, hv, hx, rv, dx, M⟩ := L.at hmod
            refine ⟨_, rfl, _, rfl, _, rfl, _, rfl, .inl ⟨_, rfl, _, _, rfl, rfl, (by show (0 : Int) < 2; decide), pl, _, _, v, rfl, rfl, SqL.of L.pls, hv, A, A, q4, al, v, m, g, rfl, m4, Wd.of L.src, hal, rv, M, fun H21 g21 => ⟨_, rfl, iteF ?_⟩⟩⟩
            have L := L.go g21
            refine ⟨_, rfl, _, rfl, A, A, q4, al, rfl, m4, Wd.of L.src, hal, fun p tv ti td H22 g22 hp22 qp rtd no lo hi2 => ?_⟩
            have L := L.go g22
            refine ⟨p, _, rfl, SqL.of qp, rfl, _, _, rfl, _, _, rfl, rfl, ?_⟩
            have sm := small_item (i := ti) ⟨lo, hi2⟩
            rw [shown_int] at sm
            have e5 : (Str.ofString "item ").length = 5 := by decide +kernel
            refine ⟨_, rfl, ti, rfl, small_log ⟨lo, hi2⟩, _, _, rfl, rfl, ?_, by show 3 ≤ sizeLine; exact szl rfl, fun du hdu => ?_⟩
            · have := sm.1
              exact Nat.le_trans (show _ ≤ 1000 + 5 by omega) (by decide)
            have sd := Same.new (o := .lst [.str (Str.ofString "value"), .str (Str.ofString "item " ++ Str.ofString (toString ti)), .str (Str.ofString "text")]) hdu
            have qd : upd H22 du (.lst [.str (Str.ofString "value"), .str (Str.ofString "item " ++ Str.ofString (toString ti)), .str (Str.ofString "text")]) du = some (.lst ((Er.words .text (.int ti)).map V.str)) := by
              rw [show Er.words .text (.int ti) = [Str.ofString "value", Str.ofString "item " ++ Str.ofString (toString ti), Str.ofString "text"] by unfold Er.words; rw [shown_int]; rfl]
              exact upd_same
            have lw : Low 1 (txtsD (Er.words .text (.int ti))) := low_txts fun x hx => by
              simp only [Er.words, List.mem_cons, List.not_mem_nil, or_false] at hx
              rcases hx with rfl | rfl | rfl
              · decide +kernel
              · rw [shown_int]; exact sm.2
              · decide +kernel
            have L := L.same sd
            have rtd := rtd.same sd
            have gd := (g19.trans g21).trans (g22.trans (Go.same sd))
            generalize upd H22 du (.lst [.str (Str.ofString "value"), .str (Str.ofString "item " ++ Str.ofString (toString ti)), .str (Str.ofString "text")]) = H23 at sd qd L rtd gd ⊢
            refine ⟨_, rfl, _, rfl, ⟨_, SqL.of L.rds⟩, ?_⟩
            refine for_it (walk_list (xs := [V.ref x0, V.ref x1])) (fun i σ H' => Iv (Same H23 H' ∧ ∃ b16, σ = [some (.ref a), some (.ref q1), some (.ref q2), some (.ref q3), some (.ref q4), some (.str al), some (.ref pl), some (.ref rd), b8, b9, some (.ref tx), some (.int (0 + (i0 : Int))), some (.bl (decide (mv0 = mv1 ∧ g0 = g1))), some tv, some (.int ti), some (.ref du), b16, none])) (.of ⟨Same.refl _, _, rfl⟩) (fun _ _ _ _ hp => ?_) (fun i y σ H24 H25 hi hp hy => ?_) (fun σ H24 hp => ?_)
            · exact SqL.of (hp.get.1 _ _ L.rds)
            · obtain ⟨s24, b16, rfl⟩ := hp.get
              obtain ⟨rfl, hy⟩ := hy
              have L := L.same s24
              obtain ⟨x, m, g, rfl, dx⟩ : ∃ x m g, y = .ref x ∧ RdAt ad A H25 x al m g := by
                have hi : i < 2 := hi
                match i, hi, hy with
                | 0, _, hy => cases hy; exact ⟨_, _, _, rfl, L.d0⟩
                | 1, _, hy => cases hy; exact ⟨_, _, _, rfl, L.d1⟩
              refine ⟨_, rfl, _, rfl, A, A, x, al, m, g, tv, td, ti, rfl, dx, hal1, rtd.same s24, no.2, no.1, fun p1 H26 hp1 s26 e26 => ?_⟩
              refine ⟨_, rfl, ne_lowT (S := []) (T := []) (.lst (by simp) e26 (Rps.txts _)) (.lst (by simp) (s26 _ _ (s24 _ _ qd)) (Rps.txts _)) lw (by decide) ⟨_, rfl, iteF ?_⟩⟩
              refine ⟨_, rfl, _, rfl, A, A, x, al, m, g, tv, td, ti, rfl, dx.same s26, hal1, (rtd.same s24).same s26, no.2, no.1, fun p2 H27 hp2 s27 e27 => ?_⟩
              refine ⟨_, rfl, ne_lowT (S := []) (T := []) (.lst (by simp) e27 (Rps.txts _)) (.lst (by simp) (s27 _ _ (s26 _ _ (s24 _ _ qd))) (Rps.txts _)) lw (by decide) ⟨_, rfl, iteF ?_⟩⟩
              exact .of ⟨s24.trans (s26.trans s27), _, rfl⟩
            · obtain ⟨s24, b16', rfl⟩ := hp.get
              exact .of ⟨gd.trans (Go.same s24), _, _, _, _, _, rfl⟩
          · obtain ⟨g19, b11, b13, b14, b15, b16, rfl⟩ := hp.get
            have rt := rt.go (Wd.of L.src) g19
            have L := L.go g19
            refine ⟨_, rfl, _, rfl, pl, _, _, _, rfl, rfl, SqL.of L.pls, rfl, _, rfl, rd, _, _, _, rfl, rfl, SqL.of L.rds, rfl, _, rfl, A, A, al, v0, .ref tx, x0, mv0, g0, ts, rfl, hal1, L.p0, L.d0, rt, hts, fun H21 s21 => ⟨_, rfl, iteT ?_⟩⟩
            have L := L.same s21
            exact ⟨_, rfl, _, rfl, pl, _, _, _, rfl, rfl, SqL.of L.pls, rfl, _, rfl, rd, _, _, _, rfl, rfl, SqL.of L.rds, rfl, _, rfl, A, A, al, v1, .ref tx, x1, mv1, g1, ts, rfl, hal1, L.p1, L.d1, rt.same s21, hts, fun H22 s22 => k _⟩
end

/-! ## what the top leaves, told by one run -/
section
open PySem.W PySem.Calls PyProof.Rows He
/-- a def's datum, as the run's end shows it -/
abbrev FnC : Type := Option (Str × Str × Arguments × FuncBody × Scope × Addr × List Str × Value × Addr)
def fnC (K : Frag) (f : Addr) : FnC := match K.lookup f with
  | some ⟨_, _, .func fd, _⟩ => some (fd.name, fd.qualname, fd.params, fd.body, fd.scope, fd.globals, fd.closure.map (·.1), fd.defaults, fd.builtins)
  | _ => none
/-- a def: where it stands, its name, its qualified name, its statement, its closure's names -/
structure DfV where
  at_ : Frag → Addr
  name : Str
  qual : Str
  st : Stmt
  clo : List Str := []
def DfV.val (d : DfV) : FnC := some (d.name, d.qual, C8.fnArgs d.st, .stmts (C8.fnBody d.st), C8.fnScope d.st, mainGlobals, d.clo, .none, builtinsNs)
def DfV.ok (K : Frag) (d : DfV) : Bool := keepIn K (.ref (d.at_ K)) && (match K.lookup (d.at_ K) with
  | some ⟨_, _, .func fd, _⟩ => codeIn K fd.code d.qual
  | _ => false)
theorem DfV.look {K : Frag} {d : DfV} (e : fnC K (d.at_ K) = d.val) (c : d.ok K = true) : keepIn K (.ref (d.at_ K)) = true ∧
    ∃ (oc : Value) (od : Option Addr) (cl : List (Str × Addr)) (kV doc pm : Value) (an : Option Addr) (cdv ct : Value) (osl : Array (Option Value)), cl.map (·.1) = d.clo ∧
      K.lookup (d.at_ K) = some ⟨oc, od, .func (fnX d.name d.qual (C8.fnArgs d.st) (C8.fnBody d.st) (C8.fnScope d.st) cl .none kV doc pm an cdv ct), osl⟩ ∧ codeIn K cdv d.qual = true := by
  obtain ⟨kp, c2⟩ := ba c
  refine ⟨kp, ?_⟩
  unfold fnC at e
  cases q : K.lookup (d.at_ K) with
  | none =>
    rw [q] at c2
    cases c2
  | some o =>
    obtain ⟨oc, od, dt, osl⟩ := o
    rw [q] at c2 e
    cases dt with
    | func fd =>
      obtain ⟨n1, n2, n3, n4, n5, n6, n7, n8, n9, n10, n11, n12, n13, n14, n15⟩ := fd
      have e2 : (some (n1, n2, n3, n4, n5, n6, n7.map (·.1), n8, n15) : FnC) = some (d.name, d.qual, C8.fnArgs d.st, .stmts (C8.fnBody d.st), C8.fnScope d.st, mainGlobals, d.clo, .none, builtinsNs) := e
      simp only [Option.some.injEq, Prod.mk.injEq] at e2
      obtain ⟨h1, h2, h3, h4, h5, h6, h7, h8, h9⟩ := e2
      subst h1 h2 h3 h4 h5 h6 h8 h9
      exact ⟨oc, od, n7, n9, n10, n11, n12, n13, n14, osl, h7, rfl, c2⟩
    | _ => cases c2
theorem DfV.fn {K : Frag} {d : DfV} (e : fnC K (d.at_ K) = d.val) (c : d.ok K = true) (hc : d.clo = []) : ∃ fd : FuncData, C8.Fun K d.name d.qual d.st (d.at_ K) fd ∧ fd.defaults = .none ∧ keepIn K (.ref (d.at_ K)) = true := by
  obtain ⟨kp, oc, od, cl, kV, doc, pm, an, cdv, ct, osl, h, lk, cd⟩ := DfV.look e c
  rw [hc] at h
  cases cl with
  | nil => exact ⟨_, ⟨oc, od, .none, kV, doc, pm, an, cdv, ct, osl, rfl, lk, cd⟩, rfl, kp⟩
  | cons _ _ => cases h
/-! ### the Hook -/
def asV (g : Addr → Option Obj) : Nat → List Addr
  | 0 => [mainGlobals, cStatics]
  | n + 1 => growD g (asV g n)
abbrev AlV : Type := Bool × List FnC
def obsV (fn : List DfV) (ex : Frag → Bool) (K : Frag) : AlV := (ex K && fn.all fun d => d.ok K, fn.map fun d => fnC K (d.at_ K))
def valV (fn : List DfV) : AlV := (true, fn.map DfV.val)
def SaysV (fn : List DfV) (ex : Frag → Bool) (K : Frag) : Prop := obsV fn ex K = valV fn
def obsVG (n : Nat) (fn : List DfV) (ex : Frag → Bool) (g : Addr → Option Obj) : AlV := obsV fn ex (frG g (asV g n))
def hookV (n : Nat) (fn : List DfV) (ex : Frag → Bool) : Hook where
  α := AlV
  obs := fun s => obsVG n fn ex s.heap.get?
  val := fun _ => valV fn
  says := fun _ h => ∃ K : Frag, K.In h ∧ SaysV fn ex K
  of := fun _ _ e => ⟨_, frG_in, e⟩
  keeps := fun _ _ _ ⟨K, hK, c⟩ k => ⟨K, Frag.In.keeps hK k, c⟩
theorem obsVG_eq {n : Nat} {fn : List DfV} {ex : Frag → Bool} {g : Addr → Option Obj} {s : Shared} (h : ∀ a, g a = s.heap.get? a) : obsVG n fn ex g = (hookV n fn ex).obs s := by
  have e : g = s.heap.get? := funext h
  rw [e] <;> rfl
theorem SaysV.ex {fn : List DfV} {ex : Frag → Bool} {K : Frag} (c : SaysV fn ex K) : ex K = true :=
  (ba (show (ex K && fn.all fun d => d.ok K) = true from congrArg (fun z : AlV => z.1) c)).1
theorem SaysV.at {fn : List DfV} {ex : Frag → Bool} {K : Frag} (c : SaysV fn ex K) (i : Nat) {d : DfV} (h : fn[i]? = some d := by rfl) : fnC K (d.at_ K) = d.val ∧ d.ok K = true := by
  have c2 := (ba (show (ex K && fn.all fun d => d.ok K) = true from congrArg (fun z : AlV => z.1) c)).2
  have e : fn.map (fun d => fnC K (d.at_ K)) = fn.map DfV.val := congrArg (fun z : AlV => z.2) c
  have e2 : (fn.map fun d => fnC K (d.at_ K))[i]? = (fn.map DfV.val)[i]? := by rw [e]
  rw [List.getElem?_map, List.getElem?_map, h] at e2
  exact ⟨Option.some.inj e2, List.all_eq_true.mp c2 d (List.mem_of_getElem? h)⟩
theorem SaysV.fn {fn : List DfV} {ex : Frag → Bool} {K : Frag} (c : SaysV fn ex K) (i : Nat) {d : DfV} (h : fn[i]? = some d) (hc : d.clo = []) : ∃ fd : FuncData, C8.Fun K d.name d.qual d.st (d.at_ K) fd ∧ fd.defaults = .none ∧ keepIn K (.ref (d.at_ K)) = true :=
  DfV.fn (c.at i h).1 (c.at i h).2 hc
/-- a def of the module -/
theorem SaysV.df {fn : List DfV} {ex : Frag → Bool} {K : Frag} {h : Heap} {mg : Str → Option Value} (c : SaysV fn ex K) (X : K.In h) (G : h.Ns mainGlobals mg) (i : Nat) {x : Str} {st : Stmt} (hi : fn[i]? = some ⟨fun K => ga K x, x, x, st, []⟩) (hg : (Fa.glo x).ok K = true) :
    ∃ fd : FuncData, C8.Def K mg x st (ga K x) fd ∧ fd.defaults = .none := by
  obtain ⟨fd, F, df, kp⟩ := c.fn i hi rfl
  exact ⟨fd, ⟨F, glo_ok X G hg, kp⟩, df⟩
/-! ### facts of an own exception over ValueError -/
def clsB (K : Frag) (C : Addr) : Bool := match K.lookup C with
  | some ⟨.type "type", _, .cls cd, sl⟩ => (match cd.mro, sl.toList with
    | .ref C' :: bm, [_, _, _, _, some (.builtin n), _] => C' == C && n == "ValueError.__new__" && !cd.hasDel && PySem.HandSPX.refsVE bm && cd.hasDict
    | _, _ => false)
  | _ => false
theorem clsB_ok {K : Frag} {C : Addr} (q : clsB K C = true) : ∃ nm q N bs bm sn sub ab col dd k0 k1 k2 k3 k5, K.lookup C = some (excClassObj nm q C N bs bm true sn sub ab col dd k0 k1 k2 k3 k5 "ValueError.__new__") ∧ PySem.HandSPX.refsVE bm = true := by
  unfold clsB at q
  split at q
  · rename_i dd cd sl ho
    split at q
    · rename_i C' bm k0 k1 k2 k3 n k5 hm hs
      simp only [Bool.and_eq_true, beq_iff_eq, Bool.not_eq_true'] at q
      obtain ⟨⟨⟨⟨rfl, rfl⟩, hdel⟩, ht⟩, hd⟩ := q
      obtain ⟨nm, bs, mro, ns, qn, hd', sn, sub, ab, col, del⟩ := cd
      dsimp only at hm hdel hd
      subst hm hdel hd
      have hsl : sl = #[k0, k1, k2, k3, some (.builtin "ValueError.__new__"), k5] := by
        obtain ⟨l⟩ := sl
        simp only at hs
        rw [hs]
      subst hsl
      exact ⟨nm, qn, ns, bs, bm, sn, sub, ab, col, dd, k0, k1, k2, k3, k5, ho, ht⟩
    · cases q
  · cases q
/-- the code's file, the cell __class__ -/
def cellB (K : Frag) (f D : Addr) (file : Str) : Bool := match K.lookup f with
  | some ⟨_, _, .func fd, _⟩ => (match fd.code, fd.closure with
    | .ref cda, [(_, cc)] => (match K.lookup cda, K.lookup cc with
      | some ⟨_, _, .fields vs, _⟩, some ⟨_, _, .cell (some (.ref D')), _⟩ => D' == D && (match (vs[2]? : Option Value) with
        | some (Value.str fl _) => file == fl
        | _ => false)
      | _, _ => false)
    | _, _ => false)
  | _ => false
def supB (K : Frag) (C D : Addr) (nm : Str) (file : Str) : Bool :=
  clsB K C && (eqO (findIn K (.ref C) "__setattr__") (some (some (.builtin "object.__setattr__"))) && (eqO (findIn K (.ref C) nm) (some none) && (eqO (findIn K (.ref C) "__init__") (some (some (.ref (ma K D "__init__")))) &&
  (decide (typeIn K (.ref (ma K D "__init__")) = some (.type "function")) && (keepIn K (.ref C) && (decide (subIn K (.ref C) (.type "BaseException") = some true) && (decide (typeIn K (.ref C) = some (.type "type")) && (decide (mroIn K C (.ref D) = some true) &&
  (eqO (ks_superIn K C D "__init__") (some (some (.builtin "ValueError.__init__"))) && (decide (subIn K (.ref C) (.type "ValueError") = some true) && (eqO (nsIn K cStatics "thirdparty.any") (some none) && ((clsIn K D).isSome && cellB K (ma K D "__init__") D file))))))))))))
theorem cellB_ok {K : Frag} {f D : Addr} {file : Str} (h : cellB K f D file = true) {oc : Value} {od : Option Addr} {nm ql : Str} {ar : Arguments} {bd : List Stmt} {sc : Scope} {cl : List (Str × Addr)} {kV doc pm : Value} {an : Option Addr} {cdv ct : Value} {osl : Array (Option Value)}
    (lk : K.lookup f = some ⟨oc, od, .func (fnX nm ql ar bd sc cl .none kV doc pm an cdv ct), osl⟩) (hc : cl.map (·.1) = [("__class__" : Str)]) : ∃ (cda cc : Addr) (vs : Array Value) (fl : Str) (tf : Tok) (ccl ccv : Value) (cdd cld : Option Addr) (ccs csl : Array (Option Value)),
      cdv = .ref cda ∧ cl = [(("__class__" : Str), cc)] ∧ K.lookup cda = some ⟨ccl, cdd, .fields vs, ccs⟩ ∧ vs[2]? = some (.str fl tf) ∧ (file == fl) = true ∧ K.lookup cc = some ⟨ccv, cld, .cell (some (.ref D)), csl⟩ := by
  unfold cellB at h
  rw [lk] at h
  dsimp only at h
  split at h
  · rename_i cda nn cc
    split at h
    · rename_i ccl cdd vs ccs ccv cld D' csl h1 h2
      obtain ⟨q1, q2⟩ := ba h
      split at q2
      · rename_i fl tf h3
        cases hc
        rw [beq_iff_eq.mp q1] at h2
        exact ⟨cda, cc, vs, fl, tf, ccl, ccv, cdd, cld, ccs, csl, rfl, rfl, h1, h3, q2, h2⟩
      · cases q2
    · cases h
  · cases h
end

/-! ## the facts of own exceptions, as a Bool -/
namespace SupX
open PySem.W PySem.Calls PyProof.Rows PySem.HandSPX
section
variable {P : Program} {w : World}
theorem argOk_str {nm x : Str} {k : Nat} {pos : Pos} : ArgOk P w nm (.Constant (.str x) k pos) (fun _ => True) :=
  ⟨fun _ => rfl, fun _ _ _ _ _ _ _ _ _ _ _ _ h => Constant_str (h _ _)⟩
/-- f'..{nm}' of an int -/
theorem argOk_fstr {nm x : Str} {k : Nat} {p1 p2 p3 p4 : Pos} (hd : (nm == ("__debug__" : Str)) = false) (hx : x.length ≤ 1000) : ArgOk P w nm (.JoinedStr [.Constant (.str x) k p1, .FormattedValue (.Name nm p2) (-1) none p3] p4) (fun v => ∃ (i : Int) (t : Tok), v = .int i t ∧ i.natAbs.log2 < 1920) := by
  refine ⟨fun _ => rfl, fun A E s env m v Q hk hn G hm hv h => ?_⟩
  obtain ⟨i, t, rfl, hi⟩ := hv
  refine wpAny_JoinedStr ?_
  have e0 : evalEach [Expr.Constant (.str x) k p1, .FormattedValue (.Name nm p2) (-1) none p3] env = [eval (.Constant (.str x) k p1) env, eval (.FormattedValue (.Name nm p2) (-1) none p3) env] := by first | rfl | simp [evalEach]
  rw [e0]
  have hz : (Str.empty ++ x).length ≤ sizeLine := by
    have e : (Str.empty ++ x).length = x.length := by
      rw [strLen_append]
      exact Nat.zero_add _
    rw [e]
    exact Nat.le_trans hx (by decide)
  have hz2 : (Str.empty ++ x ++ toString i).length ≤ sizeLine := by
    have e : (Str.empty ++ x).length = x.length := by
      rw [strLen_append]
      exact Nat.zero_add _
    have e2 := int_text_length_le (k := 1920) (by decide) hi
    have e3 : (Str.empty ++ x ++ (Str.ofString (toString i))).length = x.length + (toString i).length := by
      rw [strLen_append, e, PySem.ofString_length]
    show (Str.empty ++ x ++ (Str.ofString (toString i))).length ≤ sizeLine
    rw [e3, sizeLine_eq]
    omega
  refine Constant_str ⟨x, _, rfl, hz, ?_⟩
  refine wpAny_FormattedValue_plain ?_
  refine wpAny_Name (wpAny_loadName_local hk hn G hm ?_) hd
  refine wpAny_formatField_int hi ⟨toString i, _, rfl, hz2, ?_⟩
  exact ⟨hz2, h _ _⟩
end
end SupX

/-! ### the facts, as a Bool -/
section
open PySem.W He
def excCB (K : Frag) (D : Addr) : Bool :=
  eqO (findIn K (.ref D) "__getattribute__") (some (some (.builtin "BaseException.__getattribute__"))) && (eqO (findIn K (.ref D) "__getattr__") (some none) && (decide (subIn K (.ref D) (.type "BaseException") = some true) && (hasDictIn K D &&
  (eqO (findIn K (.ref D) "__class__") (some (some (.builtin "object.__class__"))) && (eqO (specialIn K (.builtin "object.__class__") "__get__") (some (some (.builtin "getset_descriptor.__get__"))) && (decide (takesIn K (.builtin "object.__class__") = some true) && decide (mroIn K D (.type "object") = some true)))))))
theorem excCB_ok {K : Frag} {D : Addr} (h : excCB K D = true) : ExcC K D ∧ XfC K D := by
  obtain ⟨h1, h⟩ := ba h
  obtain ⟨h2, h⟩ := ba h
  obtain ⟨h3, h⟩ := ba h
  obtain ⟨h4, h⟩ := ba h
  obtain ⟨h5, h⟩ := ba h
  obtain ⟨h6, h⟩ := ba h
  obtain ⟨h7, h8⟩ := ba h
  exact ⟨⟨eqO_ok h1, eqO_ok h2, of_decide_eq_true h3, h4, eqO_ok h5, eqO_ok h6, of_decide_eq_true h7, of_decide_eq_true h8⟩, ⟨eqO_ok h1, eqO_ok h2, of_decide_eq_true h3, h4⟩⟩
def errB (K : Frag) (ad : Ad) (e : Er) : Bool :=
  excCB K (e.cls ad) && (eqO (findIn K (.ref (e.cls ad)) e.fld) (some none) && (decide (kitOne K (.ref (e.cls ad)) (.type "ValueError") = some true) && (decide (kitOne K (.ref (e.cls ad)) (.ref ad.WrongThing) = some e.thing) && (decide (kitOne K (.ref (e.cls ad)) (.ref ad.WrongItem) = some (!e.thing)) &&
  (([Er.alphabet, .text, .moves, .good].all fun e2 => decide (kitOne K (.ref (e.cls ad)) (.ref (e2.cls ad)) = some (e.is e2))) &&
  (decide (kitAny K (.ref (e.cls ad)) [.ref ad.BadLetter, .ref ad.BadLots, .ref ad.BadNumber, .ref ad.BadTexts, .ref ad.NoName, .ref ad.TooMany, .ref ad.Unlike] = some false) && decide (exmOne K (.ref (e.cls ad)) (.ref ad.LotsError) = some true)))))))
theorem errB_ok {K : Frag} {ad : Ad} {e : Er} (h : errB K ad e = true) : ErC K ad e := by
  obtain ⟨h1, h⟩ := ba h
  obtain ⟨h2, h⟩ := ba h
  obtain ⟨h3, h⟩ := ba h
  obtain ⟨h4, h⟩ := ba h
  obtain ⟨h5, h⟩ := ba h
  obtain ⟨h6, h⟩ := ba h
  obtain ⟨h7, h8⟩ := ba h
  exact ⟨(excCB_ok h1).1, (excCB_ok h1).2, eqO_ok h2, of_decide_eq_true h3, of_decide_eq_true h4, of_decide_eq_true h5, fun e2 => of_decide_eq_true (List.all_eq_true.mp h6 e2 (by cases e2 <;> simp)), of_decide_eq_true h7, of_decide_eq_true h8⟩
/-- Reader, as the walks ask of it -/
def rdB (K : Frag) (C : Addr) : Bool :=
  plainGet K C Str.empty && (hasDictIn K C && (plainOver K C && (eqO (findIn K (.ref C) "__setattr__") (some (some (.builtin "object.__setattr__"))) && (eqO (findIn K (.ref C) "alphabet") (some none) && (eqO (findIn K (.ref C) "moves") (some none) && (eqO (findIn K (.ref C) "good") (some none) &&
  (eqO (findIn K (.ref C) "__class__") (some (some (.builtin "object.__class__"))) && (eqO (specialIn K (.builtin "object.__class__") "__get__") (some (some (.builtin "getset_descriptor.__get__"))) && (decide (takesIn K (.builtin "object.__class__") = some true) && (decide (mroIn K C (.type "object") = some true) && (decide (kitOne K (.ref C) (.ref C) = some true) &&
  (notFirst K C (.ref C) && (notFirst K C (.type "tuple") && (notFirst K C (.type "str") && (decide (kitOne K (.type "tuple") (.ref C) = some false) && (decide (kitOne K (.type "str") (.ref C) = some false) &&
  (eqO (findIn K (.ref C) "__ne__") (some (some (.builtin "object.__ne__"))))))))))))))))))))
theorem rdB_ok {K : Frag} {C : Addr} (h : rdB K C = true) : RdC K C ∧ RdI K C ∧ RdQ K C ∧ NeC K C := by
  obtain ⟨h1, h⟩ := ba h
  obtain ⟨h2, h⟩ := ba h
  obtain ⟨h3, h⟩ := ba h
  obtain ⟨h4, h⟩ := ba h
  obtain ⟨h5, h⟩ := ba h
  obtain ⟨h6, h⟩ := ba h
  obtain ⟨h7, h⟩ := ba h
  obtain ⟨h8, h⟩ := ba h
  obtain ⟨h9, h⟩ := ba h
  obtain ⟨h10, h⟩ := ba h
  obtain ⟨h11, h⟩ := ba h
  obtain ⟨h12, h⟩ := ba h
  obtain ⟨h13, h⟩ := ba h
  obtain ⟨h14, h⟩ := ba h
  obtain ⟨h15, h⟩ := ba h
  obtain ⟨h16, h⟩ := ba h
  obtain ⟨h17, h18⟩ := ba h
  exact ⟨⟨⟨h1, h2, h3, eqO_ok h4⟩, eqO_ok h5, eqO_ok h6, eqO_ok h7⟩, ⟨eqO_ok h8, eqO_ok h9, of_decide_eq_true h10, of_decide_eq_true h11, of_decide_eq_true h12⟩, ⟨h13, h14, h15, of_decide_eq_true h16, of_decide_eq_true h17⟩, ⟨eqO_ok h18, of_decide_eq_true h11⟩⟩
/-- a staticmethod's record, its def -/
def stR (K : Frag) (C : Addr) (m : Str) : Addr := ma K C m
def stF (K : Frag) (C : Addr) (m : Str) : Addr := match recIn K (stR K C m) "staticmethod" with
  | some (.ref g :: _) => g
  | _ => 0
def stB (K : Frag) (C : Addr) (m : Str) : Bool := readsIn K C (.type "type") && (eqO (specialIn K (.ref C) "__getattribute__") (some (some (.builtin "type.__getattribute__"))) &&
  ((match findCls K (.ref C) (.type "type") m with
    | some (.get (.builtin b) (.ref p) .none (.ref C')) => b == "staticmethod.__get__" && (p == stR K C m && C' == C)
    | _ => false) && (match recIn K (stR K C m) "staticmethod" with
    | some (.ref _ :: _) => true
    | _ => false)))
theorem stB_ok {K : Frag} {C : Addr} {m : Str} (h : stB K C m = true) : ClX.CRead K C (.type "type") ∧ findCls K (.ref C) (.type "type") m = some (.get (.builtin "staticmethod.__get__") (.ref (stR K C m)) .none (.ref C)) ∧ ∃ rest, recIn K (stR K C m) "staticmethod" = some (.ref (stF K C m) :: rest) := by
  obtain ⟨h1, h⟩ := ba h
  obtain ⟨h2, h⟩ := ba h
  obtain ⟨h3, h4⟩ := ba h
  refine ⟨⟨h1, eqO_ok h2⟩, ?_, ?_⟩
  · split at h3
    · rename_i b p C' e
      obtain ⟨q1, q⟩ := ba h3
      obtain ⟨q2, q3⟩ := ba q
      rw [e, beq_iff_eq.mp q1, beq_iff_eq.mp q2, beq_iff_eq.mp q3]
    · cases h3
  · split at h4
    · rename_i g rest e
      refine ⟨rest, ?_⟩
      unfold stF
      rw [e]
    · cases h4
end

/-! ## the law's call, its promise knowing of the stack -/
section
open PyProof.Rows PySem.W
/-- a heap that shows the script alone -/
structure Shows (P : Program) (w : World) (K : Frag) (h : Heap) (a : Addr) (o : Obj) (ns : List Int) (H : Hp) : Prop where
  one : ∀ b u, H b = some u → b = a ∧ ∃ xs, u = .frz o (.lst xs)
  ok : HOk P w H h
  sq : SqL K H a (ns.map V.int)
  out : ∀ u, H a = some u → K.lookup a = none
theorem shows_of {P : Program} {w : World} {K : Frag} {h : Heap} {a : Addr} {vs : List Value} {ns : List Int} (X : K.In h) (ha : h.get? a = some { cls := .type "list", data := .seq vs.toArray }) (hi : IntsAre vs ns) (hl : ns.length ≤ sizeLine) :
    ∃ H : Hp, Shows P w K h a { cls := .type "list", data := .seq vs.toArray } ns H := by
  have hr := vals_ints hi
  have hn := hi.length
  cases q : K.lookup a with
  | some o =>
    have e := (X a o q).symm.trans ha
    cases e
    exact ⟨fun _ => none, fun b u z => (by cases z), fun b u z => (by cases z), .inr ⟨_, vs.toArray, _, q, rfl, rfl, rfl, by rw [List.size_toArray, hn]; exact hl, hr⟩, fun u z => (by cases z)⟩
  | none =>
    have at_a : ∀ {b : Addr} {u : HO}, (if b = a then some (HO.frz { cls := .type "list", data := .seq vs.toArray } (.lst (ns.map V.int))) else none) = some u → b = a ∧ u = .frz { cls := .type "list", data := .seq vs.toArray } (.lst (ns.map V.int)) := fun {b u} z => by
      by_cases hb : b = a
      · rw [if_pos hb] at z
        cases z
        exact ⟨hb, rfl⟩
      · rw [if_neg hb] at z
        cases z
    refine ⟨fun b => if b = a then some (.frz { cls := .type "list", data := .seq vs.toArray } (.lst (ns.map V.int))) else none, fun b u z => ⟨(at_a z).1, _, (at_a z).2⟩, fun b u z => ?_, .inl (.inr ⟨_, if_pos rfl⟩), fun _ _ => q⟩
    obtain ⟨rfl, rfl⟩ := at_a z
    exact ⟨ha, by rw [List.length_map]; exact hl, vs, _, hr, ha⟩
variable {P : Program} {w : World} {K : Frag} {mg mb : Str → Option Value} {Z : Around → Prop} {k : Nat} {f a : Addr} {x : Str} {sp : Sp} {s : Shared} {vs : List Value} {ns : List Int}
theorem call_of_promise (hz : Z callerA) (X : K.In s.heap) (G : s.heap.Ns mainGlobals mg) (B : s.heap.Ns builtinsNs mb) (hB : ∀ x : Str, x ≠ "__name__" → mb x = bootBuiltins x) (L : s.heap.NoLimit) (hg : s.gens = #[])
    (ha : s.heap.get? a = some { cls := .type "list", data := .seq vs.toArray }) (hi : IntsAre vs ns) (hl : ns.length ≤ sizeLine) (hr : Room k callerA)
    (hm : mg x = some (.ref f)) (F : ∀ base : Heap, K.In base → base.Ns mainGlobals mg → CalZ Z P w K mg base k x sp)
    (hsp : ∀ H : Hp, SqL K H a (ns.map V.int) → sp [.ref a] H (fun v _ => v = .bl true) fun _ _ _ => False) :
    codeAny (model P w) callerA (.call (.ref f) ⟨[.ref a], []⟩) (fun r s' => r = .ok (.ret (.bool true)) ∧ OldK s.heap s'.heap ∧ s'.os = s.os ∧ AllBare s'.gens) s := by
  obtain ⟨H, S⟩ := shows_of (P := P) (w := w) X ha hi hl
  have kept : ∀ {b : Addr} {o : Obj}, s.heap.get? b = some o → (∀ u, H b ≠ some u) → (hidT s.heap H).get? b = some o := fun {b o} e n => hidT_get e (by
    cases q : H b with
    | none => rfl
    | some u => exact absurd q (n u))
  have space : ∀ {b : Addr} {m : Str → Option Value}, s.heap.Ns b m → (hidT s.heap H).Ns b m := by
    rintro b m ⟨o, es, ep, e, d, r⟩
    refine ⟨o, es, ep, kept e fun u q => ?_, d, r⟩
    obtain ⟨rfl, _⟩ := S.one b u q
    rw [ha] at e
    cases e
    cases (show Data.seq vs.toArray _ = Data.dict es ep from d)
  have inK : K.In (hidT s.heap H) := fun b o e => kept (X b o e) fun u q => by
    obtain ⟨rfl, _⟩ := S.one b u q
    rw [S.out u q] at e
    cases e
  obtain ⟨ml, l1, l2⟩ := L
  have md : Mod K mg (hidT s.heap H) := ⟨inK, space G, ⟨mb, space B, hB⟩, ⟨ml, space l1, l2⟩⟩
  have en : Env0 P w K mg (hidT s.heap H) callerA [] s H := ⟨rfl, md, fun b o e => of_hidT e, Nat.le_of_eq (hidT_size _ _), trivial, fun b hb => (List.not_mem_nil (show b ∈ ([] : List Addr) from hb)).elim, S.ok, .of_eq hg⟩
  obtain ⟨f', fd, ps, F', hm', _, bd⟩ := (F _ inK (space G)).ex
  rw [hm] at hm'
  cases hm'
  have hlen := F'.len _ _ _ _ (hsp H S.sq)
  have bd' := bd s [.ref a] X (by simpa using hlen)
  rw [List.append_nil] at bd'
  have run := F'.run callerA [] s H ⟨[.ref a], []⟩ [.ref a] [.ref a] _ _ hz hr en bd' (.cons rfl .nil) (hsp H S.sq)
  refine codeAny_mono run fun r s' q => ?_
  match r, q with
  | .error e, ⟨_, _, _, _, _, _, _, _, _, _, _, _, z⟩ => exact z.elim
  | .ok .next, z => exact z.elim
  | .ok .brk, z => exact z.elim
  | .ok .cont, z => exact z.elim
  | .ok (.ret u), ⟨v, H', os, bare, un, hok', rv, hv⟩ =>
    have hv : v = .bl true := hv
    subst hv
    obtain rfl : u = Value.bool true := rv
    refine ⟨rfl, OldK.of_keep fun b o e => ?_, os, bare⟩
    cases q : H b with
    | none => exact un.keep b o e q (fun z => (List.not_mem_nil (show b ∈ ([] : List Addr) from z)).elim) (by simp)
    | some u =>
      obtain ⟨_, xs, rfl⟩ := S.one b u q
      have z2 := un.frzs b _ _ q
      have e1 := (S.ok b _ q).1
      rw [e] at e1
      cases e1
      exact (hok' b _ z2).1
/-- the law's goal, from such a promise and what the head tells -/
theorem walk_of_promise {l : OpenLaw} {n : Nat} {q : Program} {loose : List Str} {XP : (Str → Option Value) → Heap → Prop} {YP : World → Heap → Prop} {d : DefRec} {x : Str} (hz : Z callerA)
    (hn : l.most = some n) (hn2 : n ≤ sizeLine) (hdf : d.params.defaults = []) (hr : Room k callerA)
    (F : ∀ (w : World) (mg : Str → Option Value) (fa : Addr) (h : Heap), YP w h → h.Ns mainGlobals mg → mg d.name = some (.ref fa) → ∃ (K : Frag) (sp : Sp), K.In h ∧ mg x = some (.ref fa) ∧
      (∀ (H : Hp) (a : Addr) (ns : List Int), ns.length ≤ n → (∀ z ∈ ns, Builtin.Int.intBits z ≤ 1048576) → SqL K H a (ns.map V.int) → sp [.ref a] H (fun v _ => v = .bl true) fun _ _ _ => False) ∧
      ∀ base : Heap, K.In base → base.Ns mainGlobals mg → CalZ Z l.prog w K mg base k x sp) : WalkO q loose XP YP l.row.toRowW d [] (fun f vs => PySem.call f vs) := by
  refine Att.attach_callB hn hdf fun w s₀ s1 mg mb fa o pm cd doc a vs ns G Y ho hd hcd hmg hobj hints hlen hbits hg => ?_
  obtain ⟨K, sp, KX, hm, hsp, hF⟩ := F w mg fa _ Y G.T.g hmg
  exact call_of_promise hz KX G.T.g G.T.b G.T.builtins G.T.nolimit hg hobj hints (Nat.le_trans hlen hn2) hr hm hF fun H hS => hsp H a ns hlen hbits hS
end

/-! ### all facts, the law's promise -/
def fnV0 : List DfV := [⟨fun K => He.ga K "_law_pick", "_law_pick", "_law_pick", top 41, []⟩,
  ⟨fun K => He.ga K "_law_source", "_law_source", "_law_source", top 40, []⟩,
  ⟨fun K => He.ga K "_law_alphabet", "_law_alphabet", "_law_alphabet", top 42, []⟩,
  ⟨fun K => He.ga K "_law_word", "_law_word", "_law_word", top 43, []⟩,
  ⟨fun K => He.ga K "_law_letters", "_law_letters", "_law_letters", top 53, []⟩,
  ⟨fun K => He.ga K "_law_reader", "_law_reader", "_law_reader", top 44, []⟩,
  ⟨fun K => He.ga K "_law_words", "_law_words", "_law_words", top 48, []⟩,
  ⟨fun K => He.ga K "is_integer", "is_integer", "is_integer", top 18, []⟩,
  ⟨fun K => He.ga K "is_listed", "is_listed", "is_listed", top 19, []⟩,
  ⟨fun K => He.ga K "is_alphabet", "is_alphabet", "is_alphabet", top 20, []⟩,
  ⟨fun K => He.ga K "check_alphabet", "check_alphabet", "check_alphabet", top 21, []⟩,
  ⟨fun K => He.ga K "text_fault", "text_fault", "text_fault", top 22, []⟩,
  ⟨fun K => He.ga K "check_text", "check_text", "check_text", top 23, []⟩,
  ⟨fun K => He.ga K "checked_moves", "checked_moves", "checked_moves", top 31, []⟩,
  ⟨fun K => He.ga K "checked_good", "checked_good", "checked_good", top 32, []⟩,
  ⟨fun K => He.ma K (He.ga K "Reader") "__init__", "__init__", "Reader.__init__", sub 33 0, []⟩,
  ⟨fun K => He.ga K "room_of", "room_of", "room_of", top 34, []⟩,
  ⟨fun K => He.ga K "_law_room", "_law_room", "_law_room", top 45, []⟩,
  ⟨fun K => He.ma K (He.ga K "Reader") "room", "room", "Reader.room", sub 33 3, []⟩,
  ⟨fun K => He.ma K (He.ga K "Reader") "__contains__", "__contains__", "Reader.__contains__", sub 33 4, []⟩]
def fnV1 : List DfV := [⟨fun K => He.ma K (He.ga K "Reader") "__len__", "__len__", "Reader.__len__", sub 33 5, []⟩,
  ⟨fun K => He.ma K (He.ga K "Reader") "__eq__", "__eq__", "Reader.__eq__", sub 33 6, []⟩,
  ⟨fun K => stF K (He.ga K "Reader") "full", "full", "Reader.full", sub 33 1, []⟩,
  ⟨fun K => stF K (He.ga K "Reader") "bare", "bare", "Reader.bare", sub 33 2, []⟩,
  ⟨fun K => He.ga K "_law_is_number", "_law_is_number", "_law_is_number", top 47, []⟩,
  ⟨fun K => He.ga K "_law_is_reader", "_law_is_reader", "_law_is_reader", top 46, []⟩,
  ⟨fun K => He.ga K "_law_making", "_law_making", "_law_making", top 49, []⟩,
  ⟨fun K => He.ga K "_law_rooming", "_law_rooming", "_law_rooming", top 50, []⟩,
  ⟨fun K => He.ga K "_law_finding", "_law_finding", "_law_finding", top 51, []⟩,
  ⟨fun K => He.ga K "_law_filling", "_law_filling", "_law_filling", top 52, []⟩,
  ⟨fun K => He.ga K "_law_sized", "_law_sized", "_law_sized", top 54, []⟩,
  ⟨fun K => He.ga K "_law_passed", "_law_passed", "_law_passed", top 55, []⟩,
  ⟨fun K => He.ga K "_law_spoilt", "_law_spoilt", "_law_spoilt", top 56, []⟩,
  ⟨fun K => He.ga K "_law_ends", "_law_ends", "_law_ends", top 59, []⟩,
  ⟨fun K => He.ga K "_law_right", "_law_right", "_law_right", top 57, []⟩,
  ⟨fun K => He.ga K "_law_equal", "_law_equal", "_law_equal", top 58, []⟩,
  ⟨fun K => He.ga K "_law_wrong_alphabet", "_law_wrong_alphabet", "_law_wrong_alphabet", top 60, []⟩,
  ⟨fun K => He.ga K "_law_wrong_good", "_law_wrong_good", "_law_wrong_good", top 62, []⟩,
  ⟨fun K => He.ga K "_law_wrong_text", "_law_wrong_text", "_law_wrong_text", top 63, []⟩,
  ⟨fun K => He.ga K "_law_wrong_moves", "_law_wrong_moves", "_law_wrong_moves", top 61, []⟩]
def fnV2 : List DfV := [⟨fun K => He.ga K "_law_refused", "_law_refused", "_law_refused", top 64, []⟩,
  ⟨fun K => He.ga K "law", "law", "law", top 65, []⟩,
  ⟨fun K => He.ma K (He.ga K "WrongItem") "__init__", "__init__", "WrongItem.__init__", sub 6 0, ["__class__"]⟩,
  ⟨fun K => He.ma K (He.ga K "WrongThing") "__init__", "__init__", "WrongThing.__init__", sub 2 0, ["__class__"]⟩]
def fnV : List DfV := fnV0 ++ fnV1 ++ fnV2
def faV0 : List He.Fa := [.free "len", .free "int", .free "abs", .free "range", .free "isinstance", .free "repr", .free "str", .free "tuple", .free "list", .free "all", .free "any", .free "enumerate", .free "ValueError", .free "bool", .free "min", .free "set", .free "max", .free "sum", .free "sorted", .free "super", .glo "LotsError", .glo "WrongThing", .glo "BadAlphabet", .glo "BadLetter", .glo "BadNumber", .glo "WrongItem", .glo "BadText", .glo "BadMoves", .glo "BadGood", .glo "BadLots"]
def faV1 : List He.Fa := [.glo "BadTexts", .glo "TooMany", .glo "Unlike", .glo "NoName", .glo "Reader", .glo "_law_pick", .glo "_law_source", .glo "_law_alphabet", .glo "_law_word", .glo "_law_letters", .glo "_law_reader", .glo "_law_words", .glo "is_integer", .glo "is_listed", .glo "is_alphabet", .glo "check_alphabet", .glo "text_fault", .glo "check_text", .glo "checked_moves", .glo "checked_good", .glo "room_of", .glo "_law_room", .glo "_law_is_number", .glo "_law_is_reader", .glo "_law_making", .glo "_law_rooming", .glo "_law_finding", .glo "_law_filling", .glo "_law_sized", .glo "_law_passed"]
def faV2 : List He.Fa := [.glo "_law_spoilt", .glo "_law_ends", .glo "_law_right", .glo "_law_equal", .glo "_law_wrong_alphabet", .glo "_law_wrong_good", .glo "_law_wrong_text", .glo "_law_wrong_moves", .glo "_law_refused", .glo "law", .str "SMALL" SMALLS, .int "TEXT_LETTERS" 40, .int "MOST_ROOMS" 60, .mkr "Reader", .meth "Reader" "room", .meth "Reader" "__contains__", .meth "Reader" "__len__", .meth "Reader" "__eq__"]
def faV : List He.Fa := faV0 ++ faV1 ++ faV2
def adV (K : PySem.W.Frag) : Ad := ⟨He.ga K "LotsError", He.ga K "WrongThing", He.ga K "BadAlphabet", He.ga K "BadLetter", He.ga K "BadNumber", He.ga K "WrongItem", He.ga K "BadText", He.ga K "BadMoves", He.ga K "BadGood", He.ga K "BadLots", He.ga K "BadTexts", He.ga K "TooMany", He.ga K "Unlike", He.ga K "NoName", He.ga K "Reader"⟩
abbrev PP : Program := PySem.Challenge.pw_vouchedlots_k07_reader_kept
def exV (K : PySem.W.Frag) : Bool := (faV.all fun f => f.ok K) && (errB K (adV K) .alphabet && (errB K (adV K) .text && (errB K (adV K) .moves && (errB K (adV K) .good && (supB K ((Er.alphabet).cls (adV K)) (He.ga K "WrongThing") "thing" PP.main.file && (supB K ((Er.text).cls (adV K)) (He.ga K "WrongItem") "at" PP.main.file && (supB K ((Er.moves).cls (adV K)) (He.ga K "WrongItem") "at" PP.main.file && (supB K ((Er.good).cls (adV K)) (He.ga K "WrongItem") "at" PP.main.file && (rdB K (He.ga K "Reader") && (stB K (He.ga K "Reader") "full" && (stB K (He.ga K "Reader") "bare")))))))))))
theorem fa_at {K : PySem.W.Frag} (h : (faV.all fun f => f.ok K) = true) (i : Nat) {f : He.Fa} (hi : faV[i]? = some f) : f.ok K = true := List.all_eq_true.mp h f (List.mem_of_getElem? hi)
theorem sup_WrongItem {w : World} {K : PySem.W.Frag} {h : Heap} {mg : Str → Option Value} (c : SaysV fnV exV K) (hs : mg "super" = none) {C : Addr} (hB : supB K C (He.ga K "WrongItem") "at" PP.main.file = true) :
    ∃ (D fI : Addr) (arg : Expr) (ok : Value → Prop), SupX.SupTxt PP w K mg C D fI "at" arg ok ∧ ∀ v u, RelV v u → (∃ i : Int, v = .int i ∧ i.natAbs.log2 < 1920) → ok u := by
  obtain ⟨b1, hB⟩ := He.ba hB
  obtain ⟨b2, hB⟩ := He.ba hB
  obtain ⟨b3, hB⟩ := He.ba hB
  obtain ⟨b4, hB⟩ := He.ba hB
  obtain ⟨b5, hB⟩ := He.ba hB
  obtain ⟨b6, hB⟩ := He.ba hB
  obtain ⟨b7, hB⟩ := He.ba hB
  obtain ⟨b8, hB⟩ := He.ba hB
  obtain ⟨b9, hB⟩ := He.ba hB
  obtain ⟨b10, hB⟩ := He.ba hB
  obtain ⟨b11, hB⟩ := He.ba hB
  obtain ⟨b12, hB⟩ := He.ba hB
  obtain ⟨b13, b14⟩ := He.ba hB
  obtain ⟨e, o⟩ := c.at 42 rfl
  obtain ⟨kp, oc, od, cl, kV, doc, pm, an, cdv, ct, osl, hcl, lk, cd⟩ := DfV.look e o
  obtain ⟨cda, cc, vs, fl, tf, ccl, ccv, cdd, cld, ccs, csl, rfl, rfl, h1, h2, h3, h4⟩ := cellB_ok b14 lk hcl
  refine ⟨_, _, _, _, ⟨clsB_ok b1, He.eqO_ok b2, He.eqO_ok b3, He.eqO_ok b4, of_decide_eq_true b5, b6, of_decide_eq_true b7, of_decide_eq_true b8, of_decide_eq_true b9, He.eqO_ok b10, of_decide_eq_true b11, He.eqO_ok b12, hs, b13, by decide +kernel, by decide, by decide, rfl, rfl, rfl, by decide, SupX.argOk_fstr (by decide) (by decide), fun _ _ _ _ _ _ _ _ _ _ _ _ _ => rfl,
    ⟨oc, od, _, kV, doc, pm, an, cda, cc, ct, osl, _, _, _, _, _, _, _, _, _, _, _, vs, fl, tf, ccl, ccv, cdd, cld, ccs, csl, lk, cd, h1, h2, h3, h4, fun _ => ⟨_, rfl⟩⟩⟩, fun v u r hv => by
    obtain ⟨i, rfl, hi⟩ := hv
    obtain ⟨t, rfl⟩ := r
    exact ⟨i, t, rfl, hi⟩⟩
theorem sup_WrongThing {w : World} {K : PySem.W.Frag} {h : Heap} {mg : Str → Option Value} (c : SaysV fnV exV K) (hs : mg "super" = none) {C : Addr} (hB : supB K C (He.ga K "WrongThing") "thing" PP.main.file = true) :
    ∃ (D fI : Addr) (arg : Expr) (ok : Value → Prop), SupX.SupTxt PP w K mg C D fI "thing" arg ok ∧ ∀ v u, RelV v u → True → ok u := by
  obtain ⟨b1, hB⟩ := He.ba hB
  obtain ⟨b2, hB⟩ := He.ba hB
  obtain ⟨b3, hB⟩ := He.ba hB
  obtain ⟨b4, hB⟩ := He.ba hB
  obtain ⟨b5, hB⟩ := He.ba hB
  obtain ⟨b6, hB⟩ := He.ba hB
  obtain ⟨b7, hB⟩ := He.ba hB
  obtain ⟨b8, hB⟩ := He.ba hB
  obtain ⟨b9, hB⟩ := He.ba hB
  obtain ⟨b10, hB⟩ := He.ba hB
  obtain ⟨b11, hB⟩ := He.ba hB
  obtain ⟨b12, hB⟩ := He.ba hB
  obtain ⟨b13, b14⟩ := He.ba hB
  obtain ⟨e, o⟩ := c.at 43 rfl
  obtain ⟨kp, oc, od, cl, kV, doc, pm, an, cdv, ct, osl, hcl, lk, cd⟩ := DfV.look e o
  obtain ⟨cda, cc, vs, fl, tf, ccl, ccv, cdd, cld, ccs, csl, rfl, rfl, h1, h2, h3, h4⟩ := cellB_ok b14 lk hcl
  refine ⟨_, _, _, _, ⟨clsB_ok b1, He.eqO_ok b2, He.eqO_ok b3, He.eqO_ok b4, of_decide_eq_true b5, b6, of_decide_eq_true b7, of_decide_eq_true b8, of_decide_eq_true b9, He.eqO_ok b10, of_decide_eq_true b11, He.eqO_ok b12, hs, b13, by decide +kernel, by decide, by decide, rfl, rfl, rfl, by decide, SupX.argOk_str, fun _ _ _ _ _ _ _ _ _ _ _ _ _ => rfl,
    ⟨oc, od, _, kV, doc, pm, an, cda, cc, ct, osl, _, _, _, _, _, _, _, _, _, _, _, vs, fl, tf, ccl, ccv, cdd, cld, ccs, csl, lk, cd, h1, h2, h3, h4, fun _ => ⟨_, rfl⟩⟩⟩, fun _ _ _ _ => trivial⟩
theorem law_at {w : World} {K : PySem.W.Frag} {h : Heap} {mg : Str → Option Value} (X : K.In h) (G : h.Ns mainGlobals mg) (c : SaysV fnV exV K) : mg "law" = some (.ref (He.ga K "law")) ∧ ∀ base : Heap, CalZ Gd PP w K mg base 8 "law" (spLaw K) := by
  obtain ⟨z0, z⟩ := He.ba c.ex
  obtain ⟨z1, z⟩ := He.ba z
  obtain ⟨z2, z⟩ := He.ba z
  obtain ⟨z3, z⟩ := He.ba z
  obtain ⟨z4, z⟩ := He.ba z
  obtain ⟨z5, z⟩ := He.ba z
  obtain ⟨z6, z⟩ := He.ba z
  obtain ⟨z7, z⟩ := He.ba z
  obtain ⟨z8, z⟩ := He.ba z
  obtain ⟨z9, z⟩ := He.ba z
  obtain ⟨z10, z⟩ := He.ba z
  have z11 := z
  have T : Txt mg := ⟨He.free_ok X G (fa_at z0 0 rfl), He.free_ok X G (fa_at z0 1 rfl), He.free_ok X G (fa_at z0 2 rfl), He.free_ok X G (fa_at z0 3 rfl), He.free_ok X G (fa_at z0 4 rfl), He.free_ok X G (fa_at z0 5 rfl), He.free_ok X G (fa_at z0 6 rfl), He.free_ok X G (fa_at z0 7 rfl), He.free_ok X G (fa_at z0 8 rfl), He.free_ok X G (fa_at z0 9 rfl), He.free_ok X G (fa_at z0 10 rfl), He.free_ok X G (fa_at z0 11 rfl), He.free_ok X G (fa_at z0 12 rfl), He.free_ok X G (fa_at z0 13 rfl), He.free_ok X G (fa_at z0 14 rfl), He.free_ok X G (fa_at z0 15 rfl), He.free_ok X G (fa_at z0 16 rfl), He.free_ok X G (fa_at z0 17 rfl), He.free_ok X G (fa_at z0 18 rfl)⟩
  have hsup : mg "super" = none := He.free_ok X G (fa_at z0 19 rfl)
  have O : Own K mg (adV K) := ⟨He.glo_ok X G (fa_at z0 20 rfl), He.glo_ok X G (fa_at z0 21 rfl), He.glo_ok X G (fa_at z0 22 rfl), He.glo_ok X G (fa_at z0 23 rfl), He.glo_ok X G (fa_at z0 24 rfl), He.glo_ok X G (fa_at z0 25 rfl), He.glo_ok X G (fa_at z0 26 rfl), He.glo_ok X G (fa_at z0 27 rfl), He.glo_ok X G (fa_at z0 28 rfl), He.glo_ok X G (fa_at z0 29 rfl), He.glo_ok X G (fa_at z0 30 rfl), He.glo_ok X G (fa_at z0 31 rfl), He.glo_ok X G (fa_at z0 32 rfl), He.glo_ok X G (fa_at z0 33 rfl), He.glo_ok X G (fa_at z0 34 rfl), fun e => by cases e <;> first | exact errB_ok z1 | exact errB_ok z2 | exact errB_ok z3 | exact errB_ok z4⟩
  have SU_alphabet : Sup PP w K mg (adV K) .alphabet := ⟨sup_WrongThing (h := h) c hsup z5⟩
  have SU_text : Sup PP w K mg (adV K) .text := ⟨sup_WrongItem (h := h) c hsup z6⟩
  have SU_moves : Sup PP w K mg (adV K) .moves := ⟨sup_WrongItem (h := h) c hsup z7⟩
  have SU_good : Sup PP w K mg (adV K) .good := ⟨sup_WrongItem (h := h) c hsup z8⟩
  obtain ⟨R, RI, RQ, ne_c⟩ := rdB_ok z9
  have v_SMALL : ∃ u, mg "SMALL" = some u ∧ RelV (.str SMALLS) u := by
    obtain ⟨t, e⟩ := He.str_ok X G (fa_at z0 70 rfl)
    exact ⟨_, e, t, rfl⟩
  have v_TEXT_LETTERS : ∃ u, mg "TEXT_LETTERS" = some u ∧ RelV (.int 40) u := by
    obtain ⟨t, e⟩ := He.int_ok X G (fa_at z0 71 rfl)
    exact ⟨_, e, t, rfl⟩
  have v_MOST_ROOMS : ∃ u, mg "MOST_ROOMS" = some u ∧ RelV (.int 60) u := by
    obtain ⟨t, e⟩ := He.int_ok X G (fa_at z0 72 rfl)
    exact ⟨_, e, t, rfl⟩
  have M := He.mkr_ok (fa_at z0 73 rfl)
  obtain ⟨fd_pick, F_pick, df_pick⟩ := c.df X G 0 rfl (fa_at z0 35 rfl)
  have b_pick : Binds K fd_pick ["source", "many"] [] := C8.Fun.binds F_pick.fn df_pick fun _ _ _ _ _ _ us hl => match us, hl with | [_, _], _ => rfl
  obtain ⟨fd_source, F_source, df_source⟩ := c.df X G 1 rfl (fa_at z0 36 rfl)
  have b_source : Binds K fd_source ["script", "place"] [] := C8.Fun.binds F_source.fn df_source fun _ _ _ _ _ _ us hl => match us, hl with | [_, _], _ => rfl
  obtain ⟨fd_alphabet, F_alphabet, df_alphabet⟩ := c.df X G 2 rfl (fa_at z0 37 rfl)
  have b_alphabet : Binds K fd_alphabet ["source"] [] := C8.Fun.binds F_alphabet.fn df_alphabet fun _ _ _ _ _ _ us hl => match us, hl with | [_], _ => rfl
  obtain ⟨fd_word, F_word, df_word⟩ := c.df X G 3 rfl (fa_at z0 38 rfl)
  have b_word : Binds K fd_word ["source", "alphabet", "most"] [] := C8.Fun.binds F_word.fn df_word fun _ _ _ _ _ _ us hl => match us, hl with | [_, _, _], _ => rfl
  obtain ⟨fd_letters, F_letters, df_letters⟩ := c.df X G 4 rfl (fa_at z0 39 rfl)
  have b_letters : Binds K fd_letters ["source", "alphabet", "size"] [] := C8.Fun.binds F_letters.fn df_letters fun _ _ _ _ _ _ us hl => match us, hl with | [_, _, _], _ => rfl
  obtain ⟨fd_reader, F_reader, df_reader⟩ := c.df X G 5 rfl (fa_at z0 40 rfl)
  have b_reader : Binds K fd_reader ["source", "many", "most"] [] := C8.Fun.binds F_reader.fn df_reader fun _ _ _ _ _ _ us hl => match us, hl with | [_, _, _], _ => rfl
  obtain ⟨fd_words, F_words, df_words⟩ := c.df X G 6 rfl (fa_at z0 41 rfl)
  have b_words : Binds K fd_words ["error"] [] := C8.Fun.binds F_words.fn df_words fun _ _ _ _ _ _ us hl => match us, hl with | [_], _ => rfl
  obtain ⟨fd_integer, F_integer, df_integer⟩ := c.df X G 7 rfl (fa_at z0 42 rfl)
  have b_integer : Binds K fd_integer ["thing", "low", "high"] [] := C8.Fun.binds F_integer.fn df_integer fun _ _ _ _ _ _ us hl => match us, hl with | [_, _, _], _ => rfl
  obtain ⟨fd_listed, F_listed, df_listed⟩ := c.df X G 8 rfl (fa_at z0 43 rfl)
  have b_listed : Binds K fd_listed ["thing"] [] := C8.Fun.binds F_listed.fn df_listed fun _ _ _ _ _ _ us hl => match us, hl with | [_], _ => rfl
  obtain ⟨fd_isal, F_isal, df_isal⟩ := c.df X G 9 rfl (fa_at z0 44 rfl)
  have b_isal : Binds K fd_isal ["thing"] [] := C8.Fun.binds F_isal.fn df_isal fun _ _ _ _ _ _ us hl => match us, hl with | [_], _ => rfl
  obtain ⟨fd_chkal, F_chkal, df_chkal⟩ := c.df X G 10 rfl (fa_at z0 45 rfl)
  have b_chkal : Binds K fd_chkal ["thing"] [] := C8.Fun.binds F_chkal.fn df_chkal fun _ _ _ _ _ _ us hl => match us, hl with | [_], _ => rfl
  obtain ⟨fd_fault, F_fault, df_fault⟩ := c.df X G 11 rfl (fa_at z0 46 rfl)
  have b_fault : Binds K fd_fault ["alphabet", "thing", "most"] [] := C8.Fun.binds F_fault.fn df_fault fun _ _ _ _ _ _ us hl => match us, hl with | [_, _, _], _ => rfl
  obtain ⟨fd_chktext, F_chktext, df_chktext⟩ := c.df X G 12 rfl (fa_at z0 47 rfl)
  have b_chktext : Binds K fd_chktext ["alphabet", "thing"] [] := C8.Fun.binds F_chktext.fn df_chktext fun _ _ _ _ _ _ us hl => match us, hl with | [_, _], _ => rfl
  obtain ⟨fd_moves, F_moves, df_moves⟩ := c.df X G 13 rfl (fa_at z0 48 rfl)
  have b_moves : Binds K fd_moves ["alphabet", "moves"] [] := C8.Fun.binds F_moves.fn df_moves fun _ _ _ _ _ _ us hl => match us, hl with | [_, _], _ => rfl
  obtain ⟨fd_good, F_good, df_good⟩ := c.df X G 14 rfl (fa_at z0 49 rfl)
  have b_good : Binds K fd_good ["moves", "good"] [] := C8.Fun.binds F_good.fn df_good fun _ _ _ _ _ _ us hl => match us, hl with | [_, _], _ => rfl
  obtain ⟨fd_init, F_init, df_init, kp_init⟩ := c.fn 15 rfl rfl
  have b_init : Binds K fd_init ["self", "alphabet", "moves", "good"] [] := C8.Fun.binds F_init df_init fun _ _ _ _ _ _ us hl => match us, hl with | [_, _, _, _], _ => rfl
  obtain ⟨fd_roomof, F_roomof, df_roomof⟩ := c.df X G 16 rfl (fa_at z0 50 rfl)
  have b_roomof : Binds K fd_roomof ["reader", "text"] [] := C8.Fun.binds F_roomof.fn df_roomof fun _ _ _ _ _ _ us hl => match us, hl with | [_, _], _ => rfl
  obtain ⟨fd_lawroom, F_lawroom, df_lawroom⟩ := c.df X G 17 rfl (fa_at z0 51 rfl)
  have b_lawroom : Binds K fd_lawroom ["alphabet", "moves", "text"] [] := C8.Fun.binds F_lawroom.fn df_lawroom fun _ _ _ _ _ _ us hl => match us, hl with | [_, _, _], _ => rfl
  obtain ⟨fd_room, F_room, df_room, kp_room⟩ := c.fn 18 rfl rfl
  have b_room : Binds K fd_room ["self", "text"] [] := C8.Fun.binds F_room df_room fun _ _ _ _ _ _ us hl => match us, hl with | [_, _], _ => rfl
  obtain ⟨fd_contains, F_contains, df_contains, kp_contains⟩ := c.fn 19 rfl rfl
  have b_contains : Binds K fd_contains ["self", "text"] [] := C8.Fun.binds F_contains df_contains fun _ _ _ _ _ _ us hl => match us, hl with | [_, _], _ => rfl
  obtain ⟨fd_len, F_len, df_len, kp_len⟩ := c.fn 20 rfl rfl
  have b_len : Binds K fd_len ["self"] [] := C8.Fun.binds F_len df_len fun _ _ _ _ _ _ us hl => match us, hl with | [_], _ => rfl
  obtain ⟨fd_eq, F_eq, df_eq, kp_eq⟩ := c.fn 21 rfl rfl
  have b_eq : Binds K fd_eq ["self", "other"] [] := C8.Fun.binds F_eq df_eq fun _ _ _ _ _ _ us hl => match us, hl with | [_, _], _ => rfl
  obtain ⟨fd_full, F_full, df_full, kp_full⟩ := c.fn 22 rfl rfl
  have b_full : Binds K fd_full ["alphabet"] [] := C8.Fun.binds F_full df_full fun _ _ _ _ _ _ us hl => match us, hl with | [_], _ => rfl
  obtain ⟨fd_bare, F_bare, df_bare, kp_bare⟩ := c.fn 23 rfl rfl
  have b_bare : Binds K fd_bare ["alphabet"] [] := C8.Fun.binds F_bare df_bare fun _ _ _ _ _ _ us hl => match us, hl with | [_], _ => rfl
  obtain ⟨fd_isnum, F_isnum, df_isnum⟩ := c.df X G 24 rfl (fa_at z0 52 rfl)
  have b_isnum : Binds K fd_isnum ["thing", "low", "high"] [] := C8.Fun.binds F_isnum.fn df_isnum fun _ _ _ _ _ _ us hl => match us, hl with | [_, _, _], _ => rfl
  obtain ⟨fd_isrd, F_isrd, df_isrd⟩ := c.df X G 25 rfl (fa_at z0 53 rfl)
  have b_isrd : Binds K fd_isrd ["reader", "alphabet"] [] := C8.Fun.binds F_isrd.fn df_isrd fun _ _ _ _ _ _ us hl => match us, hl with | [_, _], _ => rfl
  obtain ⟨fd_making, F_making, df_making⟩ := c.df X G 26 rfl (fa_at z0 54 rfl)
  have b_making : Binds K fd_making ["alphabet", "moves", "good"] [] := C8.Fun.binds F_making.fn df_making fun _ _ _ _ _ _ us hl => match us, hl with | [_, _, _], _ => rfl
  obtain ⟨fd_rooming, F_rooming, df_rooming⟩ := c.df X G 27 rfl (fa_at z0 55 rfl)
  have b_rooming : Binds K fd_rooming ["reader", "text"] [] := C8.Fun.binds F_rooming.fn df_rooming fun _ _ _ _ _ _ us hl => match us, hl with | [_, _], _ => rfl
  obtain ⟨fd_finding, F_finding, df_finding⟩ := c.df X G 28 rfl (fa_at z0 56 rfl)
  have b_finding : Binds K fd_finding ["reader", "text"] [] := C8.Fun.binds F_finding.fn df_finding fun _ _ _ _ _ _ us hl => match us, hl with | [_, _], _ => rfl
  obtain ⟨fd_filling, F_filling, df_filling⟩ := c.df X G 29 rfl (fa_at z0 57 rfl)
  have b_filling : Binds K fd_filling ["alphabet"] [] := C8.Fun.binds F_filling.fn df_filling fun _ _ _ _ _ _ us hl => match us, hl with | [_], _ => rfl
  obtain ⟨fd_sized, F_sized, df_sized⟩ := c.df X G 30 rfl (fa_at z0 58 rfl)
  have b_sized : Binds K fd_sized ["source", "many"] [] := C8.Fun.binds F_sized.fn df_sized fun _ _ _ _ _ _ us hl => match us, hl with | [_, _], _ => rfl
  obtain ⟨fd_passed, F_passed, df_passed⟩ := c.df X G 31 rfl (fa_at z0 59 rfl)
  have b_passed : Binds K fd_passed ["source", "told"] [] := C8.Fun.binds F_passed.fn df_passed fun _ _ _ _ _ _ us hl => match us, hl with | [_, _], _ => rfl
  obtain ⟨fd_spoilt, F_spoilt, df_spoilt⟩ := c.df X G 32 rfl (fa_at z0 60 rfl)
  have b_spoilt : Binds K fd_spoilt ["passed"] [] := C8.Fun.binds F_spoilt.fn df_spoilt fun _ _ _ _ _ _ us hl => match us, hl with | [_], _ => rfl
  obtain ⟨fd_ends, F_ends, df_ends⟩ := c.df X G 33 rfl (fa_at z0 61 rfl)
  have b_ends : Binds K fd_ends ["alphabet"] [] := C8.Fun.binds F_ends.fn df_ends fun _ _ _ _ _ _ us hl => match us, hl with | [_], _ => rfl
  obtain ⟨fd_right, F_right, df_right⟩ := c.df X G 34 rfl (fa_at z0 62 rfl)
  have b_right : Binds K fd_right ["alphabet", "told", "reader", "texts"] [] := C8.Fun.binds F_right.fn df_right fun _ _ _ _ _ _ us hl => match us, hl with | [_, _, _, _], _ => rfl
  obtain ⟨fd_equal, F_equal, df_equal⟩ := c.df X G 35 rfl (fa_at z0 63 rfl)
  have b_equal : Binds K fd_equal ["alphabet", "told", "reader", "source"] [] := C8.Fun.binds F_equal.fn df_equal fun _ _ _ _ _ _ us hl => match us, hl with | [_, _, _, _], _ => rfl
  obtain ⟨fd_wrongal, F_wrongal, df_wrongal⟩ := c.df X G 36 rfl (fa_at z0 64 rfl)
  have b_wrongal : Binds K fd_wrongal ["source"] [] := C8.Fun.binds F_wrongal.fn df_wrongal fun _ _ _ _ _ _ us hl => match us, hl with | [_], _ => rfl
  obtain ⟨fd_wronggd, F_wronggd, df_wronggd⟩ := c.df X G 37 rfl (fa_at z0 65 rfl)
  have b_wronggd : Binds K fd_wronggd ["source", "size", "told"] [] := C8.Fun.binds F_wronggd.fn df_wronggd fun _ _ _ _ _ _ us hl => match us, hl with | [_, _, _], _ => rfl
  obtain ⟨fd_wrongtx, F_wrongtx, df_wrongtx⟩ := c.df X G 38 rfl (fa_at z0 66 rfl)
  have b_wrongtx : Binds K fd_wrongtx ["source", "alphabet"] [] := C8.Fun.binds F_wrongtx.fn df_wrongtx fun _ _ _ _ _ _ us hl => match us, hl with | [_, _], _ => rfl
  obtain ⟨fd_wrongmv, F_wrongmv, df_wrongmv⟩ := c.df X G 39 rfl (fa_at z0 67 rfl)
  have b_wrongmv : Binds K fd_wrongmv ["source", "told", "many"] [] := C8.Fun.binds F_wrongmv.fn df_wrongmv fun _ _ _ _ _ _ us hl => match us, hl with | [_, _, _], _ => rfl
  obtain ⟨fd_refused, F_refused, df_refused⟩ := c.df X G 40 rfl (fa_at z0 68 rfl)
  have b_refused : Binds K fd_refused ["source", "alphabet", "told"] [] := C8.Fun.binds F_refused.fn df_refused fun _ _ _ _ _ _ us hl => match us, hl with | [_, _, _], _ => rfl
  obtain ⟨fd_law, F_law, df_law⟩ := c.df X G 41 rfl (fa_at z0 69 rfl)
  have b_law : Binds K fd_law ["script"] [] := C8.Fun.binds F_law.fn df_law fun _ _ _ _ _ _ us hl => match us, hl with | [_], _ => rfl
  refine ⟨F_law.mgf, fun base => ?_⟩
  have c_law_pick := ok_pick (P := PP) (w := w) (base := base) F_pick b_pick T
  have c_law_source := ok_source (P := PP) (w := w) (base := base) F_source b_source T
  have c_law_alphabet := ok_alphabet (P := PP) (w := w) (base := base) F_alphabet b_alphabet T c_law_pick
  have c_law_word := ok_word (P := PP) (w := w) (base := base) F_word b_word T c_law_pick
  have c_law_letters := ok_letters (P := PP) (w := w) (base := base) F_letters b_letters T c_law_pick
  have c_law_reader := ok_reader (P := PP) (w := w) (base := base) F_reader b_reader T c_law_pick
  have c_law_words := ok_words (P := PP) (w := w) (base := base) (ad := adV K) F_words b_words T O
  have c_is_integer := ok_integer (P := PP) (w := w) (base := base) F_integer b_integer T
  have c_is_listed := ok_listed (P := PP) (w := w) (base := base) F_listed b_listed T
  have c_is_alphabet := ok_isal (P := PP) (w := w) (base := base) F_isal b_isal T v_SMALL
  have c_check_alphabet := ok_chkal (P := PP) (w := w) (base := base) (ad := adV K) F_chkal b_chkal T O SU_alphabet c_is_alphabet
  have c_text_fault := ok_fault (P := PP) (w := w) (base := base) F_fault b_fault T
  have c_check_text := ok_chktext (P := PP) (w := w) (base := base) (ad := adV K) F_chktext b_chktext T O SU_text v_TEXT_LETTERS c_text_fault
  have c_checked_moves := ok_moves (P := PP) (w := w) (base := base) (ad := adV K) F_moves b_moves T O SU_moves v_MOST_ROOMS c_is_listed c_is_integer
  have c_checked_good := ok_good (P := PP) (w := w) (base := base) (ad := adV K) F_good b_good T O SU_good c_is_listed c_is_integer
  have m_Reader := ok_init (P := PP) (w := w) (base := base) (ad := adV K) M R F_init b_init T O c_check_alphabet c_checked_moves c_checked_good
  have c_room_of := ok_roomof (P := PP) (w := w) (base := base) (ad := adV K) F_roomof b_roomof T R
  have c_law_room := ok_lawroom (P := PP) (w := w) (base := base) F_lawroom b_lawroom T
  have mt_room := ok_room (P := PP) (w := w) (base := base) (ad := adV K) R (He.meth_ok (fa_at z0 74 rfl)) F_room b_room T c_check_text c_room_of
  have mt_contains := ok_contains (P := PP) (w := w) (base := base) (ad := adV K) R (He.meth_ok (fa_at z0 75 rfl)) F_contains b_contains T c_check_text c_room_of
  have mt_len := ok_len (P := PP) (w := w) (base := base) (ad := adV K) R (He.meth_ok (fa_at z0 76 rfl)) F_len b_len T
  have mt_eq := ok_eq (P := PP) (w := w) (base := base) (ad := adV K) R RI (He.meth_ok (fa_at z0 77 rfl)) F_eq b_eq T O
  have fz_full := ok_full (P := PP) (w := w) (base := base) (ad := adV K) F_full b_full T O c_check_alphabet m_Reader
  obtain ⟨cr_full, fc_full, rest_full, rc_full⟩ := stB_ok z10
  have st_full : StZ PP w K mg base 5 (adV K).Reader "full" (spEnd (adV K) [0]) := ⟨_, _, fd_full, _, _, rest_full, cr_full, fc_full, rc_full, fz_full, kp_full, b_full⟩
  have fz_bare := ok_bare (P := PP) (w := w) (base := base) (ad := adV K) F_bare b_bare T O c_check_alphabet m_Reader
  obtain ⟨cr_bare, fc_bare, rest_bare, rc_bare⟩ := stB_ok z11
  have st_bare : StZ PP w K mg base 5 (adV K).Reader "bare" (spEnd (adV K) []) := ⟨_, _, fd_bare, _, _, rest_bare, cr_bare, fc_bare, rc_bare, fz_bare, kp_bare, b_bare⟩
  have c_law_is_number := ok_isnum (P := PP) (w := w) (base := base) F_isnum b_isnum T
  have c_law_is_reader := ok_isrd (P := PP) (w := w) (base := base) (ad := adV K) R RI F_isrd b_isrd T O c_law_is_number
  have c_law_making := ok_making (P := PP) (w := w) (base := base) (ad := adV K) F_making b_making T O m_Reader c_law_words
  have c_law_rooming := ok_rooming (P := PP) (w := w) (base := base) (ad := adV K) F_rooming b_rooming T O mt_room c_law_words
  have c_law_finding := ok_finding (P := PP) (w := w) (base := base) (ad := adV K) F_finding b_finding T O mt_contains c_law_words
  have c_law_filling := ok_filling (P := PP) (w := w) (base := base) (ad := adV K) F_filling b_filling T O mt_len st_full st_bare c_law_words
  have c_law_sized := ok_sized (P := PP) (w := w) (base := base) F_sized b_sized T c_law_pick c_law_reader
  have c_law_passed := ok_passed (P := PP) (w := w) (base := base) F_passed b_passed T c_law_pick
  have c_law_spoilt := ok_spoilt (P := PP) (w := w) (base := base) F_spoilt b_spoilt T
  have c_law_ends := ok_ends (P := PP) (w := w) (base := base) (ad := adV K) R F_ends b_ends T O st_full st_bare c_law_is_reader
  have c_law_right := ok_right (P := PP) (w := w) (base := base) (ad := adV K) R F_right b_right T O mt_len mt_room mt_contains c_law_is_number c_law_is_reader c_law_room
  have c_law_equal := ok_equal (P := PP) (w := w) (base := base) (ad := adV K) R RI RQ ne_c F_equal b_equal T O mt_eq m_Reader c_law_pick
  have c_law_wrong_alphabet := ok_wrongal (P := PP) (w := w) (base := base) F_wrongal b_wrongal T c_law_pick
  have c_law_wrong_good := ok_wronggd (P := PP) (w := w) (base := base) F_wronggd b_wronggd T c_law_pick
  have c_law_wrong_text := ok_wrongtx (P := PP) (w := w) (base := base) F_wrongtx b_wrongtx T c_law_pick c_law_letters
  have c_law_wrong_moves := ok_wrongmv (P := PP) (w := w) (base := base) F_wrongmv b_wrongmv T c_law_pick
  have c_law_refused := ok_refused (P := PP) (w := w) (base := base) F_refused b_refused T c_law_pick c_law_wrong_alphabet c_law_wrong_moves c_law_wrong_good c_law_making c_law_filling
  have c_law := ok_law (P := PP) (w := w) (base := base) (ad := adV K) R RI RQ F_law b_law T O c_law_source c_law_alphabet c_law_sized c_law_passed m_Reader c_law_spoilt c_law_word c_law_letters c_law_right mt_eq c_law_equal c_law_ends c_law_refused c_law_wrong_text c_law_rooming c_law_finding
  exact c_law

/-! ### the top, run once -/
abbrev RR : PySem.W.OpenRow := PySem.W.OpenLaw.row PySem.Challenge.rw_vouchedlots_k07_reader_kept
def looseV : List Str := (["__name__", "LotsError", "WrongThing", "BadAlphabet", "BadLetter", "BadNumber", "WrongItem", "BadText", "BadMoves", "BadGood", "BadLots", "BadTexts", "TooMany", "Unlike", "NoName", "SMALL", "TEXT_LETTERS", "is_integer", "is_listed", "is_alphabet", "check_alphabet", "text_fault", "check_text", "MOST_ROOMS", "reached_rooms", "room_classes", "least_table", "joint_table", "checked_moves", "checked_good"] : List Str) ++ (["Reader", "room_of", "good_marks", "reader_of_table", "check_same_letters", "met", "_law_source", "_law_pick", "_law_alphabet", "_law_word", "_law_reader", "_law_room", "_law_is_reader", "_law_is_number", "_law_words", "_law_making", "_law_rooming", "_law_finding", "_law_filling", "_law_letters", "_law_sized", "_law_passed", "_law_spoilt", "_law_right", "_law_equal", "_law_ends", "_law_wrong_alphabet", "_law_wrong_moves", "_law_wrong_good", "_law_wrong_text"] : List Str) ++ (["_law_refused"] : List Str)
abbrev hkV : PySem.W.Hook := hookV 6 fnV exV
def obV (s : PySem.W.SharedT) : AlV := obsVG 6 fnV exV (HandSHeadRun.getT s)
theorem obV_eq (s : PySem.W.SharedT) : obV s = hkV.obs s.abs := obsVG_eq (HandSHeadRun.getT_eq s)
theorem runV (w : World) : HandSHeadRun.RunEq RR (PySem.W.view RR.prog [65]) hkV obV 6000 looseV w := by
  intro os
  kernel_rfl

end Vl
open PySem PySem.W PySem.Calls PyProof.Rows
set_option maxRecDepth 100000 in
set_option maxHeartbeats 8000000 in
theorem PySem.Challenge.cw_vouchedlots_k07_reader_kept_holds : PySem.Challenge.rw_vouchedlots_k07_reader_kept.Holds := by
  w_on; o_law
  refine HandSHeadRun.head_any (r := Vl.RR) (q := view Vl.RR.prog [65]) (H := Vl.hkV) (ob := Vl.obV) (M := 6000) (loose := Vl.looseV) (d := HandSHeadRun.topDef Vl.RR.prog 65) (kwd := []) Vl.obV_eq (by kernel_rfl) (fun s => by kernel_rfl) Vl.runV
    (by kernel_rfl) (by kernel_rfl) (by kernel_rfl) (by rfl) (by first | assumption | decide +kernel) (by decide +kernel) ⟨rfl, rfl, rfl, rfl, rfl, by decide +kernel⟩ ?hw ?hc
  case hw => w_witness2
  case hc =>
    refine Vl.walk_of_promise (Z := Vl.Gd) (l := PySem.Challenge.rw_vouchedlots_k07_reader_kept) (n := 63) (k := 8) (x := "law") rfl rfl (by decide) (by kernel_rfl) ⟨rfl, by decide, by decide⟩ ?F
    intro w mg fa h Y G hmg0
    obtain ⟨K, KX, c⟩ := Y
    have hmg : mg ("law" : PySem.Str) = some (.ref fa) := by
      have e : (HandSHeadRun.topDef Vl.RR.prog 65).name = ("law" : PySem.Str) := by kernel_rfl
      rw [← e]
      exact hmg0
    obtain ⟨_, hF⟩ := Vl.law_at (w := w) KX G c
    exact ⟨K, Vl.spLaw K, KX, hmg, fun H a ns hl hb hS => ⟨a, ns, rfl, hS, hb, fun _ => rfl⟩, fun base _ _ => hF base⟩
#print axioms PySem.Challenge.cw_vouchedlots_k07_reader_kept_holds
