import PyProof.Rows.All
import Wide.All
import OpenK.AllK
import Wide.FinOn
import HandS.ForMost
import HandS.Codes
import HandS.Wide
import HandS.WideBits
import HandS.IsInst
import HandS.EndBits
import HandS.TupAny
import HandS.ExcOwn
import HandS.ExcCtx
import HandS.ExcInit
import HandS.ExcIs
import HandS.ExcField
import HandS.HotCalls
import HandS.RaiseMore
import HandS.FStr
import HandS.OwnEq
import HandS.Walk
import KE.KExcSuper
import KE.KSuper
import KE.KOpsOwn
import KE.KExcIs
import KE.GoesEnum
import HandS.Replace
import PyProof.Rows.StrLawsPart
import OpenK.KMeth
import OpenK.KOps
import OpenK.KWalk
import PyProof.InstEq
import HandS.ClsMeth
import HandS.TryOnly
import KE.KStateDown
import HandS.Head0
import HandS.Head1
import HandS.Head2
import HandS.HeadHook1
import HandS.HeadHook2
import HandS.TupLen
import KE.KDictDisplayH
import KE.KeyNested
import KE.KDictKeyed
import HandS.Zip
import HandS.Deep
import HandS.More
import PySem.Challenge.RW_vouchedlots_k09_whole_joins
set_option Elab.async false
set_option linter.all false
set_option maxRecDepth 100000
set_option maxHeartbeats 4000000
namespace Vl
open PySem L2

/-! ## What the laws' texts share: data, heaps, sources of draws -/
/-- plain data as the laws build it; dct: some dict -/
inductive D where
  | non | bl (b : Bool) | int (i : Int) | str (x : Str) | lst (ds : List D) | tup (ds : List D) | dct
mutual
/-- the value v stands for the datum d, at places outside S -/
inductive Rp (S : List Addr) (H : Hp) : V → D → Prop
  | non : Rp S H .non .non
  | bl (b : Bool) : Rp S H (.bl b) (.bl b)
  | int (i : Int) : Rp S H (.int i) (.int i)
  | str (x : Str) : Rp S H (.str x) (.str x)
  | lst {a : Addr} {xs : List V} {ds : List D} : a ∉ S → H a = some (.lst xs) → Rps S H xs ds → Rp S H (.ref a) (.lst ds)
  | tup {a : Addr} {xs : List V} {ds : List D} : a ∉ S → H a = some (.tup xs) → Rps S H xs ds → Rp S H (.ref a) (.tup ds)
  | dct {a : Addr} {kvs : List (Key × V)} : a ∉ S → H a = some (.dK kvs) → Rp S H (.ref a) .dct
inductive Rps (S : List Addr) (H : Hp) : List V → List D → Prop
  | nil : Rps S H [] []
  | cons {v : V} {vs : List V} {d : D} {ds : List D} : Rp S H v d → Rps S H vs ds → Rps S H (v :: vs) (d :: ds)
end
/-- outside S all stands as it stood -/
def Keep (S : List Addr) (H H' : Hp) : Prop := ∀ b o, b ∉ S → H b = some o → H' b = some o
theorem Keep.refl (S : List Addr) (H : Hp) : Keep S H H := fun _ _ _ e => e
theorem Keep.trans {S : List Addr} {H H1 H2 : Hp} (a : Keep S H H1) (b : Keep S H1 H2) : Keep S H H2 := fun c o h e => b c o h (a c o h e)
theorem Keep.new {S : List Addr} {H : Hp} {p : Addr} {o : HO} (h : H p = none) : Keep S H (upd H p o) := fun b u _ e => by
  rw [upd_ne (ne_of_none e h)]
  exact e
mutual
theorem Rp.keep {S : List Addr} {H H' : Hp} (k : Keep S H H') : ∀ {v : V} {d : D}, Rp S H v d → Rp S H' v d
  | _, _, .non => .non
  | _, _, .bl b => .bl b
  | _, _, .int i => .int i
  | _, _, .str x => .str x
  | _, _, .lst n e r => .lst n (k _ _ n e) (Rps.keep k r)
  | _, _, .tup n e r => .tup n (k _ _ n e) (Rps.keep k r)
  | _, _, .dct n e => .dct n (k _ _ n e)
theorem Rps.keep {S : List Addr} {H H' : Hp} (k : Keep S H H') : ∀ {vs : List V} {ds : List D}, Rps S H vs ds → Rps S H' vs ds
  | _, _, .nil => .nil
  | _, _, .cons r t => .cons (Rp.keep k r) (Rps.keep k t)
end
theorem Rps.len {S : List Addr} {H : Hp} : ∀ {vs : List V} {ds : List D}, Rps S H vs ds → vs.length = ds.length
  | _, _, .nil => rfl
  | _, _, .cons _ t => congrArg (· + 1) (Rps.len t)
theorem Rps.get {S : List Addr} {H : Hp} : ∀ {vs : List V} {ds : List D} {i : Nat} {d : D}, Rps S H vs ds → ds[i]? = some d → ∃ v, vs[i]? = some v ∧ Rp S H v d
  | _, _, _, _, .nil, e => by simp at e
  | _, _, 0, d, .cons r _, e => by
    simp at e
    subst e
    exact ⟨_, rfl, r⟩
  | _, _, i + 1, d, .cons _ t, e => Rps.get (i := i) t (by simpa using e)
theorem Rps.getV {S : List Addr} {H : Hp} : ∀ {vs : List V} {ds : List D} {i : Nat} {v : V}, Rps S H vs ds → vs[i]? = some v → ∃ d, ds[i]? = some d ∧ Rp S H v d
  | _, _, _, _, .nil, e => by simp at e
  | _, _, 0, d, .cons r _, e => by
    simp at e
    subst e
    exact ⟨_, rfl, r⟩
  | _, _, i + 1, d, .cons _ t, e => Rps.getV (i := i) t (by simpa using e)
theorem Rps.snoc {S : List Addr} {H : Hp} {v : V} {d : D} (r : Rp S H v d) : ∀ {vs : List V} {ds : List D}, Rps S H vs ds → Rps S H (vs ++ [v]) (ds ++ [d])
  | _, _, .nil => .cons r .nil
  | _, _, .cons q t => .cons q (Rps.snoc r t)
theorem Rps.app {S : List Addr} {H : Hp} : ∀ {vs ws : List V} {ds es : List D}, Rps S H vs ds → Rps S H ws es → Rps S H (vs ++ ws) (ds ++ es)
  | _, _, _, _, .nil, s => s
  | _, _, _, _, .cons r t, s => .cons r (Rps.app t s)
theorem Rps.ints {S : List Addr} {H : Hp} : ∀ ns : List Int, Rps S H (ns.map V.int) (ns.map D.int)
  | [] => .nil
  | _ :: r => .cons (.int _) (Rps.ints r)
theorem Rps.ints_eq {S : List Addr} {H : Hp} : ∀ {vs : List V} {ns : List Int}, Rps S H vs (ns.map D.int) → vs = ns.map V.int
  | _, [], .nil => rfl
  | _, n :: r, .cons (.int _) t => by rw [Rps.ints_eq t]; rfl
theorem Rps.strs_eq {S : List Addr} {H : Hp} : ∀ {vs : List V} {l : List Str}, Rps S H vs (l.map D.str) → vs = l.map V.str
  | _, [], .nil => rfl
  | _, n :: r, .cons (.str _) t => by rw [Rps.strs_eq t]; rfl
/-- a word that the reading's steps don't open -/
def Iv (p : Prop) : Prop := True → p
theorem Iv.of {p : Prop} (h : p) : Iv p := fun _ => h
theorem Iv.get {p : Prop} (h : Iv p) : p := h trivial
/-! a source of draws -/
/-- at a stands a source: digits left, seed, count -/
def Src (H : Hp) (a : Addr) : Prop := ∃ x s c : Int, H a = some (.lst [.int x, .int s, .int c])
/-- the sources stand at A; S: A and other places that are taken -/
structure Wd (A S : List Addr) (H : Hp) : Prop where
  sub : ∀ a ∈ A, a ∈ S
  src : ∀ a ∈ A, Src H a
  ex : ∀ a ∈ S, ∃ o, H a = some o
/-- the way from H to H': the sources at A may have been drawn from, new things may have come -/
structure Go (A : List Addr) (H H' : Hp) : Prop where
  keep : Keep A H H'
  src : (∀ a ∈ A, Src H a) → ∀ a ∈ A, Src H' a
theorem Wd.fresh {A S : List Addr} {H : Hp} (s : Wd A S H) {p : Addr} (h : H p = none) : p ∉ S := fun hm => by
  obtain ⟨o, e⟩ := s.ex p hm
  rw [h] at e
  cases e
theorem Wd.add {A S : List Addr} {H : Hp} (s : Wd A S H) {p : Addr} {o : HO} (h : H p = some o) : Wd A (p :: S) H :=
  ⟨fun a ha => List.mem_cons_of_mem _ (s.sub a ha), s.src, fun a ha => by
    rcases List.mem_cons.mp ha with e | ha
    · rw [e]; exact ⟨o, h⟩
    · exact s.ex a ha⟩
theorem Wd.less {A S T : List Addr} {H : Hp} (s : Wd A S H) (h1 : ∀ a ∈ A, a ∈ T) (h2 : ∀ a ∈ T, a ∈ S) : Wd A T H := ⟨h1, s.src, fun a ha => s.ex a (h2 a ha)⟩
theorem Go.refl (A : List Addr) (H : Hp) : Go A H H := ⟨Keep.refl A H, fun h => h⟩
theorem Go.trans {A : List Addr} {H H1 H2 : Hp} (a : Go A H H1) (b : Go A H1 H2) : Go A H H2 := ⟨a.keep.trans b.keep, fun h => b.src (a.src h)⟩
theorem Go.same {A : List Addr} {H H' : Hp} (e : Same H H') : Go A H H' := ⟨fun b o _ h => e b o h, fun h a ha => by
  obtain ⟨x, s, c, q⟩ := h a ha
  exact ⟨x, s, c, e _ _ q⟩⟩
theorem Same.new {H : Hp} {p : Addr} {o : HO} (h : H p = none) : Same H (upd H p o) := fun b u e => by
  rw [upd_ne (ne_of_none e h)]
  exact e
theorem Go.new {A : List Addr} {H : Hp} {p : Addr} {o : HO} (h : H p = none) : Go A H (upd H p o) := Go.same (Same.new h)
theorem Wd.go {A S : List Addr} {H H' : Hp} (s : Wd A S H) (g : Go A H H') : Wd A S H' := ⟨s.sub, g.src s.src, fun a ha => by
  by_cases hm : a ∈ A
  · obtain ⟨x, sd, c, q⟩ := g.src s.src a hm
    exact ⟨_, q⟩
  · obtain ⟨o, e⟩ := s.ex a ha
    exact ⟨o, g.keep a o hm e⟩⟩
theorem Keep.mono {A S : List Addr} {H H' : Hp} (k : Keep A H H') (h : ∀ a ∈ A, a ∈ S) : Keep S H H' := fun b o hb e => k b o (fun q => hb (h b q)) e
theorem Rp.go {A S : List Addr} {H H' : Hp} {v : V} {d : D} (r : Rp S H v d) (s : Wd A S H) (g : Go A H H') : Rp S H' v d := r.keep (g.keep.mono s.sub)
theorem Rps.go {A S : List Addr} {H H' : Hp} {v : List V} {d : List D} (r : Rps S H v d) (s : Wd A S H) (g : Go A H H') : Rps S H' v d := r.keep (g.keep.mono s.sub)
theorem Keep.upd {S : List Addr} {H : Hp} {p : Addr} {o : HO} (h : p ∈ S) : Keep S H (upd H p o) := fun b u hb e => by
  rw [upd_ne (fun q : b = p => hb (by rw [q]; exact h))]
  exact e
mutual
theorem Rp.less {S T : List Addr} {H : Hp} (h : ∀ a ∈ S, a ∈ T) : ∀ {v : V} {d : D}, Rp T H v d → Rp S H v d
  | _, _, .non => .non
  | _, _, .bl b => .bl b
  | _, _, .int i => .int i
  | _, _, .str x => .str x
  | _, _, .lst n e r => .lst (fun q => n (h _ q)) e (Rps.less h r)
  | _, _, .tup n e r => .tup (fun q => n (h _ q)) e (Rps.less h r)
  | _, _, .dct n e => .dct (fun q => n (h _ q)) e
theorem Rps.less {S T : List Addr} {H : Hp} (h : ∀ a ∈ S, a ∈ T) : ∀ {vs : List V} {ds : List D}, Rps T H vs ds → Rps S H vs ds
  | _, _, .nil => .nil
  | _, _, .cons r t => .cons (Rp.less h r) (Rps.less h t)
end
mutual
/-- places that were not taken yet may be left out, too -/
theorem Rp.more {S T : List Addr} {H : Hp} (h : ∀ a ∈ T, a ∈ S ∨ H a = none) : ∀ {v : V} {d : D}, Rp S H v d → Rp T H v d
  | _, _, .non => .non
  | _, _, .bl b => .bl b
  | _, _, .int i => .int i
  | _, _, .str x => .str x
  | _, _, .lst n e r => .lst (fun q => (h _ q).elim n fun z => by rw [e] at z; cases z) e (Rps.more h r)
  | _, _, .tup n e r => .tup (fun q => (h _ q).elim n fun z => by rw [e] at z; cases z) e (Rps.more h r)
  | _, _, .dct n e => .dct (fun q => (h _ q).elim n fun z => by rw [e] at z; cases z) e
theorem Rps.more {S T : List Addr} {H : Hp} (h : ∀ a ∈ T, a ∈ S ∨ H a = none) : ∀ {vs : List V} {ds : List D}, Rps S H vs ds → Rps T H vs ds
  | _, _, .nil => .nil
  | _, _, .cons r t => .cons (Rp.more h r) (Rps.more h t)
end
/-- a draw -/
def spPick : Sp := fun vs H Q _ => ∃ (A : List Addr) (a : Addr) (m : Int), vs = [.ref a, .int m] ∧ a ∈ A ∧ (∀ a ∈ A, Src H a) ∧ 0 < m ∧ m < 2 ^ 30 ∧
  ∀ (r : Int) (H' : Hp), 0 ≤ r → r < m → Go A H H' → Q (.int r) H'
theorem Go.draw {A : List Addr} {H : Hp} {a : Addr} {x s c : Int} (hm : a ∈ A) : Go A H (upd H a (.lst [.int x, .int s, .int c])) where
  keep := Keep.upd hm
  src := fun z b hb => by
    by_cases e : b = a
    · subst e
      exact ⟨x, s, c, upd_same⟩
    · obtain ⟨x, s, c, q⟩ := z b hb
      exact ⟨x, s, c, by rw [upd_ne e]; exact q⟩
/-! a comprehension, its list being made at L: what is made stands for the data ds, of which I tells -/
theorem lc_D {A S : List Addr} {J : It} {n : Nat} {G : Hp → Prop} {Y : Nat → Hp → V → Hp → Prop} {Xp : Nat → V → Prop} {j : Nat} {tt : TT} {te : TE} {vs : List Nat} {σ : L2.St} {H1 : Hp} {L : Addr} {Qd : Hp → Prop}
    (I : Nat → List D → Prop) (w : Walk J n G Y) (hY : ∀ i H x H', i < n → Y i H x H' → H' = H ∧ Xp i x) (W : Wd A S H1) (hD : H1 L = none) (hn : n ≤ 100000)
    (hG : ∀ H, Keep (L :: A) H1 H → G H) (h0 : I 0 []) (hl : ∀ i ds, I i ds → ds.length ≤ i) (hw : ∀ x, wipe ((wipe σ vs).set j (some x)) vs = wipe σ vs)
    (hs : ∀ i ds x H, i < n → I i ds → Xp i x → Wd A (L :: S) H → Keep (L :: A) H1 H → ∀ (Kt : V → Hp → Prop) (Kf : Hp → Prop),
      (∀ y d H', Go A H H' → Rp (L :: S) H' y d → I (i + 1) (ds ++ [d]) → Kt y H') → (∀ H', Go A H H' → I (i + 1) ds → Kf H') →
      tt ((wipe σ vs).set j (some x)) H fun b H3 => if b = true then te ((wipe σ vs).set j (some x)) H3 Kt else Kf H3)
    (hd : ∀ ys ds H, I n ds → Go A H1 H → H L = some (.lst ys) → Rps (L :: S) H ys ds → Qd H) :
    ∃ W : Nat → Nat → Hp → Prop, (∃ m, W 0 m (upd H1 L (.lst []))) ∧ ∀ i m H, W i m H →
      (J.stop i H ∧ Qd H) ∨ (J.go i H ∧ ∃ Nx : Hp → Prop, (∀ H', Nx H' → ∃ m', m' < m ∧ W (i + 1) m' H') ∧ ∀ x H', J.yld i H x H' → gName j x (wipe σ vs) H' fun σ2 H2 => wipe σ2 vs = wipe σ vs ∧ tt σ2 H2 fun b H3 =>
        if b = true then te σ2 H3 fun y H4 => ∃ acc, H4 L = some (.lst acc) ∧ acc.length < sizeLine ∧ Nx (upd H4 L (.lst (acc ++ [y]))) else Nx H3) := by
  have nD : L ∉ S := W.fresh hD
  have nA : L ∉ A := fun q => nD (W.sub L q)
  refine lc_it w (fun i H => ∃ ys ds, I i ds ∧ Keep (L :: A) H1 H ∧ (∀ a ∈ A, Src H a) ∧ H L = some (.lst ys) ∧ Rps (L :: S) H ys ds) ⟨[], [], h0, fun b o hb e => ?_, fun a ha => ?_, upd_same, .nil⟩ (fun i H _ p => ?_) (fun i x H H' hi p y => ?_) (fun H p => ?_)
  · rw [upd_ne (ne_of_none e hD)]
    exact e
  · obtain ⟨x, s, c, q⟩ := W.src a ha
    exact ⟨x, s, c, by rw [upd_ne (ne_of_none q hD)]; exact q⟩
  · obtain ⟨ys, ds, _, k, _⟩ := p
    exact hG H k
  · obtain ⟨e1, hx⟩ := hY i H x H' hi y
    rw [e1]
    clear e1 y
    obtain ⟨ys, ds, hI, k, hsr, hDl, hr⟩ := p
    have W2 : Wd A (L :: S) H := ⟨fun a ha => List.mem_cons_of_mem _ (W.sub a ha), hsr, fun a ha => by
      rcases List.mem_cons.mp ha with e | ha
      · rw [e]; exact ⟨_, hDl⟩
      · by_cases hm : a ∈ A
        · obtain ⟨x, s, c, q⟩ := hsr a hm
          exact ⟨_, q⟩
        · obtain ⟨o, e⟩ := W.ex a ha
          refine ⟨o, k a o (fun q => ?_) e⟩
          rcases List.mem_cons.mp q with q | q
          · rw [q, hD] at e; cases e
          · exact hm q⟩
    refine ⟨hw x, hs i ds x H hi hI hx W2 k _ _ (fun y d H' g r hI' => ?_) (fun H' g hI' => ?_)⟩
    · have e := g.keep L _ nA hDl
      refine ⟨ys, e, ?_, ys ++ [y], ds ++ [d], hI', ?_, ?_, upd_same, ?_⟩
      · have h1 := hr.len
        have h2 := hl i ds hI
        exact Nat.lt_of_lt_of_le (show ys.length < 100001 by omega) (by decide)
      · exact (k.trans (g.keep.mono fun a ha => List.mem_cons_of_mem _ ha)).trans (Keep.upd (List.mem_cons_self ..))
      · intro a ha
        obtain ⟨x, s, c, q⟩ := g.src hsr a ha
        exact ⟨x, s, c, by rw [upd_ne (fun z : a = L => nA (by rw [← z]; exact ha))]; exact q⟩
      · exact (((hr.go W2 g).snoc r)).keep (Keep.upd (List.mem_cons_self ..))
    · exact ⟨ys, ds, hI', k.trans (g.keep.mono fun a ha => List.mem_cons_of_mem _ ha), g.src hsr, g.keep L _ nA hDl, hr.go W2 g⟩
  · obtain ⟨ys, ds, hI, k, hsr, hDl, hr⟩ := p
    refine hd ys ds H hI ⟨fun b o hb e => k b o (fun q => ?_) e, fun _ => hsr⟩ hDl hr
    rcases List.mem_cons.mp q with q | q
    · rw [q, hD] at e; cases e
    · exact hb q
theorem bits_lt {i : Int} {n : Nat} (h : Builtin.Int.intBits i ≤ n) : i.natAbs < 2 ^ n := by
  unfold Builtin.Int.intBits at h
  split at h
  · rename_i e
    have e' : i = 0 := by simpa using e
    subst e'
    exact Nat.two_pow_pos n
  · rename_i e
    have e' : i.natAbs ≠ 0 := by simpa using e
    exact (Nat.log2_lt e').mp (by omega)
theorem shl_part {i : Int} (h0 : 0 ≤ i) (h : Builtin.Int.intBits i ≤ 1048576) (k : Nat) : CShl (i / 2 ^ k) (3000 : Int) := by
  have h1 := bits_lt h
  have h2 : (i / 2 ^ k).natAbs ≤ i.natAbs := by
    have h3 : i / 2 ^ k ≤ i := Int.ediv_le_self _ h0
    have h4 : 0 ≤ i / 2 ^ k := Int.ediv_nonneg h0 (Int.pow_nonneg (by decide))
    omega
  have h5 : (i / 2 ^ k).natAbs < 2 ^ 1048576 := Nat.lt_of_le_of_lt h2 h1
  exact shl_ok (j := 3000) h5 (by decide)

/-! data of one make -/
theorem maps_of {α : Type} {f : α → D} {R : α → Prop} : ∀ {ds : List D}, (∀ d ∈ ds, ∃ x, d = f x ∧ R x) → ∃ xs : List α, ds = xs.map f ∧ ∀ x ∈ xs, R x
  | [], _ => ⟨[], rfl, by simp⟩
  | d :: ds, h => by
    obtain ⟨x, rfl, hx⟩ := h d (List.mem_cons_self ..)
    obtain ⟨xs, rfl, hxs⟩ := maps_of (fun e he => h e (List.mem_cons_of_mem _ he))
    refine ⟨x :: xs, rfl, fun y hy => ?_⟩
    rcases List.mem_cons.mp hy with rfl | hy
    · exact hx
    · exact hxs y hy
def rowD (r : List Int) : D := .lst (r.map .int)
def rowT (r : List Int) : D := .tup (r.map .int)
def mvD (m : List (List Int)) : D := .lst (m.map rowD)
def mvT (m : List (List Int)) : D := .tup (m.map rowT)
/-- a machine over k letters: m its moves, g its good rooms, ascending -/
structure Mach (k : Nat) (m : List (List Int)) (g : List Int) : Prop where
  pos : 1 ≤ m.length
  most : m.length ≤ 60
  row : ∀ r ∈ m, r.length = k ∧ ∀ x ∈ r, 0 ≤ x ∧ x < (m.length : Int)
  asc : g.Pairwise (· < ·)
  inn : ∀ x ∈ g, 0 ≤ x ∧ x < (m.length : Int)
theorem asc_le {n : Nat} : ∀ {g : List Int} {lo : Int}, g.Pairwise (· < ·) → (∀ x ∈ g, lo ≤ x ∧ x < lo + n) → g.length ≤ n
  | [], _, _, _ => Nat.zero_le _
  | x :: r, lo, h, b => by
    have h1 := b x (List.mem_cons_self ..)
    rw [List.pairwise_cons] at h
    obtain ⟨k, hk⟩ : ∃ k : Nat, lo + n - (x + 1) = (k : Int) := ⟨(lo + n - (x + 1)).toNat, by omega⟩
    have ih := asc_le (n := k) (lo := x + 1) h.2 (fun y hy => by
      have h2 := h.1 y hy
      have h3 := b y (List.mem_cons_of_mem _ hy)
      omega)
    rw [List.length_cons]
    omega
theorem Mach.glen {k : Nat} {m : List (List Int)} {g : List Int} (h : Mach k m g) : g.length ≤ 60 := by
  have h1 := asc_le (n := m.length) (lo := 0) h.asc (fun x hx => by have := h.inn x hx; omega)
  have := h.most
  omega
theorem Wd.range {A S : List Addr} {H : Hp} (W : Wd A S H) : ∀ a ∈ A, Src H a := W.src

theorem yes_go {te : TE} {σ : L2.St} {H : Hp} {Kt : V → Hp → Prop} {Kf : Hp → Prop} (h : te σ H Kt) : tYes σ H (fun b H3 => if b = true then te σ H3 Kt else Kf H3) := by
  show (if true = true then te σ H Kt else Kf H)
  rw [if_pos rfl]
  exact h

theorem szl {n : Nat} (h : Nat.ble n 1000 = true) : n ≤ sizeLine := Nat.le_trans (Nat.le_of_ble_eq_true h) (by decide)

/-! ## An own exception over ValueError whose class's __init__ says super().__init__(..), then self.nm = nm -/
namespace SupX
open PySem.W PySem.Calls PyProof.Rows PySem.HandSPX
def supB (arg : Expr) (nm : Str) (p0 p1 p2 p3 p4 q1 q2 q3 q4 : Pos) : List Stmt :=
  [.Expr (.Call (.Attribute (.Call (.Name "super" p0) [] [] p1) "__init__" p2) [arg] [] p3) p4, .Assign [.Attribute (.Name "self" q1) nm q2] (.Name nm q3) q4]
def supA (nm : Str) (p1 p2 : Pos) : Arguments := { posonlyargs := [], args := [{ arg := "self", annotation := none, pos := p1 }, { arg := nm, annotation := none, pos := p2 }], vararg := none, kwonlyargs := [], kw_defaults := [], kwarg := none, defaults := [] }
def supS (nm : Str) : Scope := { kind := .function, names := [(PySem.Str.ofString "self", .local), (nm, .local), (PySem.Str.ofString "__class__", .free), (PySem.Str.ofString "super", .globalImplicit)], isGenerator := false, isCoroutine := false, more := [] }
/-- what the argument of super().__init__ must give: some value, nothing changed -/
def ArgOk (P : Program) (w : World) (nm : Str) (arg : Expr) (ok : Value → Prop) : Prop :=
  (∀ env, starEach [arg] env = [(false, eval arg env)]) ∧ ∀ (A : Around) (E : Value → Shared → Prop) (s : Shared) (env : Env) (m : Str → Option Value) (v : Value) (Q : Value → Shared → Prop), env.scope.kind = .function → env.kindOf nm = some .local →
    s.heap.Ns env.locals m → m nm = some v → ok v → (∀ u t, Q u { s with toks := t }) → wpAny (model P w) A (eval arg env) Q E s
/-- what the written part says of the class at C, whose __init__ is that of the class at D -/
structure SupTxt (P : Program) (w : World) (K : Frag) (mg : Str → Option Value) (C D fI : Addr) (nm : Str) (arg : Expr) (ok : Value → Prop) : Prop where
  cls : ∃ nm q N bs bm sn sub ab col dd k0 k1 k2 k3 k5, K.lookup C = some (excClassObj nm q C N bs bm true sn sub ab col dd k0 k1 k2 k3 k5 "ValueError.__new__") ∧ refsVE bm = true
  sa : findIn K (.ref C) "__setattr__" = some (some (.builtin "object.__setattr__"))
  noN : findIn K (.ref C) nm = some none
  iC : findIn K (.ref C) "__init__" = some (some (.ref fI))
  tI : typeIn K (.ref fI) = some (.type "function")
  kC : keepIn K (.ref C) = true
  exC : subIn K (.ref C) (.type "BaseException") = some true
  tyC : typeIn K (.ref C) = some (.type "type")
  sub : mroIn K C (.ref D) = some true
  sup : ks_superIn K C D "__init__" = some (some (.builtin "ValueError.__init__"))
  tV : subIn K (.ref C) (.type "ValueError") = some true
  any : nsIn K cStatics "thirdparty.any" = some none
  sg : mg "super" = none
  dD : (clsIn K D).isSome = true
  top : (P.main.scope.names.lookup ("super" : Str)).isSome = false
  ns1 : (("self" : Str) == nm) = false
  ns2 : (nm == ("self" : Str)) = false
  kn : (supS nm).names.lookup nm = some .local
  ks : (supS nm).names.lookup ("super" : Str) = some .globalImplicit
  kc : (supS nm).names.lookup ("__class__" : Str) = some .free
  db : (nm == ("__debug__" : Str)) = false
  hA : ArgOk P w nm arg ok
  bd : ∀ (qual : Str) (p5 p6 : Pos) (body : List Stmt) (kV doc pm : Value) (an : Option Addr) (cdv ct : Value) (cc : Addr) (a b : Value),
    bindArgs (ksFn "__init__" qual (supA nm p5 p6) body (supS nm) .none kV doc pm an cdv ct cc) ⟨[a, b], []⟩ = pure [(PySem.Str.ofString "self", a), (nm, b)]
  fn : ∃ (oc : Value) (od : Option Addr) (qual : Str) (kV doc pm : Value) (an : Option Addr) (cda cc : Addr) (ct : Value) (osl : Array (Option Value)) (p0 p1 p2 p3 p4 p5 p6 q1 q2 q3 q4 : Pos)
    (vs : Array Value) (file : Str) (tf : Tok) (ccl cl : Value) (cdd cld : Option Addr) (ccs csl : Array (Option Value)),
    K.lookup fI = some ⟨oc, od, .func (ksFn "__init__" qual (supA nm p5 p6) (supB arg nm p0 p1 p2 p3 p4 q1 q2 q3 q4) (supS nm) .none kV doc pm an (.ref cda) ct cc), osl⟩ ∧ codeIn K (.ref cda) qual = true ∧
    K.lookup cda = some ⟨ccl, cdd, .fields vs, ccs⟩ ∧ vs[2]? = some (.str file tf) ∧ ((P.main.file : Str) == file) = true ∧ K.lookup cc = some ⟨cl, cld, .cell (some (.ref D)), csl⟩ ∧
    ∀ env : Env, ∃ pl : Sem Bool, eval (.Call (.Attribute (.Call (.Name "super" p0) [] [] p1) "__init__" p2) [arg] [] p3) env = (do
      let ov ← attributeBase (.Call (.Name "super" p0) [] [] p1) "__init__" env (eval (.Call (.Name "super" p0) [] [] p1) env)
      standAt p2.atName
      let (f, first) ← holding [ov] (getMethod ov "__init__" pl)
      callWith p3 f first (backTo p3 (starEach [arg] env)) [])
structure InitEnd (h h' : Heap) (x C dx t1 : Addr) (nm : Str) (v : Value) : Prop where
  keep : ∀ b o, b ≠ x → h.get? b = some o → h'.get? b = some o
  obj : h'.get? x = some { cls := .ref C, dict := some dx, data := .fields #[.ref t1, .none, .none, .none, .bool false, .none] }
  dbig : h.objs.size ≤ dx
  dne : dx ≠ x
  ns : h'.Ns1 dx (fun y => if y = nm then some v else none)
structure OwnMade (h h' : Heap) (e C d : Addr) (nm : Str) (v : Value) : Prop where
  keep : ∀ b o, h.get? b = some o → h'.get? b = some o
  new : h.objs.size ≤ e
  obj : ∃ t1 : Addr, h'.get? e = some { cls := .ref C, dict := some d, data := .fields #[.ref t1, .none, .none, .none, .bool false, .none] }
  dbig : h.objs.size ≤ d
  dne : d ≠ e
  ns : h'.Ns1 d (fun y => if y = nm then some v else none)
theorem one_size (v : Value) : [v].length ≤ sizeLine := by
  rw [sizeLine_eq]
  exact (by decide : 1 ≤ 16777216)
section
variable {P : Program} {w : World} {A : Around} {E : Value → Shared → Prop} {h : Heap} {g : Array GenState} {d : Drawn} {t : Nat} {os : OsState}
/-- the bound ValueError.__init__ at u, called -/
theorem call_mw {nm q : Str} {C N : Addr} {bs bm : List Value} {hdct : Bool} {sn : List Str} {sub : List Value} {ab : Bool} {col : Option Bool} {dd : Option Addr} {k0 k1 k2 k3 k5 : Option Value} {u e t0 : Addr} {rest : List Value} {Q : Value → Shared → Prop}
    (hC : h.get? C = some (excClassObj nm q C N bs bm hdct sn sub ab col dd k0 k1 k2 k3 k5 "ValueError.__new__")) (he : h.get? e = some (excO C t0)) (hu : h.get? u = some (kxs_mw "ValueError.__init__" e)) (hrest : rest.length ≤ sizeLine)
    (hq : ∀ h' t1, (∀ b o, b ≠ e → h.get? b = some o → h'.get? b = some o) → h'.get? e = some (excO C t1) → Q .none ⟨h', g, d, t, os⟩) :
    wpAny (model P w) A (call (.ref u) rest) Q E ⟨h, g, d, t, os⟩ := by
  refine wpAny_call (codeAny_of_tree ?_)
  show wpAny _ A.in1 (callAny (.ref u) ⟨rest, []⟩) _ _ _
  simp only [callAny]
  refine wpAny_bind (wpAny_load hu ?_)
  simp only [kxs_mw, show (Value.type "method-wrapper" == Value.type "method" || Value.type "method-wrapper" == Value.type "builtin_function_or_method" || Value.type "method-wrapper" == Value.type "method-wrapper") = true by decide, if_true]
  refine KFB.if_so (by decide) ?_
  refine wpAny_bind (check_bound_init F.excBase_ValueError.toExcCallFacts hC he rfl ?_)
  refine wpAny_bind (wpAny_pure (wpAny_pure ?_))
  refine ⟨plainId_quiet F.excBase_ValueError.init.plain _, codeAny_builtin F.excBase_ValueError.initEntry ?_⟩
  exact exc_init_tree (cls := .ref C) (t0 := t0) (dv := none) (c2 := .none) (c3 := .none) (b4 := .bool false) he hrest (fun h' k e' _ => hq h' _ k e')
end
section
variable {P : Program} {w : World} {A : Around} {R : Result → Shared → Prop} {s : Shared} {K : Frag} {mg : Str → Option Value} {C D fI : Addr} {nm : Str} {arg : Expr} {ok : Value → Prop}
theorem sup_init (T : SupTxt P w K mg C D fI nm arg ok) {x t0 : Addr} {v : Value} (X : K.In s.heap) (hlim : s.heap.NoLimit) (G : s.heap.Ns mainGlobals mg) (B : ∃ mb, s.heap.Ns builtinsNs mb ∧ ∀ x : Str, x ≠ "__name__" → mb x = bootBuiltins x)
    (hx : s.heap.get? x = some (excO C t0)) (hnx : K.lookup x = none) (hroom : A.depth < recursionLimit) (hv : ok v)
    (hq : ∀ h' tk dx t1, InitEnd s.heap h' x C dx t1 nm v → R (.ok (.ret .none)) { s with heap := h', toks := tk }) :
    codeAny (model P w) A (.call (.ref fI) ⟨[.ref x, v], []⟩) R s := by
  obtain ⟨oc, od, qual, kV, doc, pm, an, cda, cc, ct, osl, p0, p1, p2, p3, p4, p5, p6, q1, q2, q3, q4, vs, file, tf, ccl, cl, cdd, cld, ccs, csl, ho, hcd, hcda, hvs, hfile, hcc, hev'⟩ := T.fn
  obtain ⟨nmc, q, N, bs, bm, sn, sub, ab, col, dd, k0, k1, k2, k3, k5, hC, hbm⟩ := T.cls
  have hcl : clsIn K C = some { name := nmc, bases := bs, mro := .ref C :: bm, ns := N, qualname := q, hasDict := true, slotNames := sn, subclasses := sub, abstract := ab, collection := col, hasDel := false } := by unfold clsIn; rw [hC] <;> rfl
  obtain ⟨cdD, hD⟩ := Option.isSome_iff_exists.mp T.dD
  refine ks_codeAny_call_defAt (fd := ksFn "__init__" qual (supA nm p5 p6) (supB arg nm p0 p1 p2 p3 p4 q1 q2 q3 q4) (supS nm) .none kV doc pm an (.ref cda) ct cc) (body := supB arg nm p0 p1 p2 p3 p4 q1 q2 q3 q4) (binds := [("self", .ref x), (nm, v)])
    hroom (X _ _ ho) rfl hlim (codeRec_of X hcd) rfl (BindsTo.of_eq (T.bd ..)) ?cell ?loc ?body
  case cell =>
    intro y hy
    rcases List.mem_cons.mp hy with rfl | hy
    · decide
    rcases List.mem_cons.mp hy with rfl | hy
    · exact fun z => by cases z
    rcases List.mem_cons.mp hy with rfl | hy
    · decide
    rcases List.mem_cons.mp hy with rfl | hy
    · decide
    · cases hy
  case loc =>
    intro y hy
    rcases List.mem_cons.mp hy with rfl | hy
    · rfl
    rcases List.mem_cons.mp hy with rfl | hy
    · exact T.kn
    · cases hy
  case body =>
    intro h₁ hn k
    have X₁ : K.In h₁ := X.keeps k
    have hx₁ := k _ _ hx
    obtain ⟨mb, hB, hB2⟩ := B
    have m1 : ([((PySem.Str.ofString "self" : Str), Value.ref x), (nm, v)] : List (Str × Value)).reverse.lookup (PySem.Str.ofString "self") = some (.ref x) := by
      show (match (PySem.Str.ofString "self" : Str) == nm with | true => some v | false => some (Value.ref x)) = _
      rw [show ((PySem.Str.ofString "self" : Str) == nm) = false from T.ns1]
    have m2 : ([((PySem.Str.ofString "self" : Str), Value.ref x), (nm, v)] : List (Str × Value)).reverse.lookup nm = some v := by
      show (match nm == nm with | true => some v | false => _) = _
      rw [show (nm == nm) = true from beq_self_eq_true nm]
    obtain ⟨oD, hD1, hD2⟩ : ∃ oD, h₁.get? D = some oD ∧ oD.data = .cls cdD := by
      unfold clsIn at hD
      split at hD
      · rename_i c d cd' sl ho
        cases hD
        exact ⟨_, X₁ _ _ ho, rfl⟩
      · cases hD
    have hsup := T.sup
    unfold ks_superIn at hsup
    rw [hcl] at hsup
    have xC : x ≠ C := by
      rintro rfl
      have z := (X _ _ hC).symm.trans hx
      cases z
    obtain ⟨pl, hev⟩ := hev' (ksEnv qual (supS nm) s.heap.objs.size fI (.ref cda) cc)
    refine ks_wpAt_execs_cons (ks_wpAt_Expr_any (ks_wpAt_MethodCall (pl := pl) ?_ hev))
    refine ks_wpAt_super_base (env := ksEnv qual (supS nm) s.heap.objs.size fI (.ref cda) cc) T.ks T.kc rfl rfl (X₁ _ _ ho) rfl rfl rfl (X₁ _ _ hcda) rfl hvs hfile T.top ?_
    refine ks_loadName_global rfl T.ks (loadGlobal_builtin (env := ksEnv qual (supS nm) s.heap.objs.size fI (.ref cda) cc) (G.keeps k) T.sg (hB.keeps k) ((hB2 _ (by decide)).trans (by decide +kernel)) ⟨rfl, ?_⟩)
    refine wpAny_loadName_free rfl T.kc rfl ⟨_, X₁ _ _ hcc, rfl⟩ ?_
    refine wpAny_loadName_local rfl rfl hn m1 ?_
    refine ks_wpAny_isType_cls hD1 hD2 ⟨rfl, ?_⟩
    have I₁ : InstAt h₁ x (excO C t0) C none := ⟨hx₁, rfl, rfl, trivial⟩
    refine ks_wpAny_call_super hD1 hD2 hx₁ rfl (fun c e => by cases e) (looks_mroIn X₁ T.sub) (fun h₂ e₂ k₂ => ?_)
    have X₂ : K.In h₂ := X₁.keeps k₂
    have I₂ : InstAt h₂ x (excO C t0) C none := ⟨k₂ _ _ hx₁, rfl, rfl, trivial⟩
    refine kxs_getMethod kxs_ValueError e₂ (looks_opaque X₂ T.any) (l₀ := .ref C :: bm) ((looks_clsIn X₂ hcl).andThen .now) rfl X₂ hsup (I₂.type.andThen (looks_subIn X₂ T.tV)) xC rfl ?_
    have k₃ : ∀ b o, h₂.get? b = some o → (h₂.push (kxs_mw "ValueError.__init__" x)).get? b = some o := fun b o e => Heap.get?_push_of_some _ e
    have kk : ∀ b o, h₁.get? b = some o → (h₂.push (kxs_mw "ValueError.__init__" x)).get? b = some o := fun b o e => k₃ b o (k₂ b o e)
    have hu : (h₂.push (kxs_mw "ValueError.__init__" x)).get? h₂.objs.size = some (kxs_mw "ValueError.__init__" x) := Heap.get?_push_at rfl rfl
    have X₃ : K.In (h₂.push (kxs_mw "ValueError.__init__" x)) := X₁.keeps kk
    show wpAny _ _ (callWith p3 (.ref h₂.objs.size) [] (backTo p3 (starEach [arg] _)) []) _ _ _
    rw [T.hA.1]
    refine kxs_callWith (i := "ValueError.__init__") (x := x) rfl (evalArgs_plain (Calls.spliced_cons ?_))
    refine T.hA.2 _ _ _ _ _ v _ rfl T.kn (hn.keeps kk) m2 hv (fun u t => ?_)
    refine Calls.spliced_nil ⟨hu, ?_⟩
    refine call_mw (X₃ _ _ hC) (kk _ _ hx₁) hu (one_size u) (fun h₄ t4 k₄ hx₄ => ?_)
    have X₄ : K.In h₄ := fun b o e => k₄ b o (fun z => by rw [z, hnx] at e; cases e) (X₃ b o e)
    have hxL : s.heap.objs.size ≠ x := Nat.ne_of_gt (Heap.lt_size hx)
    have hn₄ : h₄.Ns s.heap.objs.size (fun y => ([((PySem.Str.ofString "self" : Str), Value.ref x), (nm, v)] : List (Str × Value)).reverse.lookup y) := by
      obtain ⟨oL, es, ep, hL, r⟩ := hn
      exact ⟨oL, es, ep, k₄ _ _ hxL (kk _ _ hL), r⟩
    have sz : s.heap.objs.size < h₄.objs.size := hn₄.lt
    -- self.nm = nm
    refine wpAt_of_wpAny (wpAny_execs_cons (plainObj_wpAny_Assign_Attribute ?_))
    refine wpAny_Name (wpAny_loadName_local rfl T.kn hn₄ m2 ?_) T.db
    refine wpAny_Name (wpAny_loadName_local rfl rfl hn₄ m1 ?_) (by decide)
    refine set_plain X₄ (ox := excO C t4) (od := none) ⟨hx₄, rfl, rfl, trivial⟩ T.sa ?_
    refine exc_osa X₄ hx₄ hcl (show refsVE (.ref C :: bm) = true from hbm) rfl T.noN (fun h₅ tk₅ dx k₅ dn dne hx₅ hn₅ => ?_)
    show wpAny _ _ (execs _ _) _ _ _
    exact wpAny_execs_nil (hq h₅ tk₅ dx t4 ⟨fun b o hb e => k₅ b o hb (k₄ b o hb (kk b o (k b o e))), hx₅, Nat.le_of_lt (Nat.lt_of_lt_of_le sz dn), dne, hn₅⟩)
theorem sup_made (T : SupTxt P w K mg C D fI nm arg ok) {v : Value} (X : K.In s.heap) (hlim : s.heap.NoLimit) (G : s.heap.Ns mainGlobals mg) (B : ∃ mb, s.heap.Ns builtinsNs mb ∧ ∀ x : Str, x ≠ "__name__" → mb x = bootBuiltins x) (hroom : A.depth + 1 < recursionLimit) (hv : ok v)
    (hq : ∀ h' tk e d, OwnMade s.heap h' e C d nm v → R (.ok (.ret (.ref e))) { s with heap := h', toks := tk }) :
    codeAny (model P w) A (.call (.ref C) ⟨[v], []⟩) R s := by
  obtain ⟨nmc, q, N, bs, bm, sn, sub, ab, col, dd, k0, k1, k2, k3, k5, hC, hbm⟩ := T.cls
  obtain ⟨hp, g, dr, tk, os⟩ := s
  have k : ∀ b o, hp.get? b = some o → ((hp.push (kdv_tup [v])).push (excO C hp.objs.size)).get? b = some o := fun b o e => Heap.get?_push_of_some _ (Heap.get?_push_of_some _ e)
  have hget : ((hp.push (kdv_tup [v])).push (excO C hp.objs.size)).get? (hp.objs.size + 1) = some (excO C hp.objs.size) := by heap_get
  have hnx : K.lookup (hp.objs.size + 1) = none := by
    cases e : K.lookup (hp.objs.size + 1) with
    | none => rfl
    | some o =>
      have z : hp.get? (hp.objs.size + 1) = some o := X _ _ e
      exact absurd (Nat.lt_of_succ_lt (Heap.lt_size z)) (Nat.lt_irrefl _)
  obtain ⟨mb, hB, hB2⟩ := B
  refine call_own F.excBase_ValueError (fun X => refsVE_contains X bm hbm) (X _ _ hC) (looks_findIn X T.iC) (fun self => bind_fn X self T.tI) (one_size v) ?_
  refine sup_init (s := ⟨(hp.push (kdv_tup [v])).push (excO C hp.objs.size), g, dr, tk, os⟩) T (X.keeps k) (hlim.keeps k) (G.keeps k) ⟨mb, hB.keeps k, hB2⟩ hget hnx ?_ hv fun h' tk' dx t1 ⟨k', hx, dn, dne, hns⟩ => ?_
  · show A.depth + 1 < recursionLimit
    exact hroom
  · have old : ∀ b o, hp.get? b = some o → h'.get? b = some o := fun b o e => k' b o (Nat.ne_of_lt (Nat.lt_succ_of_lt (Heap.lt_size e))) (k b o e)
    have z : hp.objs.size + 1 + 1 ≤ dx := by
      first
        | (simpa only [Heap.size_push] using dn)
        | exact dn
        | (have q := dn; rw [Heap.size_push, Heap.size_push] at q; exact q)
    exact ⟨rfl, hq h' tk' (hp.objs.size + 1) dx ⟨old, Nat.le_succ _, ⟨_, hx⟩, Nat.le_trans (Nat.le_trans (Nat.le_succ _) (Nat.le_succ _)) z, dne, hns⟩⟩
end
end SupX
/-- C(e), its one field nm kept -/
def tMkSup (C : Addr) (nm : Str) (okV : V → Prop) (ta : TA) : L2.St → Hp → XK → Prop := fun σ H Q => ta σ H fun vs H1 => ∃ v, vs = [v] ∧ okV v ∧ ∀ d, H1 d = none → Q (.ref C) (some d) (upd H1 d (.xd [(nm, v)]))
theorem relO_one {v : V} {v' : Value} {nm : Str} (r : RelV v v') (f : Str) : RelO (List.lookup f [(nm, v)]) (if f = nm then some v' else none) := by
  by_cases hw : f = nm
  · subst hw
    rw [if_pos rfl]
    have q : List.lookup f [(f, v)] = some v := by simp [List.lookup]
    rw [q]
    exact r
  · rw [if_neg hw]
    have qw : (f == nm) = false := by simpa using hw
    have q2 : List.lookup f [(nm, v)] = none := by simp [List.lookup, qw]
    rw [q2]
    trivial
section
open PyProof.Rows
variable {X : Cx} {C D fI : Addr} {nm : Str} {arg : Expr} {ok : Value → Prop} {okV : V → Prop}
theorem pmk_sup {x : Str} {a : Expr} {ta : TA} {p pos : Pos} {k : Nat} (T : SupX.SupTxt X.prog X.w X.K X.mg C D fI nm arg ok) (hok : ∀ v u, RelV v u → okV v → ok u) (hr : Room k X.A) (gC : X.mg x = some (.ref C)) (ha : PA X [a] ta) (hg : Gl X x := by rfl) (hdb : (x == ("__debug__" : Str)) = false := by decide)
    (he : starEach (a :: []) X.env = (false, eval a X.env) :: starEach [] X.env := by rfl) (hpl : (backTo pos (starEach [] X.env)).any (·.1) = false := by rfl) :
    L2N.PMk X (.Call (.Name x p) [a] [] pos) (tMkSup C nm okV ta) := by
  intro pins s σ H Q I h
  refine wpAny_Call_Name_kw (ld_glob I hg gC ?_ hdb)
  refine PySem.W.callWith_K (h₀ := X.base) I.ok.mod.kin T.kC (thn (ha.run pos pins s σ H _ I h) fun us s1 hh => ?_) he hpl
  obtain ⟨vs, H1, I1, r1, v, ev, hov, q1⟩ := hh
  subst ev
  refine ⟨I1.kIn, ?_⟩
  cases r1 with
  | cons rv rn =>
    rename_i v' us'
    cases rn
    show wpAny _ _ (call (.ref C) [v']) _ _ _
    have hlim := I1.nolimit
    obtain ⟨mb, hb1, hb2⟩ := I1.mod.blt
    have B : ∃ mb, s1.heap.Ns builtinsNs mb ∧ ∀ x : Str, x ≠ "__name__" → mb x = bootBuiltins x := ⟨mb, hb1.keeps I1.bk, hb2⟩
    have G := I1.mod.glob.keeps I1.bk
    obtain ⟨hp, g, dr, tk, os⟩ := s1
    refine wpAny_call (SupX.sup_made T I1.kIn hlim G B (by have := hr.dp; omega) (hok v v' rv hov) fun h' tk' e d M => ?_)
    show L2N.MkP X pins σ Q (.ref e) ⟨h', g, dr, tk', os⟩
    obtain ⟨t1, hoe⟩ := M.obj
    have hns := M.ns
    obtain ⟨G', g1, g2⟩ := restrict h' fun b => decide (b ≠ e)
    have gk : ∀ b, b ≠ e → G'.get? b = h'.get? b := fun b hb => g1 b (decide_eq_true hb)
    have ge : G'.get? e = none := g2 e (by simp)
    have old : ∀ b o, hp.get? b = some o → G'.get? b = some o := fun b o q => (gk b (Nat.ne_of_lt (Nat.lt_of_lt_of_le (Heap.lt_size q) M.new))).trans (M.keep b o q)
    have ob : ObjOk X.prog X.w (upd H1 d (.xd [(nm, v)])) G' d (.xd [(nm, v)]) :=
      ⟨_, hns.at (fun o q => (gk d M.dne).trans q), fun f => relO_one rv f⟩
    have J : Inv X pins σ (upd H1 d (.xd [(nm, v)])) ⟨G', g, dr, tk', os⟩ := I1.laid (t' := tk') old M.dbig ob
    refine ⟨e, _, _, ⟨G', g, dr, tk', os⟩, _, .ref C, some d, rfl, J, fun b o q => ?_, ge, hoe, ⟨rfl, rfl, fun vs e => by cases e; rfl⟩, rfl, rfl, ?_, rfl, I1.bare, raises_own T.exC T.tyC, q1 d (I1.hok.fresh M.dbig)⟩
    · by_cases hb : b = e
      · have q' : G'.get? b = some o := q
        rw [hb, ge] at q'; cases q'
      · exact (gk b hb).symm.trans q
    · rw [upd_ne (Ne.symm M.dne)]
      exact I1.hok.fresh M.new
/-- raise C(e) -/
theorem ps_raiseSup {x : Str} {a : Expr} {ta : TA} {W : WX} {p pos pos2 : Pos} {k : Nat} (hc : X.calm = true) (tk : L2N.Takes X W) (T : SupX.SupTxt X.prog X.w X.K X.mg C D fI nm arg ok) (hok : ∀ v u, RelV v u → okV v → ok u) (hr : Room k X.A) (gC : X.mg x = some (.ref C)) (ha : PA X [a] ta) (hg : Gl X x := by rfl) (hdb : (x == ("__debug__" : Str)) = false := by decide)
    (he : starEach (a :: []) X.env = (false, eval a X.env) :: starEach [] X.env := by rfl) (hpl : (backTo pos (starEach [] X.env)).any (·.1) = false := by rfl) :
    PS X (.Raise (some (.Call (.Name x p) [a] [] pos)) none pos2) (fun _ σ H => tMkSup C nm okV ta σ H fun cls d H' => W cls d σ H') := L2N.ps_raise hc tk (pmk_sup T hok hr gC ha hg hdb he hpl)
end

/-! ## Promises of defs: those that let exceptions out, those that know that no repr is under way, those that are handed the caught exception -/
section
open PyProof.Rows
/-- a def's context, calm or not, with pins -/
def cxG (cl : Bool) (pn : List (Addr × Obj)) (CX : CXT) (P : Program) (w : World) (K : PySem.W.Frag) (mg : Str → Option Value) (base : Heap) (N : List Str) (qual : Str) (scope : Scope) (f : Addr) (cd : Value) (A : Around) (outer : List Env) (s : Shared) (H : Hp) (E : XK) : Cx :=
  { cxOf CX P w K mg base N qual scope f cd A outer s H E with calm := cl, pn := pn }
variable {P : Program} {w : World} {K : PySem.W.Frag} {mg : Str → Option Value} {base : Heap}
/-- the def at f, its body running in such a context -/
theorem code_of {CX : CXT} {cl : Bool} {pn : List (Addr × Obj)} {f : Addr} {name qual : Str} {params : Arguments} {body : List Stmt} {scope : Scope} {dV kV doc pm cdv ct oc : Value} {an od : Option Addr} {osl : Array (Option Value)} {N ps : List Str}
    (lk : K.lookup f = some ⟨oc, od, .func (PySem.W.fnOf name qual params body scope dV kV doc pm an cdv ct), osl⟩) (hcd : PySem.W.codeIn K cdv qual = true) (S : FnScope N ps scope)
    {A : Around} {outer : List Env} {s : Shared} {H : Hp} {args : Args} {us : List Value} {vs : List V} {Q : VK} {E : XK} {t : TS} (hdp : A.depth < recursionLimit) (e0 : Env0 P w K mg base A outer s H)
    (hb : BindsTo s (PySem.W.fnOf name qual params body scope dV kV doc pm an cdv ct) args (ps.zip us))
    (hI : ∀ s1, InCallC s s.heap.objs.size (bindL (envOfC qual scope s.heap.objs.size f cdv).kindOf (ps.zip us) fun _ => none) (cellsFrom (s.heap.objs.size + 1) scope.names []) (bindC (envOfC qual scope s.heap.objs.size f cdv).kindOf (ps.zip us) fun _ => none) s1 →
      Inv (cxG cl pn CX P w K mg base N qual scope f cdv A outer s H E) [] (L2.start N vs) H s1)
    (ht : PSs (cxG cl pn CX P w K mg base N qual scope f cdv A outer s H E) body t) (hq : t { nx := fun _ H' => Q .non H', rt := Q } (L2.start N vs) H) :
    codeAny (model P w) A (.call (.ref f) args) (CR CX outer P w H s Q E) s := by
  have inS : ∀ b o, base.get? b = some o → s.heap.get? b = some o := fun b o e => (e0.bs b o e).1
  have KS : K.In s.heap := e0.mod.kin.keeps inS
  refine codeAny_call_function hdp (KS _ _ lk) rfl S.co S.gen rfl (PySem.W.codeRec_of KS hcd) (hb _ _ _ _ ?_)
  refine wpAny_newFunctionEnv_cells S.kind ?_ fun env he s1 x => ?_
  · intro y hy
    obtain ⟨n, v⟩ := y
    have hm : n ∈ ps := (List.of_mem_zip hy).1
    exact (S.par n hm).imp id fun q => ⟨q, PySem.W.cellsFrom_some _ _ _ (.inl q)⟩
  · cases he
    refine ⟨(e0.mod.nolimit.keeps inS).keeps x.toInCall.keep, codeAny_func (wpAny_mono (ht.run [] s1 (L2.start N vs) H _ (hI s1 x) hq) ?_ fun _ _ z => z)⟩
    intro fl s2 hs
    have out : ∀ {σ2 : L2.St} {H2 : Hp} {v : V} {u : Value}, Inv (cxG cl pn CX P w K mg base N qual scope f cdv A outer s H E) [] σ2 H2 s2 → RelV v u → Q v H2 → CE outer P w H s Q u s2 := by
      intro σ2 H2 v u J rv q
      exact ⟨v, H2, J.os, J.bare, J.base, J.hok, rv, q⟩
    match fl, hs with
    | .ret u, ⟨v, σ2, H2, J, rv, q⟩ => exact out J rv q
    | .next, ⟨σ2, H2, J, q⟩ => exact out (v := .non) J rfl q
    | .brk, ⟨_, _, _, q⟩ => exact q.elim
    | .cont, ⟨_, _, _, q⟩ => exact q.elim
/-! ### with a word about the stack -/
/-- no repr (nor the like) is under way -/
def Gd (A : Around) : Prop := A.guards = some []
theorem Gd.deeper {A : Around} (h : Gd A) (env : Env) : Gd (A.deeper env) := h
/-- a def's promise, Z being true of the stack -/
structure FnZ (Z : Around → Prop) (P : Program) (w : World) (K : PySem.W.Frag) (mg : Str → Option Value) (base : Heap) (k : Nat) (f : Addr) (fd : FuncData) (ps : List Str) (sp : Sp) : Prop where
  len : ∀ vs H Q E, sp vs H Q E → vs.length = ps.length
  run : ∀ (A : Around) (outer : List Env) (s : Shared) (H : Hp) (args : Args) (us : List Value) (vs : List V) (Q : VK) (E : XK), Z A → Room k A → Env0 P w K mg base A outer s H → BindsTo s fd args (ps.zip us) → Vals vs us → sp vs H Q E →
    codeAny (model P w) A (.call (.ref f) args) (CR (L2N.CX P w) outer P w H s Q E) s
theorem fn_ofZ {Z : Around → Prop} (hZ : ∀ A env, Z A → Z (A.deeper env)) {x qual : Str} {st : Stmt} {k : Nat} {f : Addr} {fd : FuncData} {N ps : List Str} {sp : Sp} (F : C8.Fun K x qual st f fd) (S : FnScope N ps (C8.fnScope st)) (len : ∀ vs H Q E, sp vs H Q E → vs.length = ps.length)
    (hbody : ∀ (cdv : Value) (A : Around) (outer : List Env) (s : Shared) (H : Hp) (vs : List V) (Q : VK) (E : XK), Z (A.deeper (envOfC qual (C8.fnScope st) s.heap.objs.size f cdv)) → Room k (A.deeper (envOfC qual (C8.fnScope st) s.heap.objs.size f cdv)) → sp vs H Q E →
      ∃ t, PSs (cxG true [] (L2N.CX P w) P w K mg base N qual (C8.fnScope st) f cdv A outer s H E) (C8.fnBody st) t ∧ t { nx := fun _ H' => Q .non H', rt := Q } (L2.start N vs) H) :
    FnZ Z P w K mg base (k + 1) f fd ps sp := by
  obtain ⟨oc, od, dV, kV, doc, pm, an, cdv, ct, osl, rfl, lk, hcd⟩ := F.ex
  refine ⟨len, fun A outer s H args us vs Q E hz hr e0 hb r h => ?_⟩
  obtain ⟨t, ht, hq⟩ := hbody cdv A outer s H vs Q E (hZ _ _ hz) (hr.deeper _) h
  exact code_of lk hcd S hr.depth e0 hb (fun s1 x => L2.inv_start S hr.hd e0 (len _ _ _ _ h) r x) ht hq
/-- a def that may be called by its name -/
structure CalZ (Z : Around → Prop) (P : Program) (w : World) (K : PySem.W.Frag) (mg : Str → Option Value) (base : Heap) (k : Nat) (x : Str) (sp : Sp) : Prop where
  ex : ∃ (f : Addr) (fd : FuncData) (ps : List Str), FnZ Z P w K mg base k f fd ps sp ∧ mg x = some (.ref f) ∧ PySem.W.keepIn K (.ref f) = true ∧ Binds K fd ps []
theorem calZ {Z : Around → Prop} (hZ : ∀ A env, Z A → Z (A.deeper env)) {x : Str} {st : Stmt} {k : Nat} {f : Addr} {fd : FuncData} {N ps : List Str} {sp : Sp} (F : C8.Def K mg x st f fd) (b : Binds K fd ps []) (S : FnScope N ps (C8.fnScope st)) (len : ∀ vs H Q E, sp vs H Q E → vs.length = ps.length)
    (hbody : ∀ (cdv : Value) (A : Around) (outer : List Env) (s : Shared) (H : Hp) (vs : List V) (Q : VK) (E : XK), Z (A.deeper (envOfC x (C8.fnScope st) s.heap.objs.size f cdv)) → Room k (A.deeper (envOfC x (C8.fnScope st) s.heap.objs.size f cdv)) → sp vs H Q E →
      ∃ t, PSs (cxG true [] (L2N.CX P w) P w K mg base N x (C8.fnScope st) f cdv A outer s H E) (C8.fnBody st) t ∧ t { nx := fun _ H' => Q .non H', rt := Q } (L2.start N vs) H) :
    CalZ Z P w K mg base (k + 1) x sp := ⟨f, fd, ps, fn_ofZ hZ F.fn S len hbody, F.mgf, F.kp, b⟩
/-- what the exceptions of such a body go by -/
theorem takesG {N : List Str} {qual : Str} {scope : Scope} {f : Addr} {cd : Value} {A : Around} {outer : List Env} {s : Shared} {H : Hp} {E : XK} :
    L2N.Takes (cxG true [] (L2N.CX P w) P w K mg base N qual scope f cd A outer s H E) (fun cls d _ H => E cls d H) := L2N.takes_of rfl rfl rfl rfl
theorem takesF {X : Cx} : L2N.Takes X (fun _ _ _ _ => False) := fun _ _ ⟨_, _, _, _, _, _, _, _, _, _, _, _, _, _, _, _, z⟩ => z.elim
theorem passF {X : Cx} (σ : L2.St) : PassesAt (L2N.CX X.prog X.w) X σ (fun _ _ _ => False) := fun _ _ _ _ _ _ ⟨_, _, _, _, _, _, _, _, _, _, _, _, z⟩ => z.elim
end
section
open PyProof.Rows
variable {X : Cx} {Z : Around → Prop} {k j : Nat} {f C : Addr} {fd : FuncData} {ps : List Str} {sp : Sp} {E : L2.St → XK} {x m : Str} {p pos apos : Pos} {e o : Expr} {es : List Expr} {ta : TE} {t : TA}
theorem run_fnZ {pins : List (Addr × Obj)} {σ : L2.St} {H : Hp} {s : Shared} {Q : VK} {us : List Value} {vs : List V} (F : FnZ Z X.prog X.w X.K X.mg X.base k f fd ps sp) (hz : Z X.A) (hr : Room k X.A) (hb : Binds X.K fd ps []) (hx : PassesAt (L2N.CX X.prog X.w) X σ (E σ))
    (I : Inv X pins σ H s) (r : Vals vs us) (h : sp vs H Q (E σ)) : wpAny (model X.prog X.w) X.A (call (.ref f) us) (EP X pins σ Q) X.xe s := by
  have hl : (us ++ []).length = ps.length := by rw [List.append_nil, ← r.length]; exact F.len _ _ _ _ h
  have b := hb s us I.kIn hl
  rw [List.append_nil] at b
  refine wpAny_call (codeAny_mono (F.run X.A X.stack s H ⟨us, []⟩ us vs Q (E σ) hz hr I.env0 b r h) ?_)
  rintro (er | fl) s2 hq
  · exact hx pins H s er s2 I hq
  · match fl, hq with
    | .ret u, hq => exact I.after hq
    | .next, z => exact False.elim z
    | .brk, z => exact False.elim z
    | .cont, z => exact False.elim z
/-- x(e, ..) of such a def -/
theorem pe_z (c : CalZ Z X.prog X.w X.K X.mg X.base k x sp) (hz : Z X.A) (hr : Room j X.A) (hk : k ≤ j) (hg : Gl X x) (hx : ∀ σ, PassesAt (L2N.CX X.prog X.w) X σ (E σ)) (ha : PA X (e :: es) t) (hdb : (x == ("__debug__" : Str)) = false := by decide)
    (he : starEach (e :: es) X.env = (false, eval e X.env) :: starEach es X.env := by rfl) (hpl : (backTo pos (starEach es X.env)).any (·.1) = false := by rfl) : PE X (.Call (.Name x p) (e :: es) [] pos) (tCallS sp E t) := by
  obtain ⟨f, fd, ps, F, hm, kp, b⟩ := c.ex
  exact ⟨fun pins s σ H Q I h => wpAny_Call_Name_kw (ld_glob I hg hm (PySem.W.callWith_K (h₀ := X.base) I.ok.mod.kin kp (thn (ha.run pos pins s σ H _ I h) fun us s1 ⟨vs, H1, I1, r, q⟩ => ⟨I1.kIn, run_fnZ F hz (hr.mono hk) b (hx σ) I1 r q⟩) he hpl) hdb)⟩
end

/-! ## A def that is handed the caught exception -/
section
open PyProof.Rows
variable {P : Program} {w : World} {K : PySem.W.Frag} {mg : Str → Option Value} {base : Heap}
/-- the promise: at the pinned exception's place, its class, its dict -/
structure FnE (Z : Around → Prop) (P : Program) (w : World) (K : PySem.W.Frag) (mg : Str → Option Value) (base : Heap) (k : Nat) (f : Addr) (fd : FuncData) (ps : List Str) (sp : Addr → Value → Option Addr → Sp) : Prop where
  len : ∀ a c d vs H Q E, sp a c d vs H Q E → vs.length = ps.length
  run : ∀ (A : Around) (outer : List Env) (s : Shared) (H : Hp) (args : Args) (us : List Value) (vs : List V) (Q : VK) (E : XK) (p : Addr × Obj) (c : Value) (d : Option Addr), Z A → L2H.RoomH k A → L2H.PinOk outer H s p → Zc c d p.2 → (∃ fv, p.2.data = .fields fv) →
    Env0 P w K mg base A outer s H → BindsTo s fd args (ps.zip us) → Vals vs us → sp p.1 c d vs H Q E → codeAny (model P w) A (.call (.ref f) args) (CR (L2N.CX P w) outer P w H s Q E) s
theorem fn_ofE {Z : Around → Prop} (hZ : ∀ A env, Z A → Z (A.deeper env)) {x qual : Str} {st : Stmt} {k : Nat} {f : Addr} {fd : FuncData} {N ps : List Str} {sp : Addr → Value → Option Addr → Sp} (F : C8.Fun K x qual st f fd) (S : FnScope N ps (C8.fnScope st)) (len : ∀ a c d vs H Q E, sp a c d vs H Q E → vs.length = ps.length)
    (hbody : ∀ (cdv : Value) (A : Around) (outer : List Env) (s : Shared) (H : Hp) (vs : List V) (Q : VK) (E : XK) (p : Addr × Obj) (c : Value) (d : Option Addr), Z (A.deeper (envOfC qual (C8.fnScope st) s.heap.objs.size f cdv)) → L2H.RoomH k (A.deeper (envOfC qual (C8.fnScope st) s.heap.objs.size f cdv)) →
      Zc c d p.2 → (∃ fv, p.2.data = .fields fv) → sp p.1 c d vs H Q E →
      ∃ t, PSs (cxG false [p] (L2N.CX P w) P w K mg base N qual (C8.fnScope st) f cdv A outer s H E) (C8.fnBody st) t ∧ t { nx := fun _ H' => Q .non H', rt := Q } (L2.start N vs) H) :
    FnE Z P w K mg base (k + 1) f fd ps sp := by
  obtain ⟨oc, od, dV, kV, doc, pm, an, cdv, ct, osl, rfl, lk, hcd⟩ := F.ex
  refine ⟨len, fun A outer s H args us vs Q E p c d hz hr hpin hc hf e0 hb r h => ?_⟩
  obtain ⟨t, ht, hq⟩ := hbody cdv A outer s H vs Q E p c d (hZ _ _ hz) (hr.deeper _) hc hf h
  exact code_of lk hcd S hr.depth e0 hb (fun s1 x => L2H.inv_startH S hpin e0 (len _ _ _ _ _ _ _ h) r x) ht hq
structure CalE (Z : Around → Prop) (P : Program) (w : World) (K : PySem.W.Frag) (mg : Str → Option Value) (base : Heap) (k : Nat) (x : Str) (sp : Addr → Value → Option Addr → Sp) : Prop where
  ex : ∃ (f : Addr) (fd : FuncData) (ps : List Str), FnE Z P w K mg base k f fd ps sp ∧ mg x = some (.ref f) ∧ PySem.W.keepIn K (.ref f) = true ∧ Binds K fd ps []
theorem calE {Z : Around → Prop} (hZ : ∀ A env, Z A → Z (A.deeper env)) {x : Str} {st : Stmt} {k : Nat} {f : Addr} {fd : FuncData} {N ps : List Str} {sp : Addr → Value → Option Addr → Sp} (F : C8.Def K mg x st f fd) (b : Binds K fd ps []) (S : FnScope N ps (C8.fnScope st)) (len : ∀ a c d vs H Q E, sp a c d vs H Q E → vs.length = ps.length)
    (hbody : ∀ (cdv : Value) (A : Around) (outer : List Env) (s : Shared) (H : Hp) (vs : List V) (Q : VK) (E : XK) (p : Addr × Obj) (c : Value) (d : Option Addr), Z (A.deeper (envOfC x (C8.fnScope st) s.heap.objs.size f cdv)) → L2H.RoomH k (A.deeper (envOfC x (C8.fnScope st) s.heap.objs.size f cdv)) →
      Zc c d p.2 → (∃ fv, p.2.data = .fields fv) → sp p.1 c d vs H Q E →
      ∃ t, PSs (cxG false [p] (L2N.CX P w) P w K mg base N x (C8.fnScope st) f cdv A outer s H E) (C8.fnBody st) t ∧ t { nx := fun _ H' => Q .non H', rt := Q } (L2.start N vs) H) :
    CalE Z P w K mg base (k + 1) x sp := ⟨f, fd, ps, fn_ofE hZ F.fn S len hbody, F.mgf, F.kp, b⟩
end
section
open PyProof.Rows
variable {X : Cx} {Z : Around → Prop} {k j : Nat} {a : Addr} {oe : Obj} {c : Value} {d : Option Addr} {sp : Addr → Value → Option Addr → Sp} {E : L2.St → XK} {x n : Str} {p pos : Pos} {e : Expr} {es : List Expr} {te : TE} {t : TA}
/-- x(e, ..) of such a def, (a, oe) pinned -/
theorem pe_e (cl : CalE Z X.prog X.w X.K X.mg X.base k x sp) (hz : Z X.A) (hr : L2H.RoomH j X.A) (hk : k ≤ j) (hp : (a, oe) ∈ X.pn) (hc : Zc c d oe) (hf : ∃ fv, oe.data = .fields fv) (hg : Gl X x) (hx : ∀ σ, PassesAt (L2N.CX X.prog X.w) X σ (E σ)) (ha : PA X (e :: es) t)
    (hdb : (x == ("__debug__" : Str)) = false := by decide) (he : starEach (e :: es) X.env = (false, eval e X.env) :: starEach es X.env := by rfl) (hpl : (backTo pos (starEach es X.env)).any (·.1) = false := by rfl) : PE X (.Call (.Name x p) (e :: es) [] pos) (tCallS (sp a c d) E t) := by
  obtain ⟨f, fd, ps, F, hm, kp, b⟩ := cl.ex
  refine ⟨fun pins s σ H Q I h => wpAny_Call_Name_kw (ld_glob I hg hm (PySem.W.callWith_K (h₀ := X.base) I.ok.mod.kin kp (thn (ha.run pos pins s σ H _ I h) fun us s1 hh => ?_) he hpl) hdb)⟩
  obtain ⟨vs, H1, I1, r, q⟩ := hh
  refine ⟨I1.kIn, ?_⟩
  have hl : (us ++ []).length = ps.length := by rw [List.append_nil, ← r.length]; exact F.len _ _ _ _ _ _ _ q
  have bb := b s1 us I1.kIn hl
  rw [List.append_nil] at bb
  have pi := I1.pin (a, oe) (List.mem_append_left _ hp)
  have pk : L2H.PinOk X.stack H1 s1 (a, oe) := ⟨pi.1, pi.2.1, fun hm => (List.mem_cons.mp (I1.stkSub a hm)).elim pi.2.2.1 pi.2.2.2.1, pi.2.2.2.2⟩
  refine wpAny_call (codeAny_mono (F.run X.A X.stack s1 H1 ⟨us, []⟩ us vs Q (E σ) (a, oe) c d hz (hr.mono hk) pk hc hf I1.env0 bb r q) ?_)
  rintro (er | fl) s2 hq
  · exact hx σ pins H1 s1 er s2 I1 hq
  · match fl, hq with
    | .ret u, hq => exact I1.after hq
    | .next, z => exact False.elim z
    | .brk, z => exact False.elim z
    | .cont, z => exact False.elim z
/-- the pinned exception, with its dict -/
theorem inst_pin {pins : List (Addr × Obj)} {σ : L2.St} {H : Hp} {s : Shared} {D dd : Addr} {fs : List (Str × V)} (I : Inv X pins σ H s) (hp : (a, oe) ∈ X.pn) (hc : Zc (.ref D) (some dd) oe) (hf : ∃ fv, oe.data = .fields fv) (ea : H dd = some (.xd fs)) :
    ∃ (od : Obj) (mA : Str → Option Value), PySem.W.InstAt s.heap a oe D (some od) ∧ (∀ f, RelO (fs.lookup f) (mA f)) ∧ s.heap.Ns1 dd mA ∧ s.heap.get? dd = some od := by
  obtain ⟨ha, _⟩ := I.pin (a, oe) (List.mem_append_left _ hp)
  obtain ⟨fv, hd⟩ := hf
  have hx : ObjOk X.prog X.w H s.heap dd (.xd fs) := I.hok dd _ ea
  obtain ⟨mA, hns, hr⟩ := hx
  obtain ⟨od, ho, _⟩ := lookIn_ns hns
  exact ⟨od, mA, ⟨ha, hc.1, by unfold PySem.W.notCls; rw [hd] <;> rfl, by rw [hc.2]; exact ho⟩, hr, hns, ho⟩
/-- isinstance(e, T) of it: one class -/
def rIsP (K : PySem.W.Frag) (D dd a : Addr) : List V → Hp → VK → Prop := fun xs H Q => ∃ (y : V) (u : Value) (b : Bool) (fs : List (Str × V)), xs = [.ref a, y] ∧ ClsV y u ∧ PySem.W.kitOne K (.ref D) u = some b ∧ H dd = some (.xd fs) ∧ Q (.bl b) H
/-- .. a tuple of classes -/
def rIsPT (K : PySem.W.Frag) (D dd a : Addr) : List V → Hp → VK → Prop := fun xs H Q => ∃ (tp : Addr) (ys : List V) (us : List Value) (b : Bool) (fs : List (Str × V)), xs = [.ref a, .ref tp] ∧ H tp = some (.tup ys) ∧ Paired ClsV ys us ∧ PySem.W.kitAny K (.ref D) us = some b ∧ H dd = some (.xd fs) ∧ Q (.bl b) H
theorem kit_exc {D : Addr} {od : Option Obj} (C : ExcC X.K D) : PySem.W.KitX X.K (.ref a) (.ref D) (fun h => PySem.W.InstAt h a oe D od) := by
  refine PySem.W.kitx_exc ?_ C.hg C.hk C.hs C.ha C.hn C.ht C.hm
  obtain ⟨cd, hc, _⟩ := PySem.W.any_some C.hd
  rw [hc]
  rfl
theorem call_isP {D dd : Addr} (C : ExcC X.K D) (hp : (a, oe) ∈ X.pn) (hc : Zc (.ref D) (some dd) oe) (hf : ∃ fv, oe.data = .fields fv) : CallR X (.builtin "isinstance") (rIsP X.K D dd a) := by
  intro pins s σ H xs us Q I r h
  obtain ⟨y, u, b, fs, rfl, hy, hb, ea, q⟩ := h
  obtain ⟨od, mA, J, _⟩ := inst_pin I hp hc hf ea
  match r with
  | .cons ra (.cons rb .nil) =>
    cases (show _ = Value.ref a from ra)
    have e2 := hy.eq rb
    subst e2
    exact PySem.W.kia_one (kit_exc C) I.kIn J hb (fun z => by cases z) fun tk => ⟨.bl b, _, I.tok tk, rfl, q⟩
theorem call_isPT {D dd : Addr} (C : ExcC X.K D) (hp : (a, oe) ∈ X.pn) (hc : Zc (.ref D) (some dd) oe) (hf : ∃ fv, oe.data = .fields fv) : CallR X (.builtin "isinstance") (rIsPT X.K D dd a) := by
  intro pins s σ H xs us Q I r h
  obtain ⟨tp, ys, ws, b, fs, rfl, ht, hy, hb, ea, q⟩ := h
  obtain ⟨od, mA, J, _⟩ := inst_pin I hp hc hf ea
  match r with
  | .cons ra (.cons rb .nil) =>
    cases (show _ = Value.ref a from ra)
    cases (show _ = Value.ref tp from rb)
    obtain ⟨_, its, rv, o, h1, h2, n, h3⟩ := (show ObjOk X.prog X.w H s.heap tp (.tup ys) from I.hok tp _ ht)
    have e3 := ClsV.all hy rv
    subst e3
    obtain ⟨oc, od', dt, sl⟩ := o
    cases h2
    cases h3
    exact PySem.W.kia_tup (kit_exc C) I.kIn J h1 hb (fun z => by cases z) fun tk => ⟨.bl b, _, I.tok tk, rfl, q⟩
/-- e.f of it -/
def tXfP (a D dd : Addr) (f : Str) (te : TE) : TE := fun σ H Q => te σ H fun y H1 => y = .ref a ∧ ∃ (fs : List (Str × V)) (v : V), H1 dd = some (.xd fs) ∧ fs.lookup f = some v ∧ Q v H1
theorem pe_xfP {D dd : Addr} (T : XfC X.K D) (hno : PySem.W.findIn X.K (.ref D) n = some none) (hp : (a, oe) ∈ X.pn) (hc : Zc (.ref D) (some dd) oe) (hf : ∃ fv, oe.data = .fields fv) (he : PE X e te) (hb : attributeBase e n X.env (eval e X.env) = eval e X.env := by rfl) :
    PE X (.Attribute e n pos) (tXfP a D dd n te) := by
  refine ⟨fun pins s σ H Q I h => attr_of hb (thn (he.run pins s σ H _ I h) fun u s1 hh => ?_)⟩
  obtain ⟨y, H1, I1, ry, rfl, fs, v, ea, l, q⟩ := hh
  cases (show u = Value.ref a from ry)
  obtain ⟨od, mA, J, hr, hns, ho⟩ := inst_pin I1 hp hc hf ea
  obtain ⟨od', ho', hl⟩ := lookIn_ns hns
  obtain rfl : od = od' := Option.some.inj (ho.symm.trans ho')
  obtain ⟨u, hu, ru⟩ := RelO.some_of (v := v) (o := mA n) (by rw [← l]; exact hr n)
  exact HandSPX.exc_get I1.kIn J T.ga T.gg T.exC (PySem.W.findObj_own T.hdC hno rfl (by rw [hl, hu])) (handed_of ru) ⟨v, H1, I1.tok _, ru, q⟩
end
theorem passesG {P : Program} {w : World} {K : PySem.W.Frag} {mg : Str → Option Value} {base : Heap} {N : List Str} {qual : Str} {scope : Scope} {f : Addr} {cd : Value} {A : Around} {outer : List Env} {s : Shared} {H : Hp} {E : XK} {pn : List (Addr × Obj)} {cl : Bool} :
    PassesOwn (model P w) (cxG cl pn (L2N.CX P w) P w K mg base N qual scope f cd A outer s H E).A (cxG cl pn (L2N.CX P w) P w K mg base N qual scope f cd A outer s H E).env (cxG cl pn (L2N.CX P w) P w K mg base N qual scope f cd A outer s H E).xe := by
  exact PassesOwn.leaving
theorem roomM {k : Nat} {A : Around} {v : Option Value} (hr : Room k A) : L2H.RoomH k (A.mark v) := ⟨hr.dp, hr.un⟩
/-- try: body, except x as n: suite; its reading under one name -/
def tTry (K : PySem.W.Frag) (c : Value) (i : Nat) (tb : WX → TS) (ts : Addr → Value → Option Addr → TS) (Wout : WX) : TS := fun D σ H => tb (wAs K c i ts Wout D) D σ H
section
variable {X : Cx} {x n : Str} {c : Value} {i : Nat} {body suite : List Stmt} {b₀ : Stmt} {np pos pos' : Pos} {tb : WX → TS} {ts : Addr → Value → Option Addr → TS} {Wout : WX}
theorem ps_tryN (hs : X.stack = X.env :: X.outer) (hf : X.env.frame = some X.env.locals) (hN : X.N.Nodup) (hi : X.N[i]? = some n) (hln : X.env.kindOf n = some .local) (hc : Names X x c) (tk : L2N.Takes X Wout)
    (hb : ∀ (W : WX) (pn : List (Addr × Obj)) (xe : Value → Shared → Prop), L2N.Takes (X.tr pn xe) W → PassesOwn (model X.prog X.w) X.A X.env xe → PSs (X.tr pn xe) body (tb W))
    (hsu : ∀ (a : Addr) (oe : Obj) (cls : Value) (d : Option Addr) (pn : List (Addr × Obj)), L2N.Zn cls d oe → (∃ vs, oe.data = .fields vs) → PSs (X.suite a ((a, oe) :: pn)) (b₀ :: suite) (ts a cls d)) :
    PS X (.Try body [.ExceptHandler (some (.Name x np)) (some n) (b₀ :: suite) pos'] [] [] pos) (tTry X.K c i tb ts Wout) := L2N.ps_try_as hs hf hN hi hln hc tk hb hsu
end

/-! ## repr of plain things, no repr being under way -/
section
open PyProof.Rows
/-- a value that stands for plain data: scalars, lists and tuples of texts -/
inductive Sh (H : Hp) : V → PyData → Prop
  | non : Sh H .non .none
  | bl (b : Bool) : Sh H (.bl b) (.bool b)
  | int (i : Int) : Sh H (.int i) (.int i)
  | str (x : Str) : Sh H (.str x) (.str x)
  | lst {a : Addr} {l : List Str} : H a = some (.lst (l.map V.str)) → Sh H (.ref a) (.list (l.map PyData.str))
  | tup {a : Addr} {l : List Str} : H a = some (.tup (l.map V.str)) → Sh H (.ref a) (.tuple (l.map PyData.str))
theorem reads_strs (h : Heap) : ∀ (l : List Str) (its : List Value), Vals (l.map V.str) its → ReadsAll h its (l.map PyData.str) []
  | [], _, .nil => .nil
  | y :: l, _, .cons ⟨t, e⟩ r => by
    subst e
    exact .cons (as := []) (bs := []) (.str y t) (reads_strs h l _ r)
theorem showAll_strs (l : List Str) : PyData.showableAll (l.map PyData.str) = true := by
  induction l with
  | nil => rfl
  | cons y l ih => simpa [PyData.showableAll, PyData.showable] using ih
theorem noDict_strs (l : List Str) : PyData.hasDictAll (l.map PyData.str) = false := by
  induction l with
  | nil => rfl
  | cons y l ih => simpa [PyData.hasDictAll, PyData.hasDict] using ih
theorem depth_strs (l : List Str) : PyData.depthAll (l.map PyData.str) ≤ 1 := by
  induction l with
  | nil => exact Nat.zero_le _
  | cons y l ih =>
    simp only [List.map_cons, PyData.depthAll, PyData.depth]
    omega
/-- repr(x) -/
def rRepr : List V → Hp → VK → Prop := fun xs H Q => ∃ (v : V) (pd : PyData), xs = [v] ∧ Sh H v pd ∧ pd.shown.length ≤ sizeLine ∧ (∀ i, pd = .int i → i.natAbs.log2 < 1920) ∧ Q (.str pd.shown) H
theorem call_repr {X : Cx} (hg : Gd X.A) (hu : X.A.units + 64 < cLine) : CallR X (.builtin "repr") rRepr := by
  intro pins s σ H xs us Q I r h
  obtain ⟨v, pd, rfl, hs, hz, hi, q⟩ := h
  match r with
  | .cons (b := u) ru .nil =>
    have fin : ∀ (h' : Heap) (t : Tok) (tk : Nat), (∀ b o, s.heap.get? b = some o → h'.get? b = some o) → EP X pins σ Q (.str pd.shown t) { s with heap := h', toks := tk } := fun h' t tk k =>
      ⟨.str pd.shown, H, I.kept (t' := tk) k, ⟨t, rfl⟩, q⟩
    cases hs with
    | non => cases (show u = Value.none from ru); exact P.repr_of_none (fin s.heap _ _ fun _ _ z => z)
    | bl b => cases (show u = Value.bool b from ru); exact P.repr_of_bool (fin s.heap _ _ fun _ _ z => z)
    | int i => obtain ⟨t, rfl⟩ := ru; exact P.repr_of_int (hi i rfl) (fin s.heap _ _ fun _ _ z => z)
    | str y => obtain ⟨t, rfl⟩ := ru; exact P.repr_of_str (fin s.heap _ _ fun _ _ z => z) hz
    | @lst a l ha =>
      cases (show u = Value.ref a from ru)
      obtain ⟨_, its, n, rv, ho⟩ := (show ObjOk X.prog X.w H s.heap a (.lst (l.map V.str)) from I.hok a _ ha)
      have hd := depth_strs l
      refine repr_of_reads' (h₀ := s.heap) (.list ho rfl rfl (reads_strs s.heap l its rv)) (by simpa [PyData.showable] using showAll_strs l) ?_ hg (by simp only [PyData.depth]; omega) (fun _ _ z => z) (fun h' t tk k => fin h' t tk k) hz
      simp only [PyData.hasDict, noDict_strs]
      exact fun z => by cases z
    | @tup a l ha =>
      cases (show u = Value.ref a from ru)
      obtain ⟨_, its, rv, o, ho, hc, n, hd0⟩ := (show ObjOk X.prog X.w H s.heap a (.tup (l.map V.str)) from I.hok a _ ha)
      have hd := depth_strs l
      refine repr_of_reads' (h₀ := s.heap) (.tuple ho hc hd0 (reads_strs s.heap l its rv)) (by simpa [PyData.showable] using showAll_strs l) ?_ hg (by simp only [PyData.depth]; omega) (fun _ _ z => z) (fun h' t tk k => fin h' t tk k) hz
      simp only [PyData.hasDict, noDict_strs]
      exact fun z => by cases z
end

/-! ## enumerate over a tuple, over a text -/
section
open PyProof.Rows
set_option maxHeartbeats 1000000 in
theorem enum1_new {v : Value} {o : Obj} {G : Heap → Prop} (B : Begins v o G) : Meets (Builtin.«enumerate.__new__» ⟨[.type "enumerate", v], []⟩) (fun _ R s => G s.heap ∧
    R (.ok (.ret (.ref (s.heap.push o).objs.size))) { s with heap := (s.heap.push o).push { cls := .type "enumerate", data := .fields #[.none, .bool false, .ref s.heap.objs.size, rawInt 0, .none, .none] } }) :=
  .of_wp fun prog w A R s ⟨g1, h⟩ => by
    obtain ⟨hp, g, d, tk, os⟩ := s
    have hsub := sub_enumerate
    have begin1 : ∀ {A2 : Around} {E : Value → Shared → Prop} {Q : Value → Shared → Prop}, Q (.ref hp.objs.size) ⟨hp.push o, g, d, tk, os⟩ → wpAny (model prog w) A2 (pyIter v) Q E ⟨hp, g, d, tk, os⟩ :=
      fun q => B.iter _ _ _ _ ⟨hp, g, d, tk, os⟩ _ g1 q
    wp_walk using begin1
    refine wpAny_stack_any (fun stk => wpAny_pure ?_)
    split
    · rename_i c _ _ _ _ _
      cases (c == Value.type "enumerate") <;>
      · wp_walk using begin1
        exact ⟨_, rfl, h⟩
    · wp_walk using begin1
      exact ⟨_, rfl, h⟩
theorem enum1 {prog : Program} {w : World} {A : Around} {E : Value → Shared → Prop} {s : Shared} {v : Value} {o : Obj} {G : Heap → Prop} {Q : Value → Shared → Prop} (B : Begins v o G) (h1 : G s.heap)
    (h2 : checkTypeCall "enumerate" ⟨[v], []⟩ = pure ()) (h3 : checkBuiltinCall "enumerate.__new__" ⟨[.type "enumerate", v], []⟩ = pure ())
    (h : ∀ h', IsEnum h' (s.heap.objs.size + 1) s.heap.objs.size 0 .none → h'.get? s.heap.objs.size = some o → (∀ b u, s.heap.get? b = some u → h'.get? b = some u) → Q (.ref (s.heap.objs.size + 1)) { s with heap := h' }) :
    wpAny (model prog w) A (call (.type "enumerate") [v]) Q E s := by
  refine callType_new F.called_enumerate (by decide) h2 h3 (fun obj => F.args_object_init_2 obj _) F.entry_enumerate_new (enum1_new B) ⟨h1, ?_⟩
  have hz : (s.heap.push o).objs.size = s.heap.objs.size + 1 := Heap.size_push ..
  show _ ∧ _
  rw [hz]
  have he : IsEnum ((s.heap.push o).push { cls := .type "enumerate", data := .fields #[.none, .bool false, .ref s.heap.objs.size, rawInt 0, .none, .none] }) (s.heap.objs.size + 1) s.heap.objs.size 0 .none := by
    have z := Heap.get?_push_size (s.heap.push o) (o := { cls := .type "enumerate", data := .fields #[.none, .bool false, .ref s.heap.objs.size, rawInt 0, .none, .none] }) rfl
    rw [hz] at z
    exact z
  exact ⟨⟨_, he, rfl⟩, h _ he (Heap.get?_push_of_some _ (Heap.get?_push_size _ B.free)) fun b u q => Heap.get?_push_of_some _ (Heap.get?_push_of_some _ q)⟩
/-- one turn of it -/
theorem enum_turn {X : Cx} {elts : List Expr} {kk : Nat} {tpos : Pos} {e it i n : Nat} {fp : List Addr} {Pd : Nat → Value → Prop} {St : Nat → Heap → Prop} {old : Value} {pins : List (Addr × Obj)} {σ : L2.St} {H : Hp} {s : Shared} {E : Value → Shared → Prop} {Py : V → Prop} {St2 : Heap → Prop}
    (D : Draws X.prog X.w X.A.in1 it fp n Pd St) (I : Inv X pins σ H s) (hf : ∀ b ∈ [e, it], FpOk X pins H b) (he : IsEnum s.heap e it ((i : Nat) : Int) old) (hst : St i s.heap) (hlt : i < n) (hne : e ≠ it) (hef : e ∉ fp) (hil : it < s.heap.objs.size)
    (hP : ∀ u, Pd i u → ∃ y, RelV y u ∧ Py y) (hS : ∀ h h', St (i + 1) h → (∀ b, b ≠ e → h'.get? b = h.get? b) → St2 h') :
    wpAny (model X.prog X.w) X.A (pyNext (.ref e)) (fun r s1 => ∃ u, r = some u ∧
      wpAny (model X.prog X.w) X.A (letOwnedTupleGo (.Tuple elts kk tpos) (.ref e) u) (fun _ s2 => ∃ x H', Inv X pins σ H' s2 ∧ RelV x u ∧ (∃ T y, x = .ref T ∧ H T = none ∧ H' = upd H T (.tup [.int ((i : Nat) : Int), y]) ∧ Py y) ∧
        ((∃ old, IsEnum s2.heap e it ((i + 1 : Nat) : Int) old) ∧ St2 s2.heap) ∧ ∀ b ∈ [e, it], H' b = none) E s1) E s := by
  have hel : e < s.heap.objs.size := Heap.lt_size he
  refine wpAny_pyNext_enum_itemD D he hst hlt hne hef fun u h1 tk hPu ho hst1 hT hsz hk => ?_
  obtain ⟨y, ry, hy⟩ := hP u hPu
  refine ⟨_, rfl, wpAny_letOwnedTupleGo_enum (s := { s with heap := h1, toks := tk + 1 }) ho fun h2 he2 sb => ?_⟩
  have hT2 : h2.get? s.heap.objs.size = some { cls := .type "tuple", data := .seq #[.int i tk, u] } := (sb.2 _ (Nat.ne_of_gt hel)).trans hT
  have new : ObjOk X.prog X.w (upd H s.heap.objs.size (.tup [.int ((i : Nat) : Int), y])) h2 s.heap.objs.size (.tup [.int ((i : Nat) : Int), y]) :=
    ⟨by show 2 ≤ sizeLine; decide, [.int i tk, u], .cons ⟨_, rfl⟩ (.cons ry .nil), ⟨_, hT2, rfl, _, rfl⟩⟩
  have J : Inv X pins σ (upd H s.heap.objs.size (.tup [.int ((i : Nat) : Int), y])) { s with heap := h2, toks := tk + 1 } := by
    refine I.turnedNew (ch := [e, it]) (fun b ob hb q => ?_) hf (Nat.le_refl _) new
    have b1 : b ≠ e := fun z => hb (z ▸ List.mem_cons_self ..)
    have b2 : b ≠ it := fun z => hb (z ▸ List.mem_cons_of_mem _ (List.mem_cons_self ..))
    exact (sb.2 b b1).trans (hk b ob b1 b2 q)
  refine ⟨.ref s.heap.objs.size, _, J, rfl, ⟨_, y, rfl, I.hok.fresh (Nat.le_refl _), rfl, hy⟩, ⟨⟨u, ?_⟩, hS h1 h2 hst1 fun b hb => sb.2 b hb⟩, fun b hb => ?_⟩
  · rw [show ((i + 1 : Nat) : Int) = (i : Int) + 1 by omega]
    exact he2
  · have lt : b < s.heap.objs.size := by
      rcases List.mem_cons.mp hb with rfl | hb
      · exact hel
      · rw [List.mem_singleton.mp hb]; exact hil
    rw [upd_ne (Nat.ne_of_lt lt)]
    exact (hf b hb).1
/-- the tuple at a, each item in a new pair -/
def ItEt (K : PySem.W.Frag) (a : Addr) : It :=
  ⟨fun i H => ∃ (xs : List V) (x : V), SqT K H a xs ∧ xs[i]? = some x, fun i H v H' => ∃ T x, v = .ref T ∧ H T = none ∧ H' = upd H T (.tup [.int ((i : Nat) : Int), x]) ∧ ∀ xs, SqT K H a xs → xs[i]? = some x, fun i H => ∃ xs : List V, SqT K H a xs ∧ xs.length ≤ i⟩
/-- the text z, each sign in a new pair -/
def ItEs (z : Str) : It :=
  ⟨fun i _ => i < z.cps.size, fun i H v H' => ∃ T x, v = .ref T ∧ H T = none ∧ H' = upd H T (.tup [.int ((i : Nat) : Int), x]) ∧ ∃ c, z.cps[i]? = some c ∧ x = .str ⟨#[c]⟩, fun i _ => z.cps.size ≤ i⟩
theorem turn_enumT {P : Program} {w : World} {K : PySem.W.Frag} {elts : List Expr} {kk : Nat} {tpos : Pos} (a e it : Addr) :
    Turn P w K (.Tuple elts kk tpos) (ItEt K a) [e, it] e (fun i h => ((∃ old, IsEnum h e it ((i : Nat) : Int) old) ∧ h.IsTupleIter it a i) ∧ e ≠ it ∧ e ≠ a ∧ a ≠ it) where
  mem := by simp
  obj := fun i h st b hb => by
    obtain ⟨⟨⟨old, he⟩, o, ho, _, hd⟩, _⟩ := st
    rcases List.mem_cons.mp hb with rfl | hb
    · exact ⟨_, he, fun v q => by cases q⟩
    · rw [List.mem_singleton.mp hb]
      exact ⟨o, ho, fun v q => by rw [hd] at q; cases q⟩
  keep := fun i h h' st k => by
    obtain ⟨⟨⟨old, he⟩, hi⟩, r⟩ := st
    exact ⟨⟨⟨old, k e (by simp) _ he⟩, hi.at fun o q => k it (by simp) o q⟩, r⟩
  item := by
    intro X hP hw hK hc i pins s σ H E I hf st hg
    subst hP hw hK
    obtain ⟨⟨⟨old, he⟩, hit⟩, hne, hea, hai⟩ := st
    obtain ⟨xs, x, hq, hx⟩ := hg
    obtain ⟨its, rv, p, hz⟩ := I.tuple hq
    have hil : it < s.heap.objs.size := by obtain ⟨_, q, _⟩ := hit; exact Heap.lt_size q
    have hi : i < its.toArray.size := by
      have h1 := rv.length
      have h2 : i < xs.length := (List.getElem?_eq_some_iff.mp hx).1
      rw [List.size_toArray]
      omega
    refine wpAny_mono (enum_turn (elts := elts) (kk := kk) (tpos := tpos) (Py := fun y => xs[i]? = some y) (St2 := fun h => h.IsTupleIter it a (i + 1)) (Draws.tuple (prog := X.prog) (w := X.w) (A := X.A.in1) (I.ok.hd hc) it a hai its.toArray) I hf he ⟨hit, p⟩ hi hne (by simp [hne, hea]) hil (fun u hu => ?_) (fun h h' q k => q.1.at fun o y => (k it (Ne.symm hne)).trans y)) (fun r s1 hr => ?_) fun _ _ z => z
    · obtain ⟨u2, hu2, ru⟩ := rv.get hx
      have e2 : u2 = u := Option.some.inj (hu2.symm.trans (by simpa using hu))
      subst e2
      exact ⟨x, ru, hx⟩
    · obtain ⟨u, e1, h2⟩ := hr
      refine ⟨u, e1, wpAny_mono h2 (fun _ s2 hs => ?_) fun _ _ z => z⟩
      obtain ⟨y, H', J, ry, ⟨T, y', h3, h4, h5, h6⟩, ⟨h7, h8⟩, h9⟩ := hs
      exact ⟨y, H', J, ry, ⟨T, y', h3, h4, h5, fun ys hy => by rw [I.tuple_inj hy hq]; exact h6⟩, ⟨⟨h7, h8⟩, hne, hea, hai⟩, h9⟩
  done := by
    intro X hP hw hK hc i pins s σ H E I hf st hg
    subst hP hw hK
    obtain ⟨⟨⟨old, he⟩, hit⟩, hne, hea, hai⟩ := st
    obtain ⟨xs, hq, hx⟩ := hg
    obtain ⟨its, rv, p, hz⟩ := I.tuple hq
    obtain ⟨f0, f1, f2, f3, f4, f5⟩ := hf it (by simp)
    have hl := rv.length
    obtain ⟨o, ho, hc2, hd⟩ := hit
    -- the iterator stands at the end or behind it
    have D : Draws X.prog X.w X.A.in1 it [it, a] i (fun i v => its.toArray[i]? = some v) (fun j h => j = i ∧ h.IsTupleIter it a i ∧ h.IsTuple a its.toArray) := {
      live := fun _ _ q => let ⟨o, ho, _⟩ := q.2.1; ⟨o, ho⟩
      frame := fun _ _ _ q hk => ⟨q.1, q.2.1.at fun o e => hk it (by simp) o e, q.2.2.at fun o e => hk a (by simp) o e⟩
      item := fun j _ _ _ hj q _ => absurd q.1 (Nat.ne_of_lt hj)
      done := fun s Q E q hE => wpAny_nextOf_tuple_end (I.ok.hd hc) q.2.1 q.2.2 (by simp; omega) hE }
    exact wpAny_pyNext_enum_endD D he ⟨rfl, ⟨o, ho, hc2, hd⟩, p⟩ fun h' eb => ⟨rfl, I.turned (t' := s.toks) (fun b o hb q => eb b o hb q) f0 f1 f3 f4 f5⟩
  self := fun A i s Q E st h => let ⟨⟨⟨_, he⟩, _⟩, _⟩ := st; wpAny_pyIter_enum he h
theorem turn_enumS {P : Program} {w : World} {K : PySem.W.Frag} {elts : List Expr} {kk : Nat} {tpos : Pos} (z : Str) (t : Tok) (e it : Addr) :
    Turn P w K (.Tuple elts kk tpos) (ItEs z) [e, it] e (fun i h => ((∃ old, IsEnum h e it ((i : Nat) : Int) old) ∧ h.IsStrIter it (strIterType z) z t i) ∧ e ≠ it ∧ i ≤ z.cps.size) where
  mem := by simp
  obj := fun i h st b hb => by
    obtain ⟨⟨⟨old, he⟩, o, ho, _, hd⟩, _⟩ := st
    rcases List.mem_cons.mp hb with rfl | hb
    · exact ⟨_, he, fun v q => by cases q⟩
    · rw [List.mem_singleton.mp hb]
      exact ⟨o, ho, fun v q => by rw [hd] at q; cases q⟩
  keep := fun i h h' st k => by
    obtain ⟨⟨⟨old, he⟩, o, ho, r1⟩, r⟩ := st
    exact ⟨⟨⟨old, k e (by simp) _ he⟩, ⟨o, k it (by simp) _ ho, r1⟩⟩, r⟩
  item := by
    intro X hP hw hK hc i pins s σ H E I hf st hg
    subst hP hw hK
    obtain ⟨⟨⟨old, he⟩, hit⟩, hne, _⟩ := st
    have hi : i < z.cps.size := hg
    have hil : it < s.heap.objs.size := by obtain ⟨_, q, _⟩ := hit; exact Heap.lt_size q
    refine wpAny_mono (enum_turn (elts := elts) (kk := kk) (tpos := tpos) (Py := fun y => ∃ c, z.cps[i]? = some c ∧ y = .str ⟨#[c]⟩) (St2 := fun h => h.IsStrIter it (strIterType z) z t (i + 1)) (Draws.text (prog := X.prog) (w := X.w) (A := X.A.in1) (I.ok.hd hc) it z t) I hf he hit hi hne (by simp [hne]) hil (fun u hu => ?_)
      (fun h h' q k => let ⟨o, ho, r⟩ := q; ⟨o, (k it (Ne.symm hne)).trans ho, r⟩)) (fun r s1 hr => ?_) fun _ _ z => z
    · obtain ⟨c, t2, hc2, rfl⟩ := hu
      exact ⟨.str ⟨#[c]⟩, ⟨t2, rfl⟩, c, hc2, rfl⟩
    · obtain ⟨u, e1, h2⟩ := hr
      refine ⟨u, e1, wpAny_mono h2 (fun _ s2 hs => ?_) fun _ _ z => z⟩
      obtain ⟨y, H', J, ry, ⟨T, y', h3, h4, h5, h6⟩, ⟨h7, h8⟩, h9⟩ := hs
      exact ⟨y, H', J, ry, ⟨T, y', h3, h4, h5, h6⟩, ⟨⟨h7, h8⟩, hne, hi⟩, h9⟩
  done := by
    intro X hP hw hK hc i pins s σ H E I hf st hg
    subst hP hw hK
    obtain ⟨⟨⟨old, he⟩, hit⟩, hne, hi⟩ := st
    have hi2 : z.cps.size ≤ i := hg
    obtain rfl : i = z.cps.size := by omega
    obtain ⟨f0, f1, f2, f3, f4, f5⟩ := hf it (by simp)
    exact wpAny_pyNext_enum_endD (Draws.text (prog := X.prog) (w := X.w) (A := X.A.in1) (I.ok.hd hc) it z t) he hit fun h' eb => ⟨rfl, I.turned (t' := s.toks) (fun b o hb q => eb b o hb q) f0 f1 f3 f4 f5⟩
  self := fun A i s Q E st h => let ⟨⟨⟨_, he⟩, _⟩, _⟩ := st; wpAny_pyIter_enum he h
/-- enumerate(v): v a list, a tuple or a text -/
def iEnumQ (K : PySem.W.Frag) (ta : TA) : TI := fun σ H R => ta σ H fun vs H1 => (∃ a xs, vs = [.ref a] ∧ SqL K H1 a xs ∧ R (Ite K a) H1) ∨ (∃ a xs, vs = [.ref a] ∧ SqT K H1 a xs ∧ R (ItEt K a) H1) ∨ ∃ z, vs = [.str z] ∧ R (ItEs z) H1
theorem pi_enumQ {X : Cx} {e : Expr} {ta : TA} {p pos tpos : Pos} {elts : List Expr} {kk : Nat} (hg : Gl X "enumerate") (hm : X.mg "enumerate" = none) (ha : PA X [e] ta) (hs : starEach [e] X.env = [(false, eval e X.env)] := by rfl) :
    PI X (.Tuple elts kk tpos) (.Call (.Name "enumerate" p) [e] [] pos) (iEnumQ X.K ta) := by
  refine ⟨fun pins s σ H R I h => Call_ (ld_blt I hg hm boot_enumerate (PyProof.Rows.callWith_type1 (thn (ha.run pos pins s σ H _ I h) fun us s1 hh => ?_) hs rfl))⟩
  obtain ⟨vs, H1, I1, r1, q1⟩ := hh
  have n1 : s1.heap.objs.size ≤ s1.heap.objs.size + 1 := Nat.le_succ _
  have new : ∀ b ∈ [s1.heap.objs.size + 1, s1.heap.objs.size], FpOk X pins H1 b := fun b hb => by
    have hle : s1.heap.objs.size ≤ b := by
      rcases List.mem_cons.mp hb with rfl | hb
      · exact n1
      · rw [List.mem_singleton.mp hb]; exact Nat.le_refl _
    exact I1.fpOk hle (I1.hok.fresh hle)
  rcases q1 with ⟨a, xs, rfl, hq, q⟩ | ⟨a, xs, rfl, hq, q⟩ | ⟨z, rfl, q⟩
  · match r1 with
    | .cons ra .nil =>
      cases (show _ = Value.ref a from ra)
      obtain ⟨its, rv, p', hz⟩ := I1.list hq
      refine enum1 (begins_list a its.toArray) p'.isList (F.typeCall_enumerate_1 _) (F.newCall_enumerate_1 _) fun h' he hit hk => wpAny_pyIter_enum he ?_
      exact ⟨s1.heap.objs.size + 1, _, _, _, H1, rfl, I1.kept (t' := s1.toks) hk, turn_enum a (s1.heap.objs.size + 1) s1.heap.objs.size, ⟨⟨.none, he⟩, ⟨_, hit, rfl, rfl⟩, Nat.succ_ne_self _⟩, new, q⟩
  · match r1 with
    | .cons ra .nil =>
      cases (show _ = Value.ref a from ra)
      obtain ⟨its, rv, p', hz⟩ := I1.tuple hq
      have hal : a < s1.heap.objs.size := by obtain ⟨_, y, _⟩ := p'; exact Heap.lt_size y
      refine enum1 (begins_tuple a its.toArray) p' (F.typeCall_enumerate_1 _) (F.newCall_enumerate_1 _) fun h' he hit hk => wpAny_pyIter_enum he ?_
      exact ⟨s1.heap.objs.size + 1, _, _, _, H1, rfl, I1.kept (t' := s1.toks) hk, turn_enumT a (s1.heap.objs.size + 1) s1.heap.objs.size, ⟨⟨⟨.none, he⟩, ⟨_, hit, rfl, rfl⟩⟩, Nat.succ_ne_self _, Nat.ne_of_gt (Nat.lt_succ_of_lt hal), Nat.ne_of_lt hal⟩, new, q⟩
  · match r1 with
    | .cons ra .nil =>
      obtain ⟨t, rfl⟩ := ra
      refine enum1 (begins_text z t) trivial (F.typeCall_enumerate_1 _) (F.newCall_enumerate_1 _) fun h' he hit hk => wpAny_pyIter_enum he ?_
      exact ⟨s1.heap.objs.size + 1, _, _, _, H1, rfl, I1.kept (t' := s1.toks) hk, turn_enumS z t (s1.heap.objs.size + 1) s1.heap.objs.size, ⟨⟨⟨.none, he⟩, ⟨_, hit, rfl, rfl⟩⟩, Nat.succ_ne_self _, Nat.zero_le _⟩, new, q⟩
end
section
variable {K : PySem.W.Frag} {a : Addr} {xs : List V}
theorem walk_enumT : Walk (ItEt K a) xs.length (fun H => SqT K H a xs) (YPair (fun i => some (.int ((i : Nat) : Int))) (fun i => xs[i]?)) := by
  refine ⟨fun i _ hi q => ⟨xs, xs[i], q, by simp [hi]⟩, fun _ q => ⟨xs, q, Nat.le_refl _⟩, fun i H v H' _ q y => ?_⟩
  obtain ⟨T, x, h1, h2, h3, h4⟩ := y
  exact ⟨T, _, x, h1, h2, h3, rfl, h4 xs q⟩
theorem walk_enumS {z : Str} : Walk (ItEs z) z.cps.size (fun _ => True) (YPair (fun i => some (.int ((i : Nat) : Int))) (fun i => z.cps[i]?.map fun c => V.str ⟨#[c]⟩)) := by
  refine ⟨fun i _ hi _ => hi, fun _ _ => Nat.le_refl _, fun i H v H' _ _ y => ?_⟩
  obtain ⟨T, x, h1, h2, h3, c, h4, rfl⟩ := y
  exact ⟨T, _, _, h1, h2, h3, rfl, by show (z.cps[i]?).map _ = _; rw [h4]; rfl⟩
end

/-! ## types of data -/
section
open PyProof.Rows
def D.tyn : D → String
  | .non => "NoneType" | .bl _ => "bool" | .int _ => "int" | .str _ => "str" | .lst _ => "list" | .tup _ => "tuple" | .dct => "dict"
theorem Rp.ty {K : PySem.W.Frag} {S : List Addr} {H : Hp} {v : V} {d : D} (r : Rp S H v d) : TyX K H v (.type d.tyn) := by
  cases r with
  | non => exact .base .non
  | bl b => exact .base (.bl b)
  | int i => exact .base (.int i)
  | str x => exact .base (.str x)
  | lst _ e _ => exact .base (.lst e)
  | tup _ e _ => exact .base (.tup e)
  | dct _ e => exact .base (.dK e)
/-- isinstance(x, T), T a built-in class -/
def D.isa (T : String) : D → Bool := fun d => d.tyn == T || (d.tyn == "bool" && T == "int")
theorem kit_isa (K : PySem.W.Frag) (d : D) {T : String} (h : T ∈ ["bool", "int", "str", "list", "tuple"]) : PySem.W.kitOne K (.type d.tyn) (.type T) = some (d.isa T) := by
  simp only [List.mem_cons, List.mem_nil_iff, or_false] at h
  rcases h with rfl | rfl | rfl | rfl | rfl <;> cases d <;> kernel_rfl
theorem kit_listed (K : PySem.W.Frag) (d : D) : PySem.W.kitAny K (.type d.tyn) [.type "tuple", .type "list"] = some (d.isa "tuple" || d.isa "list") := by
  cases d <;> kernel_rfl
end
theorem Rp.same {S : List Addr} {H H' : Hp} {v : V} {d : D} (r : Rp S H v d) (s : Same H H') : Rp S H' v d := r.keep (fun b o _ e => s b o e)
theorem Rps.same {S : List Addr} {H H' : Hp} {v : List V} {d : List D} (r : Rps S H v d) (s : Same H H') : Rps S H' v d := r.keep (fun b o _ e => s b o e)
theorem kit_lit {K : PySem.W.Frag} {d : D} {T : String} {b : Bool} (h : T ∈ ["bool", "int", "str", "list", "tuple"]) (e : d.isa T = b) : PySem.W.kitOne K (.type d.tyn) (.type T) = some b := by
  rw [← e]
  exact kit_isa K d h

/-! ## comprehensions without a filter: the i-th item stands for f i -/
theorem keep1 {H1 H : Hp} {L : Addr} (hD : H1 L = none) (k : Keep [L] H1 H) : Same H1 H := fun b o e => k b o (fun hm => by rw [List.mem_singleton.mp hm, hD] at e; cases e) e
theorem Wd.nil {H : Hp} : Wd [] [] H := ⟨by simp, by simp, by simp⟩
theorem Go.nil {H H' : Hp} (g : Go [] H H') : Same H H' := fun b o e => g.keep b o (by simp) e
theorem lc_F {J : It} {n : Nat} {G : Hp → Prop} {Y : Nat → Hp → V → Hp → Prop} {j : Nat} {te : TE} {vs : List Nat} {σ : L2.St} {H1 : Hp} {L : Addr} {Qd : Hp → Prop} {Xp : Nat → V → Prop}
    (f : Nat → D) (w : Walk J n G Y) (hY : ∀ i H x H', i < n → Y i H x H' → H' = H ∧ Xp i x) (hD : H1 L = none) (hn : n ≤ 100000) (hG : ∀ H, Same H1 H → G H) (hw : ∀ x, wipe ((wipe σ vs).set j (some x)) vs = wipe σ vs)
    (hs : ∀ i x H, i < n → Xp i x → Same H1 H → ∀ Kt : V → Hp → Prop, (∀ y H', Same H H' → Rp [L] H' y (f i) → Kt y H') → te ((wipe σ vs).set j (some x)) H Kt)
    (hd : ∀ ys H, Same H1 H → H L = some (.lst ys) → Rps [] H ys ((List.range n).map f) → Qd H) :
    ∃ W : Nat → Nat → Hp → Prop, (∃ m, W 0 m (upd H1 L (.lst []))) ∧ ∀ i m H, W i m H →
      (J.stop i H ∧ Qd H) ∨ (J.go i H ∧ ∃ Nx : Hp → Prop, (∀ H', Nx H' → ∃ m', m' < m ∧ W (i + 1) m' H') ∧ ∀ x H', J.yld i H x H' → gName j x (wipe σ vs) H' fun σ2 H2 => wipe σ2 vs = wipe σ vs ∧ tYes σ2 H2 fun b H3 =>
        if b = true then te σ2 H3 fun y H4 => ∃ acc, H4 L = some (.lst acc) ∧ acc.length < sizeLine ∧ Nx (upd H4 L (.lst (acc ++ [y]))) else Nx H3) := by
  refine lc_D (A := []) (S := []) (Xp := Xp) (fun i ds => ds = (List.range i).map f) w hY Wd.nil hD hn (fun H k => hG H (keep1 hD k)) rfl (fun i ds h => by rw [h]; simp) hw (fun i ds x H hi h hx W k Kt Kf ht hf => ?_) (fun ys ds H h g e r => ?_)
  · exact yes_go (hs i x H hi hx (keep1 hD k) Kt fun y H' s r => ht y (f i) H' (Go.same s) r (by rw [h, List.range_succ, List.map_append]; rfl))
  · subst h
    exact hd ys H g.nil e (r.less fun _ q => by cases q)
theorem Rps.bls_eq {S : List Addr} {H : Hp} {n : Nat} {g : Nat → Bool} : ∀ {vs : List V} {l : List Nat}, Rps S H vs (l.map fun i => D.bl (g i)) → vs = (l.map g).map V.bl
  | _, [], .nil => rfl
  | _, i :: r, .cons (.bl _) t => by rw [Rps.bls_eq (n := n) t]; rfl
theorem al_any (sm : List Nat) : ∀ l : List Nat, 1 ≤ l.length → l.length ≤ 3 → (l.all fun c => sm.contains c) = !(((List.range l.length).map fun i => !decide (l.getD i 0 ∈ sm)).any id)
  | [], h, _ => by simp at h
  | [a], _, _ => by simp [List.range_succ]
  | [a, b], _, _ => by simp [List.range_succ]
  | [a, b, c], _, _ => by simp [List.range_succ]
  | _ :: _ :: _ :: _ :: _, _, h => by simp at h
theorem al_asc : ∀ l : List Nat, 1 ≤ l.length → l.length ≤ 3 → decide (l.Pairwise (· < ·)) = ((List.range (l.length - 1)).map fun i => decide (l.getD i 0 < l.getD (i + 1) 0)).all id
  | [], h, _ => by simp at h
  | [a], _, _ => by simp [List.range_succ]
  | [a, b], _, _ => by simp [List.range_succ]
  | [a, b, c], _, _ => by
    rw [Bool.eq_iff_iff, decide_eq_true_iff]
    have e : (List.range ([a, b, c].length - 1)) = [0, 1] := by rfl
    rw [e]
    simp
    omega
  | _ :: _ :: _ :: _ :: _, _, h => by simp at h
theorem lt_sign (a b : Nat) : decide (([a] : List Nat) < [b]) = decide (a < b) := by
  by_cases h : a < b
  · rw [decide_eq_true h, decide_eq_true]
    exact List.Lex.rel h
  · rw [decide_eq_false h, decide_eq_false]
    intro z
    cases z with
    | rel h2 => exact h h2
    | cons h2 => cases h2
/-- a new pair, unpacked -/
theorem gTup2 {K : PySem.W.Frag} {p : Addr} {u v : V} {i j : Nat} {σ : L2.St} {H : Hp} {Q : L2.St → Hp → Prop} (q : Q ((σ.set i (some u)).set j (some v)) (upd H p (.tup [u, v]))) : gTup K 2 (gCons (gName i) (gCons (gName j) gNil)) (.ref p) σ (upd H p (.tup [u, v])) Q :=
  ⟨p, _, rfl, .inl (.inl upd_same), rfl, _, _, rfl, _, _, rfl, rfl, q⟩

/-! ## a list or a tuple, walked -/
section
open PyProof.Rows
/-- a list or a tuple -/
def SqQ (K : PySem.W.Frag) (H : Hp) (a : Addr) (xs : List V) : Prop := SqL K H a xs ∨ SqT K H a xs
theorem Rd.same {H H' : Hp} {a : Addr} {u : HO} (h : Rd H a u) (s : Same H H') : Rd H' a u := h.imp (s _ _) fun ⟨o, e⟩ => ⟨o, s _ _ e⟩
theorem SqL.same {K : PySem.W.Frag} {H H' : Hp} {a : Addr} {xs : List V} (h : SqL K H a xs) (s : Same H H') : SqL K H' a xs := h.imp (fun r => Rd.same r s) id
theorem SqT.same {K : PySem.W.Frag} {H H' : Hp} {a : Addr} {xs : List V} (h : SqT K H a xs) (s : Same H H') : SqT K H' a xs := h.imp (fun r => Rd.same r s) id
theorem SqQ.same {K : PySem.W.Frag} {H H' : Hp} {a : Addr} {xs : List V} (h : SqQ K H a xs) (s : Same H H') : SqQ K H' a xs := h.imp (fun r => SqL.same r s) fun r => SqT.same r s
def D.seq? : D → Option (List D)
  | .lst ds => some ds
  | .tup ds => some ds
  | _ => none
theorem Rp.seq {K : PySem.W.Frag} {S : List Addr} {H : Hp} {v : V} {d : D} {ds : List D} (r : Rp S H v d) (e : d.seq? = some ds) : ∃ a xs, v = .ref a ∧ SqQ K H a xs ∧ Rps S H xs ds := by
  cases r with
  | lst n ha rs => cases e; exact ⟨_, _, rfl, .inl (SqL.of ha), rs⟩
  | tup n ha rs => cases e; exact ⟨_, _, rfl, .inr (.inl (.inl ha)), rs⟩
  | _ => cases e
/-- over the items of it, whatever walks them -/
def iSeqW (K : PySem.W.Frag) (te : TE) : TI := fun σ H R => te σ H fun x H1 => ∃ a xs, x = .ref a ∧ SqQ K H1 a xs ∧ ∀ (J : It) (G : Hp → Prop), Walk J xs.length G (YAt xs) → (∀ H2, Same H1 H2 → G H2) → R J H1
theorem pi_seqW {X : Cx} {tg e : Expr} {te : TE} (he : PE X e te) : PI X tg e (iSeqW X.K te) := by
  refine ⟨fun pins s σ H R I h => thn (he.run pins s σ H _ I h) fun v s1 hh => ?_⟩
  obtain ⟨x, H1, I1, r1, a, xs, rfl, hq, k⟩ := hh
  cases (show v = Value.ref a from r1)
  have fp : ∀ b ∈ [s1.heap.objs.size], FpOk X pins H1 b := fun b hb => by
    rw [List.mem_singleton.mp hb]
    exact I1.fpOk (Nat.le_refl _) (I1.hok.fresh (Nat.le_refl _))
  rcases hq with hq | hq
  · obtain ⟨its, rv, p, hz⟩ := I1.list hq
    exact wpAny_pyIter_list p.isList ⟨_, _, _, _, H1, rfl, I1.kept (t' := s1.toks) fun b o e => Heap.get?_push_of_some _ e, turn_list a _, ⟨_, Heap.get?_push_size _ rfl, rfl, rfl⟩, fp, k _ _ walk_list fun H2 s => SqL.same hq s⟩
  · obtain ⟨its, rv, p, hz⟩ := I1.tuple hq
    exact wpAny_pyIter_tuple (show s1.heap.IsTuple a its.toArray from p) ⟨_, _, _, _, H1, rfl, I1.kept (t' := s1.toks) fun b o e => Heap.get?_push_of_some _ e, turn_tuple a _, ⟨_, Heap.get?_push_size _ rfl, rfl, rfl⟩, fp, k _ _ walk_tup fun H2 s => SqT.same hq s⟩
/-- enumerate of it -/
def iEnumW (K : PySem.W.Frag) (ta : TA) : TI := fun σ H R => ta σ H fun vs H1 => ∃ a xs, vs = [.ref a] ∧ SqQ K H1 a xs ∧ ∀ (J : It) (G : Hp → Prop), Walk J xs.length G (YPair (fun i => some (.int ((i : Nat) : Int))) (fun i => xs[i]?)) → (∀ H2, Same H1 H2 → G H2) → R J H1
theorem pi_enumW {X : Cx} {e : Expr} {ta : TA} {p pos tpos : Pos} {elts : List Expr} {kk : Nat} (hg : Gl X "enumerate") (hm : X.mg "enumerate" = none) (ha : PA X [e] ta) (hs : starEach [e] X.env = [(false, eval e X.env)] := by rfl) :
    PI X (.Tuple elts kk tpos) (.Call (.Name "enumerate" p) [e] [] pos) (iEnumW X.K ta) := by
  refine ⟨fun pins s σ H R I h => Call_ (ld_blt I hg hm boot_enumerate (PyProof.Rows.callWith_type1 (thn (ha.run pos pins s σ H _ I h) fun us s1 hh => ?_) hs rfl))⟩
  obtain ⟨vs, H1, I1, r1, a, xs, rfl, hq, k⟩ := hh
  have new : ∀ b ∈ [s1.heap.objs.size + 1, s1.heap.objs.size], FpOk X pins H1 b := fun b hb => by
    have hle : s1.heap.objs.size ≤ b := by
      rcases List.mem_cons.mp hb with rfl | hb
      · exact Nat.le_succ _
      · rw [List.mem_singleton.mp hb]; exact Nat.le_refl _
    exact I1.fpOk hle (I1.hok.fresh hle)
  match r1 with
  | .cons ra .nil =>
    cases (show _ = Value.ref a from ra)
    rcases hq with hq | hq
    · obtain ⟨its, rv, p', hz⟩ := I1.list hq
      refine enum1 (begins_list a its.toArray) p'.isList (F.typeCall_enumerate_1 _) (F.newCall_enumerate_1 _) fun h' he hit hk => wpAny_pyIter_enum he ?_
      exact ⟨s1.heap.objs.size + 1, _, _, _, H1, rfl, I1.kept (t' := s1.toks) hk, turn_enum a (s1.heap.objs.size + 1) s1.heap.objs.size, ⟨⟨.none, he⟩, ⟨_, hit, rfl, rfl⟩, Nat.succ_ne_self _⟩, new, k _ _ walk_enum fun H2 s => SqL.same hq s⟩
    · obtain ⟨its, rv, p', hz⟩ := I1.tuple hq
      have hal : a < s1.heap.objs.size := by obtain ⟨_, y, _⟩ := p'; exact Heap.lt_size y
      refine enum1 (begins_tuple a its.toArray) p' (F.typeCall_enumerate_1 _) (F.newCall_enumerate_1 _) fun h' he hit hk => wpAny_pyIter_enum he ?_
      exact ⟨s1.heap.objs.size + 1, _, _, _, H1, rfl, I1.kept (t' := s1.toks) hk, turn_enumT a (s1.heap.objs.size + 1) s1.heap.objs.size, ⟨⟨⟨.none, he⟩, ⟨_, hit, rfl, rfl⟩⟩, Nat.succ_ne_self _, Nat.ne_of_gt (Nat.lt_succ_of_lt hal), Nat.ne_of_lt hal⟩, new, k _ _ walk_enumT fun H2 s => SqT.same hq s⟩
end
/-- as lc_F, the items apart from S -/
theorem lc_FS {J : It} {n : Nat} {G : Hp → Prop} {Y : Nat → Hp → V → Hp → Prop} {j : Nat} {te : TE} {vs : List Nat} {σ : L2.St} {H1 : Hp} {L : Addr} {Qd : Hp → Prop} {Xp : Nat → V → Prop}
    (S : List Addr) (f : Nat → D) (w : Walk J n G Y) (hY : ∀ i H x H', i < n → Y i H x H' → H' = H ∧ Xp i x) (hS : ∀ a ∈ S, ∃ o, H1 a = some o) (hD : H1 L = none) (hn : n ≤ 100000) (hG : ∀ H, Same H1 H → G H) (hw : ∀ x, wipe ((wipe σ vs).set j (some x)) vs = wipe σ vs)
    (hs : ∀ i x H, i < n → Xp i x → Same H1 H → (∀ a ∈ L :: S, ∃ o, H a = some o) → ∀ Kt : V → Hp → Prop, (∀ y H', Same H H' → Rp (L :: S) H' y (f i) → Kt y H') → te ((wipe σ vs).set j (some x)) H Kt)
    (hd : ∀ ys H, Same H1 H → H L = some (.lst ys) → Rps S H ys ((List.range n).map f) → Qd H) :
    ∃ W : Nat → Nat → Hp → Prop, (∃ m, W 0 m (upd H1 L (.lst []))) ∧ ∀ i m H, W i m H →
      (J.stop i H ∧ Qd H) ∨ (J.go i H ∧ ∃ Nx : Hp → Prop, (∀ H', Nx H' → ∃ m', m' < m ∧ W (i + 1) m' H') ∧ ∀ x H', J.yld i H x H' → gName j x (wipe σ vs) H' fun σ2 H2 => wipe σ2 vs = wipe σ vs ∧ tYes σ2 H2 fun b H3 =>
        if b = true then te σ2 H3 fun y H4 => ∃ acc, H4 L = some (.lst acc) ∧ acc.length < sizeLine ∧ Nx (upd H4 L (.lst (acc ++ [y]))) else Nx H3) := by
  refine lc_D (A := []) (S := S) (Xp := Xp) (fun i ds => ds = (List.range i).map f) w hY ⟨by simp, by simp, hS⟩ hD hn (fun H k => hG H (keep1 hD k)) rfl (fun i ds h => by rw [h]; simp) hw (fun i ds x H hi h hx W k Kt Kf ht hf => ?_) (fun ys ds H h g e r => ?_)
  · exact yes_go (hs i x H hi hx (keep1 hD k) W.ex Kt fun y H' s r => ht y (f i) H' (Go.same s) r (by rw [h, List.range_succ, List.map_append]; rfl))
  · subst h
    exact hd ys H g.nil e (r.less fun _ q => List.mem_cons_of_mem _ q)
theorem Rps.item {S : List Addr} {H : Hp} {xs : List V} {ds : List D} {i : Nat} {x : V} (r : Rps S H xs ds) (h : xs[i]? = some x) : ∃ d, ds[i]? = some d ∧ Rp S H x d := r.getV h
section
open PyProof.Rows
/-- len, tuple, list of a list or a tuple, the written part named -/
def rLenQ (K : PySem.W.Frag) : List V → Hp → VK → Prop := fun xs H Q => ∃ p ys, xs = [.ref p] ∧ SqQ K H p ys ∧ Q (.int (ys.length : Int)) H
def rTupQ (K : PySem.W.Frag) : List V → Hp → VK → Prop := fun xs H Q => ∃ p ys, xs = [.ref p] ∧ ((SqL K H p ys ∧ ∀ l, H l = none → Q (.ref l) (upd H l (.tup ys))) ∨ (SqT K H p ys ∧ Q (.ref p) H))
def rLstQ (K : PySem.W.Frag) : List V → Hp → VK → Prop := fun xs H Q => ∃ p ys, xs = [.ref p] ∧ SqQ K H p ys ∧ ∀ l, H l = none → Q (.ref l) (upd H l (.lst ys))
theorem call_lenQ {X : Cx} {K : PySem.W.Frag} (h : X.K = K) : CallR X (.builtin "len") (rLenQ K) := by
  subst h
  exact call_len_seq
theorem call_tupQ {X : Cx} {K : PySem.W.Frag} (h : X.K = K) : CallR X (.type "tuple") (rTupQ K) := by
  subst h
  exact call_tuple_of
theorem call_lstQ {X : Cx} {K : PySem.W.Frag} (h : X.K = K) : CallR X (.type "list") (rLstQ K) := by
  subst h
  exact call_list_of
end
section
open PyProof.Rows
def rIxQ (K : PySem.W.Frag) : R2 := fun x y H Q => ∃ p xs i v, x = .ref p ∧ y = .int i ∧ SqQ K H p xs ∧ atI xs i = some v ∧ Q v H
theorem ixQ {X : Cx} {K : PySem.W.Frag} (h : X.K = K) : IxR X (rIxQ K) := by
  subst h
  intro value slice pins s σ H x y v u Q I rx ry q hs
  obtain ⟨p, xs, i, z, e1, e2, hq, he, k⟩ := q
  rcases hq with hq | hq
  · exact ix_list value slice pins s σ H x y v u Q I rx ry ⟨p, xs, i, z, e1, e2, hq, he, k⟩ hs
  · exact ix_tup value slice pins s σ H x y v u Q I rx ry ⟨p, xs, i, z, e1, e2, hq, he, k⟩ hs
end
/-- data don't stand where other things stand -/
def NoData (H : Hp) (a : Addr) : Prop := (∀ xs, H a ≠ some (.lst xs)) ∧ (∀ xs, H a ≠ some (.tup xs)) ∧ ∀ kvs, H a ≠ some (.dK kvs)
mutual
theorem Rp.apart {S T : List Addr} {H : Hp} (h : ∀ a ∈ T, a ∈ S ∨ NoData H a) : ∀ {v : V} {d : D}, Rp S H v d → Rp T H v d
  | _, _, .non => .non
  | _, _, .bl b => .bl b
  | _, _, .int i => .int i
  | _, _, .str x => .str x
  | _, _, .lst n e r => .lst (fun q => (h _ q).elim n fun z => z.1 _ e) e (Rps.apart h r)
  | _, _, .tup n e r => .tup (fun q => (h _ q).elim n fun z => z.2.1 _ e) e (Rps.apart h r)
  | _, _, .dct n e => .dct (fun q => (h _ q).elim n fun z => z.2.2 _ e) e
theorem Rps.apart {S T : List Addr} {H : Hp} (h : ∀ a ∈ T, a ∈ S ∨ NoData H a) : ∀ {vs : List V} {ds : List D}, Rps S H vs ds → Rps T H vs ds
  | _, _, .nil => .nil
  | _, _, .cons r t => .cons (Rp.apart h r) (Rps.apart h t)
end
theorem noData_ins {H : Hp} {x C dx : Addr} {fs : List (Str × V)} (h : H x = some (.ins C dx fs)) : NoData H x := by
  refine ⟨fun xs z => ?_, fun xs z => ?_, fun xs z => ?_⟩ <;> rw [h] at z <;> cases z
theorem Rp.off {S : List Addr} {H : Hp} {x C dx : Addr} {fs : List (Str × V)} {v : V} {d : D} (r : Rp S H v d) (h : H x = some (.ins C dx fs)) : Rp (x :: S) H v d :=
  r.apart fun a ha => (List.mem_cons.mp ha).elim (fun e => .inr (by rw [e]; exact noData_ins h)) .inl
theorem Keep.same {S : List Addr} {H H' : Hp} (s : Same H H') : Keep S H H' := fun b o _ e => s b o e
theorem Keep.at1 {S : List Addr} {H : Hp} {x : Addr} {o : HO} (hx : x ∈ S) : Keep S H (L2.upd H x o) := Keep.upd hx
theorem pe_fldK {X : Cx} {K : PySem.W.Frag} {e : Expr} {ta : TE} {f : Str} {pos : Pos} (h : X.K = K) (he : PE X e ta) (hb : attributeBase e f X.env (eval e X.env) = eval e X.env := by rfl) : PE X (.Attribute e f pos) (tFld K ta f) := by
  subst h
  exact pe_fld he hb
section
open PyProof.Rows
/-- l.append(e), the written part named -/
theorem pe_append {X : Cx} {K : PySem.W.Frag} {o e : Expr} {to : TE} {t : TA} {apos cpos : Pos} (h : X.K = K) (ho : PE X o to) (ha : PA X [e] t)
    (hbase : attributeBase o "append" X.env (eval o X.env) = eval o X.env := by rfl)
    (hfew : ((backTo cpos (starEach [e] X.env)).all (fun x => !x.1) && (backToKw cpos (keywordEach [] X.env)).all (fun x => x.1.isSome)
      && decide ([e].length + ([] : List Keyword).length + (if ([] : List Keyword).isEmpty then 0 else 1) < 30)) = true := by rfl)
    (hline : (apos.endLine == cpos.line) = true := by rfl) (hs : starEach [e] X.env = (false, eval e X.env) :: starEach [] X.env := by rfl) (hplain : (backTo cpos (starEach [] X.env)).any (·.1) = false := by rfl) :
    PE X (.Call (.Attribute o "append" apos) [e] [] cpos) (tBM K "list" rAppend to t) := by
  subst h
  exact pe_bm PySem.F.plainAttrs_list PySem.F.slot_list_append PySem.F.type_list_append mt_append ho ha hbase hfew hline hs hplain
end

/-! ## an object made by a def that may let an exception out -/
section
open PyProof.Rows
variable {X : Cx} {k j : Nat} {f C : Addr} {fd : FuncData} {ps : List Str} {sp : Sp} {E : L2.St → XK} {x : Str} {p pos : Pos} {e : Expr} {es : List Expr} {t : TA}
def tMakeZ (C : Addr) (sp : Sp) (E : L2.St → XK) (t : TA) : TE := fun σ H Q => t σ H fun vs H1 => ∀ x dx, H1 x = none → H1 dx = none → dx ≠ x →
  sp (.ref x :: vs) (upd (upd H1 dx (.own x)) x (.ins C dx [])) (fun v H2 => v = .non ∧ Q (.ref x) H2) (E σ)
structure MakZ (P : Program) (w : World) (K : PySem.W.Frag) (mg : Str → Option Value) (base : Heap) (k : Nat) (x : Str) (C : Addr) (sp : Sp) : Prop where
  ex : ∃ (f : Addr) (fd : FuncData) (ps : List Str), Mk K C f ∧ FnZ (fun _ => True) P w K mg base k f fd ps sp ∧ mg x = some (.ref C) ∧ Binds K fd ps []
theorem pe_makeZ (c : MakZ X.prog X.w X.K X.mg X.base k x C sp) (hr : Room j X.A) (hk : k + 1 ≤ j) (hg : Gl X x) (hx : ∀ σ, PassesAt (L2N.CX X.prog X.w) X σ (E σ)) (ha : PA X (e :: es) t) (hdb : (x == ("__debug__" : Str)) = false := by decide)
    (he : starEach (e :: es) X.env = (false, eval e X.env) :: starEach es X.env := by rfl) (hpl : (backTo pos (starEach es X.env)).any (·.1) = false := by rfl) : PE X (.Call (.Name x p) (e :: es) [] pos) (tMakeZ C sp E t) := by
  obtain ⟨f, fd, ps, M, F, hm, b⟩ := c.ex
  refine ⟨fun pins s σ H Q I h => wpAny_Call_Name_kw (ld_glob I hg hm (PySem.W.callWith_K (h₀ := X.base) I.ok.mod.kin M.kp (thn (ha.run pos pins s σ H _ I h) fun us s1 hh => ?_) he hpl) hdb)⟩
  obtain ⟨vs, H1, I1, r, q⟩ := hh
  refine ⟨I1.kIn, ?_⟩
  have q1 := q (s1.heap.objs.size + 1) s1.heap.objs.size (I1.hok.fresh (Nat.le_succ _)) (I1.hok.fresh (Nat.le_refl _)) (Nat.ne_of_lt (Nat.lt_succ_self _))
  have J := Inv.made (C := C) I1
  have r2 : Vals (V.ref (s1.heap.objs.size + 1) :: vs) (Value.ref (s1.heap.objs.size + 1) :: us) := .cons rfl r
  have hl : (Value.ref (s1.heap.objs.size + 1) :: us ++ []).length = ps.length := by rw [List.append_nil, ← r2.length]; exact F.len _ _ _ _ q1
  have bb := b _ (Value.ref (s1.heap.objs.size + 1) :: us) J.kIn hl
  rw [List.append_nil] at bb
  have hr1 : Room (k + 1) X.A := hr.mono hk
  refine wpAny_call (make_map (f := f) I1.kIn M.makes M.init (beq_iff_eq.mp M.fn) (codeAny_mono (F.run _ X.stack _ _ ⟨Value.ref (s1.heap.objs.size + 1) :: us, []⟩ _ _ _ (E σ) trivial (hr1.make C us []) (J.env0.make C us []) bb r2 q1) ?_))
  rintro (er | fl) s2 hq
  · exact hx σ pins _ _ er s2 J hq
  · match fl, hq with
    | .ret u, hq =>
      obtain ⟨v, H2, I2, rv, ev, q3⟩ := J.after hq
      subst ev
      exact ⟨rv, ⟨V.ref (s1.heap.objs.size + 1), H2, I2, rfl, q3⟩⟩
    | .next, z => exact False.elim z
    | .brk, z => exact False.elim z
    | .cont, z => exact False.elim z
end
section
variable {P : Program} {w : World} {K : PySem.W.Frag} {mg : Str → Option Value} {base : Heap}
theorem makZ {x qual : Str} {C : Addr} {st : Stmt} {f : Addr} {fd : FuncData} {N ps : List Str} {k : Nat} {sp : Sp} (M : Mk K C f) (hm : mg x = some (.ref C)) (F : C8.Fun K "__init__" qual st f fd) (b : Binds K fd ps []) (S : FnScope N ps (C8.fnScope st)) (len : ∀ vs H Q E, sp vs H Q E → vs.length = ps.length)
    (hbody : ∀ (cdv : Value) (A : Around) (outer : List Env) (s : Shared) (H : Hp) (vs : List V) (Q : VK) (E : XK), Room k (A.deeper (PyProof.Rows.envOfC qual (C8.fnScope st) s.heap.objs.size f cdv)) → sp vs H Q E →
      ∃ t, PSs (cxG true [] (L2N.CX P w) P w K mg base N qual (C8.fnScope st) f cdv A outer s H E) (C8.fnBody st) t ∧ t { nx := fun _ H' => Q .non H', rt := Q } (L2.start N vs) H) : MakZ P w K mg base (k + 1) x C sp :=
  ⟨f, fd, ps, M, fn_ofZ (fun _ _ _ => trivial) F S len (fun cdv A outer s H vs Q E _ hr h => hbody cdv A outer s H vs Q E hr h), hm, b⟩
end
/-- a wish at a callee's slots, ours -/
theorem passW {X : Cx} {W : WX} (tk : L2N.Takes X W) : ∀ σ, PassesAt (L2N.CX X.prog X.w) X σ (WE W σ) := fun σ => L2N.passAt tk σ

/-! ## where a sign stands in an alphabet; the room of a text -/
def sIdx (al : Str) (c : Nat) : Nat := (PySem.Builtin.Str.occurrences al ⟨#[c]⟩ 0 al.length 1).headD 0
theorem sIdx_at {al : Str} {c : Nat} (h : c ∈ al.cps.toList) : ∃ rest, PySem.Builtin.Str.occurrences al ⟨#[c]⟩ 0 al.length 1 = sIdx al c :: rest ∧ sIdx al c < al.length := by
  have h1 := StrLaws.found_one al c
  rw [decide_eq_true h] at h1
  cases e : PySem.Builtin.Str.occurrences al ⟨#[c]⟩ 0 al.length 1 with
  | nil => rw [e] at h1; cases h1
  | cons i r =>
    have e2 : sIdx al c = i := by unfold sIdx; rw [e]; rfl
    have h2 := StrLaws.occ_spec al ⟨#[c]⟩ 0 al.length 1 i (by rw [e]; exact List.mem_cons_self ..)
    refine ⟨r, by rw [e2], ?_⟩
    have h3 : i + 1 ≤ al.length := h2.1
    omega
def stepF (al : Str) (mv : List (List Int)) (p : Int) (c : Nat) : Int := (mv.getD p.toNat []).getD (sIdx al c) 0
def roomF (al : Str) (mv : List (List Int)) (cs : List Nat) : Int := cs.foldl (stepF al mv) 0
/-- the room lies within -/
theorem step_in {al : Str} {mv : List (List Int)} {g : List Int} {p : Int} {c : Nat} (M : Mach al.length mv g) (h0 : 0 ≤ p) (h1 : p < (mv.length : Int)) (hc : c ∈ al.cps.toList) :
    ∃ r, mv[p.toNat]? = some r ∧ r[sIdx al c]? = some (stepF al mv p c) ∧ 0 ≤ stepF al mv p c ∧ stepF al mv p c < (mv.length : Int) := by
  have hp : p.toNat < mv.length := by omega
  obtain ⟨_, _, hi⟩ := sIdx_at hc
  have hr := M.row _ (List.getElem_mem hp)
  have e1 : mv.getD p.toNat [] = mv[p.toNat] := by rw [List.getD_eq_getElem?_getD, List.getElem?_eq_getElem hp]; rfl
  have h2 : sIdx al c < mv[p.toNat].length := by rw [hr.1]; exact hi
  have e2 : stepF al mv p c = mv[p.toNat][sIdx al c] := by
    unfold stepF
    rw [e1, List.getD_eq_getElem?_getD, List.getElem?_eq_getElem h2]
    rfl
  refine ⟨_, List.getElem?_eq_getElem hp, by rw [e2]; exact List.getElem?_eq_getElem h2, ?_⟩
  rw [e2]
  exact hr.2 _ (List.getElem_mem h2)
theorem roomF_snoc (al : Str) (mv : List (List Int)) (cs : List Nat) (c : Nat) : roomF al mv (cs ++ [c]) = stepF al mv (roomF al mv cs) c := by
  unfold roomF
  rw [List.foldl_append]
  rfl
/-- an item of a machine's moves -/
theorem Rp.tupItem {S : List Addr} {H : Hp} {v : V} {ds : List D} (r : Rp S H v (.tup ds)) : ∃ a xs, v = .ref a ∧ a ∉ S ∧ H a = some (.tup xs) ∧ Rps S H xs ds := by
  cases r with
  | tup n e rs => exact ⟨_, _, rfl, n, e, rs⟩
theorem take_snoc {α : Type} {l : List α} {i : Nat} {c : α} (h : l[i]? = some c) : l.take (i + 1) = l.take i ++ [c] := by
  rw [List.take_add_one, h]
  rfl

/-! ## methods that may let exceptions out; in, len, ==, != of an object with own defs; staticmethods -/
section
open PyProof.Rows
variable {X : Cx} {k j : Nat} {f C : Addr} {fd : FuncData} {ps : List Str} {sp : Sp} {E : L2.St → XK} {m : Str} {pos apos : Pos} {e o a b : Expr} {es : List Expr} {ta tb : TE} {t : TA}
/-- a method of the class at C -/
structure MetZ (P : Program) (w : World) (K : PySem.W.Frag) (mg : Str → Option Value) (base : Heap) (k : Nat) (C : Addr) (m : Str) (sp : Sp) : Prop where
  ex : ∃ (f : Addr) (fd : FuncData) (ps : List Str), Cls K C ∧ Meth K C m f ∧ FnZ (fun _ => True) P w K mg base k f fd ps sp ∧ Binds K fd ps []
theorem metZ {P : Program} {w : World} {K : PySem.W.Frag} {mg : Str → Option Value} {base : Heap} {qual : Str} {st : Stmt} {N : List Str} (c : Cls K C) (me : Meth K C m f) (F : C8.Fun K m qual st f fd) (b : Binds K fd ps []) (S : FnScope N ps (C8.fnScope st)) (len : ∀ vs H Q E, sp vs H Q E → vs.length = ps.length)
    (hbody : ∀ (cdv : Value) (A : Around) (outer : List Env) (s : Shared) (H : Hp) (vs : List V) (Q : VK) (E : XK), Room k (A.deeper (envOfC qual (C8.fnScope st) s.heap.objs.size f cdv)) → sp vs H Q E →
      ∃ t, PSs (cxG true [] (L2N.CX P w) P w K mg base N qual (C8.fnScope st) f cdv A outer s H E) (C8.fnBody st) t ∧ t { nx := fun _ H' => Q .non H', rt := Q } (L2.start N vs) H) : MetZ P w K mg base (k + 1) C m sp :=
  ⟨f, fd, ps, c, me, fn_ofZ (fun _ _ _ => trivial) F S len (fun cdv A outer s H vs Q E _ hr h => hbody cdv A outer s H vs Q E hr h), b⟩
/-- o.m(e, ..) -/
def tMetZ (C : Addr) (m : Str) (sp : Sp) (E : L2.St → XK) (ta : TE) (t : TA) : TE := fun σ H Q => ta σ H fun x H1 => ∃ a dx fs, x = .ref a ∧ H1 a = some (.ins C dx fs) ∧ fs.lookup m = none ∧ t σ H1 fun vs H2 => sp (x :: vs) H2 Q (E σ)
theorem pe_mtZ {pl : Sem Bool} (c : MetZ X.prog X.w X.K X.mg X.base k C m sp) (hr : Room j X.A) (hk : k ≤ j) (hx : ∀ σ, PassesAt (L2N.CX X.prog X.w) X σ (E σ)) (he : PE X o ta) (ha : PA X (e :: es) t)
    (hst : starEach (e :: es) X.env = (false, eval e X.env) :: starEach es X.env := by rfl) (hpl : (backTo pos (starEach es X.env)).any (·.1) = false := by rfl)
    (ht : eval (.Call (.Attribute o m apos) (e :: es) [] pos) X.env = (do
      let ov ← eval o X.env
      standAt apos.atName
      let (f, first) ← holding [ov] (getMethod ov m pl)
      callWith pos f first (backTo pos (starEach (e :: es) X.env)) (backToKw pos (keywordEach [] X.env))) := by rfl) :
    PE X (.Call (.Attribute o m apos) (e :: es) [] pos) (tMetZ C m sp E ta t) := by
  obtain ⟨f, fd, ps, hc, hm, F, b⟩ := c.ex
  refine ⟨fun pins s σ H Q I h => PySem.W.methodCall_KW (pl := pl) (thn (he.run pins s σ H _ I h) fun u s1 hh => ?_) ht⟩
  obtain ⟨x, H1, I1, rx, a, dx, fs, rfl, ea, l, q⟩ := hh
  cases (show u = Value.ref a from rx)
  refine getmeth_ok I1 ea hc hm l (PySem.W.callWith_K (first := [.ref a]) (h₀ := X.base) I.ok.mod.kin hm.kp (thn (ha.run pos pins s1 σ H1 _ I1 q) fun us s2 hh2 => ?_) hst hpl)
  obtain ⟨vs, H2, I2, r, q2⟩ := hh2
  exact ⟨I2.kIn, run_fnZ (us := .ref a :: us) (vs := .ref a :: vs) F trivial (hr.mono hk) b (hx σ) I2 (.cons rfl r) q2⟩
/-- v in o -/
def tInZ (C : Addr) (sp : Sp) (E : L2.St → XK) (ta tb : TE) : TE := fun σ H Q => ta σ H fun v H1 => tb σ H1 fun x H2 => ∃ a dx fs, x = .ref a ∧ H2 a = some (.ins C dx fs) ∧ sp [x, v] H2 (fun r H3 => ∃ d : Bool, r = .bl d ∧ Q (.bl d) H3) (E σ)
theorem pe_inZ (c : MetZ X.prog X.w X.K X.mg X.base k C "__contains__" sp) (hr : Room j X.A) (hk : k ≤ j) (hx : ∀ σ, PassesAt (L2N.CX X.prog X.w) X σ (E σ)) (ha : PE X a ta) (hb : PE X b tb) (hm : behindInMarks .In b = false := by rfl) :
    PE X (.Compare a [.In] [b] pos) (tInZ C sp E ta tb) := by
  obtain ⟨f, fd, ps, hc, hme, F, bd⟩ := c.ex
  refine ⟨fun pins s σ H Q I h => wpAny_Compare1 (thn (ha.run pins s σ H _ I h) fun v s1 hh => ?_) hm⟩
  obtain ⟨y, H1, I1, ry, q1⟩ := hh
  refine thn (hb.run pins s1 σ H1 _ I1 q1) fun u s2 hh2 => ?_
  obtain ⟨x, H2, I2, rx, p, dx, fs, rfl, ea, q⟩ := hh2
  cases (show u = Value.ref p from rx)
  obtain ⟨mA, J, _⟩ := ins_get I2.hok ea
  obtain ⟨od, J, _⟩ := J.look
  obtain ⟨mf, hF⟩ := I2.fr
  refine PySem.W.in_K hF I2.ok.mod.kin J hme.at_ hme.fn (thn (run_fnZ (us := [.ref p, v]) (vs := [.ref p, y]) F trivial (hr.mono hk) bd (hx σ) I2 (.cons rfl (.cons ry .nil)) q) fun r s3 hh3 => ?_)
  obtain ⟨z, H3, I3, rz, d, rfl, q3⟩ := hh3
  cases (show r = Value.bool d from rz)
  exact wpAny_truthy_bool ⟨.bl d, H3, I3, rfl, q3⟩
/-- a def (no exception) run somewhere below, the frames being ours -/
theorem run_at {A : Around} {pins : List (Addr × Obj)} {σ : L2.St} {H : Hp} {s : Shared} {Q : VK} {us : List Value} {vs : List V} {E : Value → Shared → Prop} (F : FnOk X.prog X.w X.K X.mg X.base C8.CX0 k f fd ps sp) (hr : Room k A) (hfr : A.frames = X.A.frames) (hb : Binds X.K fd ps [])
    (I : Inv X pins σ H s) (r : Vals vs us) (h : sp vs H Q C8.E0) : wpAny (model X.prog X.w) A (call (.ref f) us) (EP X pins σ Q) E s := by
  have hl : (us ++ []).length = ps.length := by rw [List.append_nil, ← r.length]; exact F.len _ _ _ _ h
  have b := hb s us I.kIn hl
  rw [List.append_nil] at b
  have e := I.env0
  refine wpAny_call (codeAny_mono (F.run A X.stack s H ⟨us, []⟩ us vs Q C8.E0 hr ⟨by rw [hfr]; exact e.frames, e.mod, e.bs, e.bsz, e.funs, e.frf, e.hok, e.bare⟩ b r h) ?_)
  rintro (er | fl) s2 hq
  · exact False.elim hq
  · match fl, hq with
    | .ret u, hq => exact I.after hq
    | .next, z => exact False.elim z
    | .brk, z => exact False.elim z
    | .cont, z => exact False.elim z
/-- len(o) -/
def rLenO (C : Addr) (sp : Sp) : List V → Hp → VK → Prop := fun xs H Q => ∃ a dx fs, xs = [.ref a] ∧ H a = some (.ins C dx fs) ∧ sp [.ref a] H (fun v H' => ∃ n : Nat, v = .int n ∧ n < 2 ^ 62 ∧ Q (.int n) H') C8.E0
theorem call_lenO (c : C8.Met X.prog X.w X.K X.mg X.base k C "__len__" sp []) (hr : Room j X.A) (hk : k + 1 ≤ j) : CallR X (.builtin "len") (rLenO C sp) := by
  obtain ⟨f, fd, ps, ds, hc, hme, F, bd, vd⟩ := c.ex
  cases vd
  intro pins s σ H xs us Q I r h
  obtain ⟨p, dx, fs, rfl, ea, q⟩ := h
  match r with
  | .cons ra .nil =>
    cases (show _ = Value.ref p from ra)
    obtain ⟨mA, J, _⟩ := ins_get I.hok ea
    obtain ⟨od, J, _⟩ := J.look
    obtain ⟨mf, hF⟩ := I.fr
    refine PySem.W.len_K hF I.ok.mod.kin J hme.at_ hme.fn (wpAny_mono (run_at (A := X.A.in1) (us := [.ref p]) (vs := [.ref p]) F (Room.in1 (hr.mono hk)) rfl bd I (.cons rfl .nil) q) (fun v s2 hh => ?_) fun _ _ z => z)
    obtain ⟨z, H', I', rz, n, rfl, hn, q'⟩ := hh
    obtain ⟨tk, rfl⟩ := rz
    exact ⟨⟨by omega, by omega⟩, .int n, H', I'.tok _, ⟨_, rfl⟩, q'⟩
/-- what the operand's type says -/
theorem looks_ty {pins : List (Addr × Obj)} {σ : L2.St} {H : Hp} {s : Shared} {x : V} {u t : Value} (I : Inv X pins σ H s) (rx : RelV x u) (ty : TyX X.K H x t) : PySem.W.Looks (model X.prog X.w) s.heap (typeOf u) t := by
  obtain ⟨P, Z, p, _⟩ := kit_of I rx ty
  exact Z.ty _ _ I.kIn p
/-- o == v, o != v -/
def rEqO (K : PySem.W.Frag) (C : Addr) (sp : Sp) (neg : Bool) : R2 := fun x y H Q => ∃ a dx fs t, x = .ref a ∧ H a = some (.ins C dx fs) ∧ TyX K H y t ∧ PySem.W.notFirst K C t = true ∧ sp [x, y] H (fun r H' => ∃ d : Bool, r = .bl d ∧ Q (.bl (if neg then !d else d)) H') C8.E0
theorem op_eqO (c : C8.Met X.prog X.w X.K X.mg X.base k C "__eq__" sp []) (hr : Room j X.A) (hk : k ≤ j) : OpR X (compareOp .Eq) (rEqO X.K C sp false) := by
  obtain ⟨f, fd, ps, ds, hc, hme, F, bd, vd⟩ := c.ex
  cases vd
  intro pins s σ H x y v u Q I rx ry h
  obtain ⟨p, dx, fs, t, rfl, ea, ty, hn, q⟩ := h
  cases (show v = Value.ref p from rx)
  obtain ⟨mA, J, _⟩ := ins_get I.hok ea
  obtain ⟨od, J, _⟩ := J.look
  obtain ⟨mf, hF⟩ := I.fr
  have hr1 := hr.mono hk
  refine PySem.W.cmp_K (op := .Eq) (tb := t) hr1.units0 hF I.ok.mod.kin J (looks_ty I ry ty) hn hme.at_ hme.fn (wpAny_mono (run_at (us := [.ref p, u]) (vs := [.ref p, y]) F hr1 rfl bd I (.cons rfl (.cons ry .nil)) q) (fun v s2 hh => ?_) fun _ _ z => z)
  obtain ⟨z, H', I', rz, d, rfl, q'⟩ := hh
  cases (show v = Value.bool d from rz)
  exact ⟨.bl d, H', I', rfl, q'⟩
end
namespace NeX
open PySem PySem.W PySem.Calls PyProof.Rows
variable {prog : Program} {w : World} {A : Around} {E : Value → Shared → Prop} {s : Shared} {K : Frag} {x C L f : Addr} {h₀ : Heap} {m : Str → Option Value} {ox : Obj} {od : Option Obj} {b tb : Value}
theorem ne_K {Q : Value → Shared → Prop} (hu : A.units + 2 < cLine) (F : Fr h₀ L s.heap m) (X₀ : K.In h₀) (I : InstAt s.heap x ox C od) (hb : Looks (model prog w) s.heap (typeOf b) tb) (hn : notFirst K C tb = true)
    (hne : findIn K (.ref C) "__ne__" = some (some (.builtin "object.__ne__"))) (hm : mroIn K C (.type "object") = some true) (hs : findIn K (.ref C) "__eq__" = some (some (.ref f))) (hf : isFn K (.ref f) = true)
    (h : wpAny (model prog w) A.in1 (call (.ref f) [.ref x, b]) (fun v s' => ∃ d : Bool, v = .bool d ∧ Q (.bool (!d)) s') E s) : wpAny (model prog w) A (richCompare .NotEq (.ref x) b) Q E s := by
  have X := X₀.keeps F.keep
  have one : wpAny (model prog w) A (tryCompare (.ref x) (cmpInfo .NotEq).2.1 b) (fun r s' => ∃ v, r = some v ∧ Q v s') E s := by
    unfold tryCompare
    have body : wpAny (model prog w) A (call (.builtin "object.__ne__") ([.ref x] ++ [b])) (fun v s' => ∃ d : Bool, v = .bool d ∧ Q (.bool d) s') E s := by
      refine wpAny_call (codeAny_call_builtin PySem.F.cmp_object.ne.plain PySem.F.cmpEntry_ne (check_slot PySem.F.cmpKind_ne PySem.F.cmpSplit_ne (I.type.andThen (looks_mroIn X hm)) (PySem.F.cmpArgs_ne _ _) ?_))
      show wpAny _ A.in1 (Builtin.«object.__ne__» ⟨[.ref x, b], []⟩) _ _ _
      unfold Builtin.«object.__ne__»
      refine wpAny_bind (wpAny_of_eq (a := ((Value.ref x : Value), [b])) (by first | rfl | (simp only [slotArgs]; rfl)) ?_)
      refine wpAny_bind (wpAny_cRoomFor (show A.in1.units < cLine by show A.units + 1 < cLine; omega) ?_)
      refine wpAny_bind (ifBound_K X I hs hf (wpAny_mono h (fun v s' hv => ?_) fun _ _ z => z))
      obtain ⟨d, rfl, q⟩ := hv
      exact wpAny_bind (wpAny_truthy_bool (wpAny_pure ⟨!d, rfl, q⟩))
    simp only [callSpecialIfBound?, bindSpecialIfBound?]
    refine wpAny_bind (wpAny_holding (wpAny_bind (wpAny_bind (wpAny_bind (I.type.here ((looks_findIn X hne).here ?_))))))
    simp only [PySem.F.cmp_object.ne.bind]
    refine wpAny_bind (wpAny_askSetting (wpAny_ite ?_))
    split
    · refine wpAny_bind (wpAny_pure (wpAny_pure ?_))
      refine wpAny_bind (wpAny_mono body (fun v s' hv => ?_) fun _ _ z => z)
      obtain ⟨d, rfl, q⟩ := hv
      exact wpAny_pure (wpAny_pure ⟨_, rfl, q⟩)
    · refine wpAny_tryCatch (wpAny_bind (wpAny_pure (wpAny_pure ?_)))
      refine wpAny_bind (wpAny_mono body (fun v s' hv => ?_) fun _ _ z => z)
      obtain ⟨d, rfl, q⟩ := hv
      exact wpAny_pure (wpAny_pure ⟨_, rfl, q⟩)
  unfold richCompare
  simp only [oneThing_ref]
  refine wpAny_holding (wpAny_bind (wpAny_cRoomFor (show A.units < cLine by omega) ?_))
  refine wpAny_bind (I.type.here (wpAny_bind (hb.here ?_)))
  have last : wpAny (model prog w) A (tryCompare (.ref x) (cmpInfo .NotEq).2.1 b) (fun r s' => ∃ v, r = some v ∧ Q v s') E s := one
  split
  · rename_i q
    have e : subIn K tb (.ref C) = some false := by
      have hn' : (tb == .ref C || subIn K tb (.ref C) == some false) = true := hn
      rw [Bool.or_eq_true] at hn'
      rcases hn' with e | e
      · rw [beq_iff_eq.mp e] at q
        simp at q
      · exact beq_iff_eq.mp e
    refine wpAny_bind ((looks_subIn X e).here ?_)
    simp only [Bool.false_eq_true, if_false]
    refine wpAny_bind (wpAny_mono last (fun r s' hr => ?_) fun _ _ z => z)
    obtain ⟨v, rfl, hq⟩ := hr
    exact wpAny_pure hq
  · refine wpAny_bind (wpAny_pure ?_)
    simp only [Bool.false_eq_true, if_false]
    refine wpAny_bind (wpAny_mono last (fun r s' hr => ?_) fun _ _ z => z)
    obtain ⟨v, rfl, hq⟩ := hr
    exact wpAny_pure hq
end NeX
section
open PyProof.Rows
variable {X : Cx} {k j : Nat} {C : Addr} {sp : Sp}
/-- what of the text != must have -/
structure NeC (K : PySem.W.Frag) (C : Addr) : Prop where
  ne : PySem.W.findIn K (.ref C) "__ne__" = some (some (.builtin "object.__ne__"))
  mo : PySem.W.mroIn K C (.type "object") = some true
theorem op_neO (n : NeC X.K C) (c : C8.Met X.prog X.w X.K X.mg X.base k C "__eq__" sp []) (hr : Room j X.A) (hk : k + 1 ≤ j) : OpR X (compareOp .NotEq) (rEqO X.K C sp true) := by
  obtain ⟨f, fd, ps, ds, hc, hme, F, bd, vd⟩ := c.ex
  cases vd
  intro pins s σ H x y v u Q I rx ry h
  obtain ⟨p, dx, fs, t, rfl, ea, ty, hn, q⟩ := h
  cases (show v = Value.ref p from rx)
  obtain ⟨mA, J, _⟩ := ins_get I.hok ea
  obtain ⟨od, J, _⟩ := J.look
  obtain ⟨mf, hF⟩ := I.fr
  have hu := hr.units
  refine NeX.ne_K (tb := t) (by omega) hF I.ok.mod.kin J (looks_ty I ry ty) hn n.ne n.mo hme.at_ hme.fn (wpAny_mono (run_at (A := X.A.in1) (us := [.ref p, u]) (vs := [.ref p, y]) F (Room.in1 (hr.mono hk)) rfl bd I (.cons rfl (.cons ry .nil)) q) (fun v s2 hh => ?_) fun _ _ z => z)
  obtain ⟨z, H', I', rz, d, rfl, q'⟩ := hh
  cases (show v = Value.bool d from rz)
  exact ⟨d, rfl, .bl (!d), H', I', rfl, q'⟩
end
/-! ### C.m(e, ..), m a staticmethod -/
section
open PyProof.Rows
variable {X : Cx} {k j : Nat} {C p g : Addr} {fd : FuncData} {ps : List Str} {sp : Sp} {E : L2.St → XK} {m : Str} {pos apos : Pos} {o e : Expr} {es : List Expr} {ta : TE} {t : TA} {mc : Value}
structure StZ (P : Program) (w : World) (K : PySem.W.Frag) (mg : Str → Option Value) (base : Heap) (k : Nat) (C : Addr) (m : Str) (sp : Sp) : Prop where
  ex : ∃ (p g : Addr) (fd : FuncData) (ps : List Str) (mc : Value) (rest : List Value), ClX.CRead K C mc ∧ PySem.W.findCls K (.ref C) mc m = some (.get (.builtin "staticmethod.__get__") (.ref p) .none (.ref C)) ∧ PySem.W.recIn K p "staticmethod" = some (.ref g :: rest) ∧
    FnZ (fun _ => True) P w K mg base k g fd ps sp ∧ PySem.W.keepIn K (.ref g) = true ∧ Binds K fd ps []
def tStZ (C : Addr) (sp : Sp) (E : L2.St → XK) (ta : TE) (t : TA) : TE := fun σ H Q => ta σ H fun x H1 => x = .ref C ∧ t σ H1 fun vs H2 => sp vs H2 Q (E σ)
theorem pe_stZ {pl : Sem Bool} (c : StZ X.prog X.w X.K X.mg X.base k C m sp) (hr : Room j X.A) (hk : k ≤ j) (hx : ∀ σ, PassesAt (L2N.CX X.prog X.w) X σ (E σ)) (he : PE X o ta) (ha : PA X (e :: es) t)
    (hst : starEach (e :: es) X.env = (false, eval e X.env) :: starEach es X.env := by rfl) (hpl : (backTo pos (starEach es X.env)).any (·.1) = false := by rfl)
    (ht : eval (.Call (.Attribute o m apos) (e :: es) [] pos) X.env = (do
      let ov ← eval o X.env
      standAt apos.atName
      let (f, first) ← holding [ov] (getMethod ov m pl)
      callWith pos f first (backTo pos (starEach (e :: es) X.env)) (backToKw pos (keywordEach [] X.env))) := by rfl) :
    PE X (.Call (.Attribute o m apos) (e :: es) [] pos) (tStZ C sp E ta t) := by
  obtain ⟨p, g, fd, ps, mc, rest, r, hf, hp, F, kp, b⟩ := c.ex
  refine ⟨fun pins s σ H Q I h => PySem.W.methodCall_KW (pl := pl) (thn (he.run pins s σ H _ I h) fun u s1 hh => ?_) ht⟩
  obtain ⟨x, H1, I1, rx, rfl, q⟩ := hh
  cases (show u = Value.ref C from rx)
  refine PySem.W.method_cls I1.kIn r.ga (PySem.W.cls_bind I1.kIn r.rd hf (wpAny_call (PySem.W.sm_get (s := { s1 with toks := s1.toks + 1 }) I1.kIn hp (PySem.W.handed_on rfl ?_))))
  have I1 := I1.tok (s1.toks + 1)
  refine PySem.W.callWith_K (first := []) (h₀ := X.base) I1.ok.mod.kin kp (thn (ha.run pos pins _ σ H1 _ I1 q) fun us s2 hh2 => ?_) hst hpl
  obtain ⟨vs, H2, I2, rv, q2⟩ := hh2
  exact ⟨I2.kIn, run_fnZ F trivial (hr.mono hk) b (hx σ) I2 rv q2⟩
end

/-! ## == of data -/
mutual
def D.py : D → PyData
  | .non => .none
  | .bl b => .bool b
  | .int i => .int i
  | .str x => .str x
  | .lst ds => .list (D.pys ds)
  | .tup ds => .tuple (D.pys ds)
  | .dct => .none
def D.pys : List D → List PyData
  | [] => []
  | d :: ds => d.py :: D.pys ds
end
mutual
/-- ints, texts, None, lists and tuples of such -/
def D.clean : D → Bool
  | .non => true
  | .int _ => true
  | .str _ => true
  | .lst ds => D.cleans ds
  | .tup ds => D.cleans ds
  | .bl _ => false
  | .dct => false
def D.cleans : List D → Bool
  | [] => true
  | d :: ds => d.clean && D.cleans ds
end
mutual
theorem Rp.dp {K : PySem.W.Frag} {S : List Addr} {H : Hp} : ∀ {v : V} {d : D}, Rp S H v d → d.clean = true → Dp K H v d.py
  | _, _, .non, _ => .non
  | _, _, .int i, _ => .int i
  | _, _, .str x, _ => .str x
  | _, _, .lst _ e r, h => .lst (SqL.of e) (Rps.dp r h)
  | _, _, .tup _ e r, h => .tup (.inl (.inl e)) (Rps.dp r h)
  | _, _, .bl b, h => by cases (show false = true from h)
  | _, _, .dct _ _, h => by cases (show false = true from h)
theorem Rps.dp {K : PySem.W.Frag} {S : List Addr} {H : Hp} : ∀ {vs : List V} {ds : List D}, Rps S H vs ds → D.cleans ds = true → DpAll K H vs (D.pys ds)
  | _, _, .nil, _ => .nil
  | _, _, .cons r t, h => by
    have h' := (Bool.and_eq_true_iff.mp h)
    exact .cons (Rp.dp r h'.1) (Rps.dp t h'.2)
end
mutual
theorem eqv_py : ∀ (a b : D), a.clean = true → b.clean = true → (PyData.eqv a.py b.py = true ↔ a = b)
  | .non, b, _, hb => by cases b <;> simp [D.py, PyData.eqv] <;> cases hb
  | .int i, b, _, hb => by cases b <;> simp [D.py, PyData.eqv] <;> cases hb
  | .str x, b, _, hb => by cases b <;> simp [D.py, PyData.eqv] <;> cases hb
  | .lst ds, b, ha, hb => by
    cases b with
    | lst es =>
      have h := eqvs_py ds es ha hb
      simp only [D.py, PyData.eqv, D.lst.injEq]
      exact h
    | _ => simp [D.py, PyData.eqv] <;> cases hb
  | .tup ds, b, ha, hb => by
    cases b with
    | tup es =>
      have h := eqvs_py ds es ha hb
      simp only [D.py, PyData.eqv, D.tup.injEq]
      exact h
    | _ => simp [D.py, PyData.eqv] <;> cases hb
  | .bl b, _, h, _ => by cases (show false = true from h)
  | .dct, _, h, _ => by cases (show false = true from h)
theorem eqvs_py : ∀ (as bs : List D), D.cleans as = true → D.cleans bs = true → (PyData.eqvAll (D.pys as) (D.pys bs) = true ↔ as = bs)
  | [], [], _, _ => by simp [D.pys, PyData.eqvAll]
  | [], _ :: _, _, _ => by simp [D.pys, PyData.eqvAll]
  | _ :: _, [], _, _ => by simp [D.pys, PyData.eqvAll]
  | a :: as, b :: bs, ha, hb => by
    have h1 := Bool.and_eq_true_iff.mp ha
    have h2 := Bool.and_eq_true_iff.mp hb
    simp only [D.pys, PyData.eqvAll, Bool.and_eq_true, List.cons.injEq]
    rw [eqv_py a b h1.1 h2.1, eqvs_py as bs h1.2 h2.2]
end
theorem pys_eq : ∀ ds : List D, D.pys ds = ds.map D.py
  | [] => rfl
  | d :: ds => by rw [List.map_cons, ← pys_eq ds]; rfl
theorem cleans_eq : ∀ ds : List D, D.cleans ds = ds.all D.clean
  | [] => rfl
  | d :: ds => by rw [List.all_cons, ← cleans_eq ds]; rfl
/-- not nested deeply -/
def D.flat2 (d : D) : Prop := d.py.depth ≤ 64
theorem depth_all {n : Nat} : ∀ ds : List PyData, (∀ d ∈ ds, d.depth ≤ n) → PyData.depthAll ds ≤ n
  | [], _ => Nat.zero_le _
  | d :: ds, h => by
    have h1 := h d (List.mem_cons_self ..)
    have h2 := depth_all ds fun e he => h e (List.mem_cons_of_mem _ he)
    simp only [PyData.depthAll]
    omega
/-- d is data nested below n -/
inductive Low : Nat → D → Prop
  | non : Low 0 .non
  | int (i : Int) : Low 0 (.int i)
  | str (x : Str) (h : PyData.strOk x = true) : Low 0 (.str x)
  | lst {n : Nat} {ds : List D} : (∀ d ∈ ds, Low n d) → Low (n + 1) (.lst ds)
  | tup {n : Nat} {ds : List D} : (∀ d ∈ ds, Low n d) → Low (n + 1) (.tup ds)
theorem Low.depth : ∀ {n : Nat} {d : D}, Low n d → d.py.depth ≤ n
  | _, _, .non => by simp [D.py, PyData.depth]
  | _, _, .int _ => by simp [D.py, PyData.depth]
  | _, _, .str _ _ => by simp [D.py, PyData.depth]
  | _, _, .lst (n := n) (ds := ds) h => by
    have z := depth_all (n := n) (D.pys ds) (fun e he => by
      rw [pys_eq] at he
      obtain ⟨d, hd, rfl⟩ := List.mem_map.mp he
      exact (h d hd).depth)
    simp only [D.py, PyData.depth]
    omega
  | _, _, .tup (n := n) (ds := ds) h => by
    have z := depth_all (n := n) (D.pys ds) (fun e he => by
      rw [pys_eq] at he
      obtain ⟨d, hd, rfl⟩ := List.mem_map.mp he
      exact (h d hd).depth)
    simp only [D.py, PyData.depth]
    omega
theorem Low.clean : ∀ {n : Nat} {d : D}, Low n d → d.clean = true
  | _, _, .non => rfl
  | _, _, .int _ => rfl
  | _, _, .str _ _ => rfl
  | _, _, .lst (ds := ds) h => by
    show D.cleans ds = true
    rw [cleans_eq, List.all_eq_true]
    exact fun d hd => (h d hd).clean
  | _, _, .tup (ds := ds) h => by
    show D.cleans ds = true
    rw [cleans_eq, List.all_eq_true]
    exact fun d hd => (h d hd).clean
theorem lays_all : ∀ ds : List PyData, (∀ d ∈ ds, d.canLay0 = true) → PyData.canLayAll0 ds = true
  | [], _ => by simp [PyData.canLayAll0]
  | d :: ds, h => by simp [PyData.canLayAll0, h d (List.mem_cons_self ..), lays_all ds fun e he => h e (List.mem_cons_of_mem _ he)]
theorem Low.lay : ∀ {n : Nat} {d : D}, Low n d → d.py.canLay0 = true
  | _, _, .non => by simp [D.py, PyData.canLay0]
  | _, _, .int _ => by simp [D.py, PyData.canLay0]
  | _, _, .str _ h => by simpa [D.py, PyData.canLay0] using h
  | _, _, .lst (ds := ds) h => by
    have z := lays_all (D.pys ds) (fun e he => by
      rw [pys_eq] at he
      obtain ⟨d, hd, rfl⟩ := List.mem_map.mp he
      exact (h d hd).lay)
    simpa [D.py, PyData.canLay0] using z
  | _, _, .tup (ds := ds) h => by
    have z := lays_all (D.pys ds) (fun e he => by
      rw [pys_eq] at he
      obtain ⟨d, hd, rfl⟩ := List.mem_map.mp he
      exact (h d hd).lay)
    simpa [D.py, PyData.canLay0] using z
theorem low_rowT (r : List Int) : Low 1 (rowT r) := .tup fun d hd => by
  obtain ⟨i, _, rfl⟩ := List.mem_map.mp hd
  exact .int i
theorem low_rowD (r : List Int) : Low 1 (rowD r) := .lst fun d hd => by
  obtain ⟨i, _, rfl⟩ := List.mem_map.mp hd
  exact .int i
theorem low_mvT (m : List (List Int)) : Low 2 (mvT m) := .tup fun d hd => by
  obtain ⟨i, _, rfl⟩ := List.mem_map.mp hd
  exact low_rowT i
theorem low_mvD (m : List (List Int)) : Low 2 (mvD m) := .lst fun d hd => by
  obtain ⟨i, _, rfl⟩ := List.mem_map.mp hd
  exact low_rowD i
theorem map_inj {α β : Type} {f : α → β} (h : ∀ a b, f a = f b → a = b) : ∀ {x y : List α}, x.map f = y.map f → x = y
  | [], [], _ => rfl
  | [], _ :: _, e => by cases e
  | _ :: _, [], e => by cases e
  | a :: x, b :: y, e => by
    rw [List.map_cons, List.map_cons] at e
    injection e with e1 e2
    rw [h a b e1, map_inj h e2]
theorem rowT_inj {a b : List Int} (h : rowT a = rowT b) : a = b := map_inj (fun _ _ e => D.int.inj e) (D.tup.inj h)
theorem mvT_inj {a b : List (List Int)} (h : mvT a = mvT b) : a = b := map_inj (fun _ _ e => rowT_inj e) (D.tup.inj h)
theorem rowD_inj {a b : List Int} (h : rowD a = rowD b) : a = b := map_inj (fun _ _ e => D.int.inj e) (D.lst.inj h)
theorem mvD_inj {a b : List (List Int)} (h : mvD a = mvD b) : a = b := map_inj (fun _ _ e => rowD_inj e) (D.lst.inj h)
/-- x == y, x != y of low data -/
theorem eq_low {K : PySem.W.Frag} {S T : List Addr} {H : Hp} {x y : V} {a b : D} {n m : Nat} {Q : VK} (rx : Rp S H x a) (ry : Rp T H y b) (la : Low n a) (lb : Low m b) (hn : n ≤ 64) (hm : m ≤ 64) (p : Prop) [Decidable p] (hp : a = b ↔ p) (q : Q (.bl (decide p)) H) : rEqD K x y H Q := by
  refine ⟨a.py, b.py, rx.dp la.clean, ry.dp lb.clean, ?_, ?_, ?_⟩
  · unfold SeqAt.shaped
    rw [la.lay, decide_eq_true (Nat.le_trans la.depth hn)]
    rfl
  · unfold SeqAt.shaped
    rw [lb.lay, decide_eq_true (Nat.le_trans lb.depth hm)]
    rfl
  · have e : PyData.eqv a.py b.py = decide p := by
      rw [Bool.eq_iff_iff, eqv_py a b la.clean lb.clean, hp, decide_eq_true_iff]
    rw [e]
    exact q
theorem ne_low {K : PySem.W.Frag} {S T : List Addr} {H : Hp} {x y : V} {a b : D} {n m : Nat} {Q : VK} (rx : Rp S H x a) (ry : Rp T H y b) (la : Low n a) (lb : Low m b) (hn : n ≤ 64) (hm : m ≤ 64) (p : Prop) [Decidable p] (hp : a = b ↔ p) (q : Q (.bl (!decide p)) H) : rNeD K x y H Q := by
  refine ⟨a.py, b.py, rx.dp la.clean, ry.dp lb.clean, ?_, ?_, ?_⟩
  · unfold SeqAt.shaped
    rw [la.lay, decide_eq_true (Nat.le_trans la.depth hn)]
    rfl
  · unfold SeqAt.shaped
    rw [lb.lay, decide_eq_true (Nat.le_trans lb.depth hm)]
    rfl
  · have e : PyData.eqv a.py b.py = decide p := by
      rw [Bool.eq_iff_iff, eqv_py a b la.clean lb.clean, hp, decide_eq_true_iff]
    rw [e]
    exact q
/-- an int among ints -/
theorem inV_ints (z : Int) (g : List Int) : inV (.int z) (g.map V.int) = decide (z ∈ g) := by
  unfold inV
  induction g with
  | nil => rfl
  | cons a g ih =>
    rw [List.map_cons, List.any_cons, ih]
    rw [Bool.eq_iff_iff, Bool.or_eq_true, decide_eq_true_iff, decide_eq_true_iff, List.mem_cons]
    have e : eqV (V.int a) (V.int z) = true ↔ z = a := by
      simp [eqV]
      exact eq_comm
    rw [e]
theorem flat_ints (g : List Int) : (g.map V.int).all flatV = true := by
  rw [List.all_eq_true]
  intro x hx
  obtain ⟨i, _, rfl⟩ := List.mem_map.mp hx
  rfl

/-! ## comprehensions, the items told by a word on values and heap -/
theorem lc_G {A S : List Addr} {J : It} {n : Nat} {G : Hp → Prop} {Y : Nat → Hp → V → Hp → Prop} {Xp : Nat → V → Prop} {j : Nat} {tt : TT} {te : TE} {vs : List Nat} {σ : L2.St} {H1 : Hp} {L : Addr} {Qd : Hp → Prop}
    (I : Nat → List V → Hp → Prop) (w : Walk J n G Y) (hY : ∀ i H x H', i < n → Y i H x H' → H' = H ∧ Xp i x) (W : Wd A S H1) (hD : H1 L = none) (hn : n ≤ 100000)
    (hG : ∀ H, Keep (L :: A) H1 H → G H) (h0 : ∀ H, I 0 [] H) (hl : ∀ i ys H, I i ys H → ys.length ≤ i) (hK : ∀ i ys H H', Keep (L :: A) H H' → I i ys H → I i ys H') (hw : ∀ x, wipe ((wipe σ vs).set j (some x)) vs = wipe σ vs)
    (hs : ∀ i ys x H, i < n → I i ys H → Xp i x → Wd A (L :: S) H → Keep (L :: A) H1 H → ∀ (Kt : V → Hp → Prop) (Kf : Hp → Prop),
      (∀ y H', Go A H H' → I (i + 1) (ys ++ [y]) H' → Kt y H') → (∀ H', Go A H H' → I (i + 1) ys H' → Kf H') →
      tt ((wipe σ vs).set j (some x)) H fun b H3 => if b = true then te ((wipe σ vs).set j (some x)) H3 Kt else Kf H3)
    (hd : ∀ ys H, I n ys H → Go A H1 H → H L = some (.lst ys) → Wd A (L :: S) H → Qd H) :
    ∃ W : Nat → Nat → Hp → Prop, (∃ m, W 0 m (upd H1 L (.lst []))) ∧ ∀ i m H, W i m H →
      (J.stop i H ∧ Qd H) ∨ (J.go i H ∧ ∃ Nx : Hp → Prop, (∀ H', Nx H' → ∃ m', m' < m ∧ W (i + 1) m' H') ∧ ∀ x H', J.yld i H x H' → gName j x (wipe σ vs) H' fun σ2 H2 => wipe σ2 vs = wipe σ vs ∧ tt σ2 H2 fun b H3 =>
        if b = true then te σ2 H3 fun y H4 => ∃ acc, H4 L = some (.lst acc) ∧ acc.length < sizeLine ∧ Nx (upd H4 L (.lst (acc ++ [y]))) else Nx H3) := by
  have nD : L ∉ S := W.fresh hD
  have nA : L ∉ A := fun q => nD (W.sub L q)
  have wd : ∀ {H : Hp} {ys : List V}, Keep (L :: A) H1 H → (∀ a ∈ A, Src H a) → H L = some (.lst ys) → Wd A (L :: S) H := fun {H ys} k hsr hDl => ⟨fun a ha => List.mem_cons_of_mem _ (W.sub a ha), hsr, fun a ha => by
    rcases List.mem_cons.mp ha with e | ha
    · rw [e]; exact ⟨_, hDl⟩
    · by_cases hm : a ∈ A
      · obtain ⟨x, s, c, q⟩ := hsr a hm
        exact ⟨_, q⟩
      · obtain ⟨o, e⟩ := W.ex a ha
        refine ⟨o, k a o (fun q => ?_) e⟩
        rcases List.mem_cons.mp q with q | q
        · rw [q, hD] at e; cases e
        · exact hm q⟩
  have kL : ∀ {H : Hp} {o : HO}, Keep (L :: A) H (upd H L o) := Keep.upd (List.mem_cons_self ..)
  refine lc_it w (fun i H => ∃ ys, I i ys H ∧ Keep (L :: A) H1 H ∧ (∀ a ∈ A, Src H a) ∧ H L = some (.lst ys)) ⟨[], h0 _, fun b o hb e => ?_, fun a ha => ?_, upd_same⟩ (fun i H _ p => ?_) (fun i x H H' hi p y => ?_) (fun H p => ?_)
  · rw [upd_ne (ne_of_none e hD)]
    exact e
  · obtain ⟨x, s, c, q⟩ := W.src a ha
    exact ⟨x, s, c, by rw [upd_ne (ne_of_none q hD)]; exact q⟩
  · obtain ⟨ys, _, k, _⟩ := p
    exact hG H k
  · obtain ⟨e1, hx⟩ := hY i H x H' hi y
    rw [e1]
    clear e1 y
    obtain ⟨ys, hI, k, hsr, hDl⟩ := p
    refine ⟨hw x, hs i ys x H hi hI hx (wd k hsr hDl) k _ _ (fun y H' g hI' => ?_) (fun H' g hI' => ?_)⟩
    · have e := g.keep L _ nA hDl
      refine ⟨ys, e, ?_, ys ++ [y], hK _ _ _ _ kL hI', ?_, ?_, upd_same⟩
      · have h2 := hl i ys H hI
        exact Nat.lt_of_lt_of_le (show ys.length < 100001 by omega) (by decide)
      · exact (k.trans (g.keep.mono fun a ha => List.mem_cons_of_mem _ ha)).trans kL
      · intro a ha
        obtain ⟨x, s, c, q⟩ := g.src hsr a ha
        exact ⟨x, s, c, by rw [upd_ne (fun z : a = L => nA (by rw [← z]; exact ha))]; exact q⟩
    · exact ⟨ys, hI', k.trans (g.keep.mono fun a ha => List.mem_cons_of_mem _ ha), g.src hsr, g.keep L _ nA hDl⟩
  · obtain ⟨ys, hI, k, hsr, hDl⟩ := p
    refine hd ys H hI ⟨fun b o hb e => k b o (fun q => ?_) e, fun _ => hsr⟩ hDl (wd k hsr hDl)
    rcases List.mem_cons.mp q with q | q
    · rw [q, hD] at e; cases e
    · exact hb q
/-- one by one -/
inductive Rws (P : V → List Int → Prop) : List V → List (List Int) → Prop
  | nil : Rws P [] []
  | cons {y : V} {r : List Int} {ys : List V} {rs : List (List Int)} : P y r → Rws P ys rs → Rws P (y :: ys) (r :: rs)
theorem Rws.snoc {P : V → List Int → Prop} {y : V} {r : List Int} (h : P y r) : ∀ {ys : List V} {rs : List (List Int)}, Rws P ys rs → Rws P (ys ++ [y]) (rs ++ [r])
  | _, _, .nil => .cons h .nil
  | _, _, .cons a t => .cons a (Rws.snoc h t)
theorem Rws.imp {P Q : V → List Int → Prop} (h : ∀ y r, P y r → Q y r) : ∀ {ys : List V} {rs : List (List Int)}, Rws P ys rs → Rws Q ys rs
  | _, _, .nil => .nil
  | _, _, .cons a t => .cons (h _ _ a) (Rws.imp h t)
theorem Rws.len {P : V → List Int → Prop} : ∀ {ys : List V} {rs : List (List Int)}, Rws P ys rs → ys.length = rs.length
  | _, _, .nil => rfl
  | _, _, .cons _ t => congrArg (· + 1) (Rws.len t)
theorem Rws.mem {P : V → List Int → Prop} : ∀ {ys : List V} {rs : List (List Int)}, Rws P ys rs → ∀ y ∈ ys, ∃ r, P y r
  | _, _, .nil, _, h => by cases h
  | _, _, .cons a t, y, h => by
    rcases List.mem_cons.mp h with e | h
    · rw [e]; exact ⟨_, a⟩
    · exact Rws.mem t y h
theorem Rws.data {S : List Addr} {H : Hp} : ∀ {ys : List V} {rs : List (List Int)}, Rws (fun y r => ∃ d, Rp S H y d ∧ d.seq? = some (r.map D.int)) ys rs → ∃ ds, Rps S H ys ds ∧ ds.map D.seq? = rs.map fun r => some (r.map D.int)
  | _, _, .nil => ⟨[], .nil, rfl⟩
  | _, _, .cons a t => by
    obtain ⟨d, h1, h2⟩ := a
    obtain ⟨ds, h3, h4⟩ := Rws.data t
    exact ⟨d :: ds, .cons h1 h3, by rw [List.map_cons, List.map_cons, h2, h4]⟩
section
open PyProof.Rows
/-- over the items of a list or tuple that stays, whatever else changes -/
def iSeqH (te : TE) : TI := fun σ H R => te σ H fun x H1 => ∃ a xs, x = .ref a ∧ (H1 a = some (.lst xs) ∨ H1 a = some (.tup xs)) ∧ ∀ (J : It) (G : Hp → Prop), Walk J xs.length G (YAt xs) → (∀ H2, H2 a = H1 a → G H2) → R J H1
theorem pi_seqH {X : Cx} {tg e : Expr} {te : TE} (he : PE X e te) : PI X tg e (iSeqH te) := by
  refine ⟨fun pins s σ H R I h => thn (he.run pins s σ H _ I h) fun v s1 hh => ?_⟩
  obtain ⟨x, H1, I1, r1, a, xs, rfl, hq, k⟩ := hh
  cases (show v = Value.ref a from r1)
  have fp : ∀ b ∈ [s1.heap.objs.size], FpOk X pins H1 b := fun b hb => by
    rw [List.mem_singleton.mp hb]
    exact I1.fpOk (Nat.le_refl _) (I1.hok.fresh (Nat.le_refl _))
  rcases hq with hq | hq
  · obtain ⟨its, rv, p, hz⟩ := I1.list (SqL.of hq)
    exact wpAny_pyIter_list p.isList ⟨_, _, _, _, H1, rfl, I1.kept (t' := s1.toks) fun b o e => Heap.get?_push_of_some _ e, turn_list a _, ⟨_, Heap.get?_push_size _ rfl, rfl, rfl⟩, fp, k _ _ walk_list fun H2 s => SqL.of (s.trans hq)⟩
  · obtain ⟨its, rv, p, hz⟩ := I1.tuple (show SqT X.K H1 a xs from .inl (.inl hq))
    exact wpAny_pyIter_tuple (show s1.heap.IsTuple a its.toArray from p) ⟨_, _, _, _, H1, rfl, I1.kept (t' := s1.toks) fun b o e => Heap.get?_push_of_some _ e, turn_tuple a _, ⟨_, Heap.get?_push_size _ rfl, rfl, rfl⟩, fp, k _ _ walk_tup fun H2 s => .inl (.inl (s.trans hq))⟩
end

/-! ## rows copied one by one: new lists, no two the same -/
structure Cps (H0 H : Hp) (L : Addr) (mv : List (List Int)) (i : Nat) (ys : List V) : Prop where
  ex : ∃ bs : List Addr, ys = bs.map V.ref ∧ bs.Nodup ∧ bs.length = i ∧ ∀ (j : Nat) (b : Addr), bs[j]? = some b → H0 b = none ∧ b ≠ L ∧ ∃ r : List Int, mv[j]? = some r ∧ H b = some (.lst (r.map V.int))
theorem Cps.zero {H0 H : Hp} {L : Addr} {mv : List (List Int)} : Cps H0 H L mv 0 [] := ⟨[], rfl, List.nodup_nil, rfl, fun j b h => by simp at h⟩
theorem Cps.len {H0 H : Hp} {L : Addr} {mv : List (List Int)} {i : Nat} {ys : List V} (h : Cps H0 H L mv i ys) : ys.length = i := by
  obtain ⟨bs, rfl, _, h, _⟩ := h
  rw [List.length_map, h]
theorem Cps.keep {H0 H H' : Hp} {L : Addr} {A : List Addr} {mv : List (List Int)} {i : Nat} {ys : List V} (hA : ∀ a ∈ A, ∃ o, H0 a = some o) (k : Keep (L :: A) H H') (h : Cps H0 H L mv i ys) : Cps H0 H' L mv i ys := by
  obtain ⟨bs, e, nd, hl, h⟩ := h
  refine ⟨bs, e, nd, hl, fun j b hb => ?_⟩
  obtain ⟨h1, h2, r, h3, h4⟩ := h j b hb
  refine ⟨h1, h2, r, h3, k b _ (fun hm => ?_) h4⟩
  rcases List.mem_cons.mp hm with e | hm
  · exact h2 e
  · obtain ⟨o, e⟩ := hA b hm
    rw [h1] at e
    cases e
theorem Cps.step {H0 H : Hp} {L b : Addr} {mv : List (List Int)} {i : Nat} {ys : List V} {r : List Int} (h : Cps H0 H L mv i ys) (hr : mv[i]? = some r) (hb : H b = none) (h0 : H0 b = none) (hL : b ≠ L) : Cps H0 (L2.upd H b (.lst (r.map V.int))) L mv (i + 1) (ys ++ [.ref b]) := by
  obtain ⟨bs, rfl, nd, hl, h⟩ := h
  have nb : ∀ c ∈ bs, c ≠ b := fun c hc e => by
    obtain ⟨j, hj⟩ := List.mem_iff_getElem?.mp hc
    obtain ⟨_, _, r2, _, h4⟩ := h j c hj
    rw [e, hb] at h4
    cases h4
  refine ⟨bs ++ [b], by rw [List.map_append]; rfl, ?_, by rw [List.length_append, hl]; rfl, fun j c hc => ?_⟩
  · rw [List.nodup_append]
    refine ⟨nd, by simp, fun x hx y hy => ?_⟩
    rw [List.mem_singleton.mp hy]
    exact nb x hx
  · by_cases hj : j < bs.length
    · rw [List.getElem?_append_left hj] at hc
      obtain ⟨h1, h2, r2, h3, h4⟩ := h j c hc
      exact ⟨h1, h2, r2, h3, by rw [upd_ne (nb c (List.mem_of_getElem? hc))]; exact h4⟩
    · rw [List.getElem?_append_right (by omega)] at hc
      have e : j = bs.length := by
        by_cases e : j - bs.length = 0
        · omega
        · rw [List.getElem?_eq_none (by simp; omega)] at hc
          cases hc
      subst e
      simp at hc
      subst hc
      exact ⟨h0, hL, r, by rw [hl]; exact hr, upd_same⟩
theorem Rps.of_get {S : List Addr} {H : Hp} : ∀ {xs : List V} {ds : List D}, xs.length = ds.length → (∀ (j : Nat) (y : V) (d : D), xs[j]? = some y → ds[j]? = some d → Rp S H y d) → Rps S H xs ds
  | [], [], _, _ => .nil
  | y :: xs, d :: ds, hl, h => .cons (h 0 y d rfl rfl) (Rps.of_get (by simpa using hl) fun j z e h1 h2 => h (j + 1) z e (by simpa using h1) (by simpa using h2))
/-- the copies stand for the rows; the one at j, and the others apart from it -/
theorem Cps.data {A S : List Addr} {H0 H : Hp} {L : Addr} {mv : List (List Int)} {ys : List V} (W : Wd A S H0) (h : Cps H0 H L mv mv.length ys) : Rps S H ys (mv.map rowD) := by
  refine Rps.of_get (by rw [h.len, List.length_map]) fun j y d h1 h2 => ?_
  obtain ⟨bs, rfl, nd, hl, h⟩ := h
  rw [List.getElem?_map] at h1 h2
  cases hb : bs[j]? with
  | none => rw [hb] at h1; cases h1
  | some b =>
  rw [hb] at h1
  cases h1
  obtain ⟨q1, q2, r, q3, q4⟩ := h j b hb
  rw [q3] at h2
  cases h2
  exact .lst (W.fresh q1) q4 (Rps.ints r)
theorem Cps.row {A S : List Addr} {H0 H : Hp} {L : Addr} {mv : List (List Int)} {ys : List V} (W : Wd A S H0) (h : Cps H0 H L mv mv.length ys) {i : Nat} {r : List Int} (hr : mv[i]? = some r) :
    ∃ b, ys[i]? = some (.ref b) ∧ H0 b = none ∧ b ≠ L ∧ b ∉ S ∧ H b = some (.lst (r.map V.int)) ∧ ∀ (j : Nat) (y : V) (d : D), j ≠ i → ys[j]? = some y → (mv.map rowD)[j]? = some d → Rp (b :: S) H y d := by
  obtain ⟨bs, rfl, nd, hl, h⟩ := h
  have hi : i < bs.length := by
    rw [hl]
    exact (List.getElem?_eq_some_iff.mp hr).1
  have hb : bs[i]? = some bs[i] := List.getElem?_eq_getElem hi
  obtain ⟨q1, q2, r2, q3, q4⟩ := h i _ hb
  rw [hr] at q3
  cases q3
  refine ⟨bs[i], by rw [List.getElem?_map, hb]; rfl, q1, q2, W.fresh q1, q4, fun j y d hj h1 h2 => ?_⟩
  rw [List.getElem?_map] at h1 h2
  cases hc : bs[j]? with
  | none => rw [hc] at h1; cases h1
  | some c =>
  rw [hc] at h1
  cases h1
  obtain ⟨p1, p2, r3, p3, p4⟩ := h j c hc
  rw [p3] at h2
  cases h2
  refine .lst (fun hm => ?_) p4 (Rps.ints r3)
  rcases List.mem_cons.mp hm with e | hm
  · have hj2 := (List.getElem?_eq_some_iff.mp hc).1
    rw [List.getElem?_eq_getElem hj2] at hc
    have e2 : bs[j] = bs[i] := (Option.some.inj hc).trans e
    exact hj ((List.getElem_inj nd).mp e2)
  · exact W.fresh p1 hm
/-- the one at i changed -/
theorem Rps.row_set {S : List Addr} {H : Hp} {ys zs : List V} {ds es : List D} {b : Addr} {i : Nat} (hl : ys.length = ds.length) (hy : ys[i]? = some (.ref b)) (hb : b ∉ S) (h : ∀ (j : Nat) (y : V) (d : D), j ≠ i → ys[j]? = some y → ds[j]? = some d → Rp (b :: S) H y d) (hz : Rps (b :: S) H zs es) :
    Rps S (L2.upd H b (.lst zs)) ys (ds.set i (.lst es)) := by
  have k : Keep (b :: S) H (L2.upd H b (.lst zs)) := Keep.upd (List.mem_cons_self ..)
  refine Rps.of_get (by rw [List.length_set]; exact hl) fun j y d h1 h2 => ?_
  by_cases e : j = i
  · subst e
    have hi : j < ds.length := by rw [← hl]; exact (List.getElem?_eq_some_iff.mp hy).1
    rw [List.getElem?_set_self hi] at h2
    rw [hy] at h1
    cases h1
    cases h2
    exact .lst hb upd_same ((hz.keep k).less fun _ h => List.mem_cons_of_mem _ h)
  · rw [List.getElem?_set_ne (Ne.symm e)] at h2
    exact ((h j y d e h1 h2).keep k).less fun _ h => List.mem_cons_of_mem _ h
theorem Rps.set {S : List Addr} {H : Hp} {y : V} {d : D} (r : Rp S H y d) : ∀ {xs : List V} {ds : List D} (i : Nat), Rps S H xs ds → Rps S H (xs.set i y) (ds.set i d)
  | _, _, _, .nil => .nil
  | _, _, 0, .cons _ t => .cons r t
  | _, _, i + 1, .cons a t => .cons a (Rps.set r i t)
section
open PyProof.Rows
/-- in, the written part named -/
theorem op_inQ {X : Cx} {K : PySem.W.Frag} (h : X.K = K) : OpR X (compareOp .In) (rIn K false) := by
  subst h
  exact op_in_seq
/-- pi_seqW, the written part named -/
theorem pi_seqWK {X : Cx} {K : PySem.W.Frag} {tg e : Expr} {te : TE} (h : X.K = K) (he : PE X e te) : PI X tg e (iSeqW K te) := by
  subst h
  exact pi_seqW he
/-- x[i] of a list, the written part named -/
theorem ixLK {X : Cx} {K : PySem.W.Frag} (h : X.K = K) : IxR X (rIxL K) := by
  subst h
  exact ix_list
end
section
open PyProof.Rows
/-- a text times a number -/
def rMulS : R2 := fun x y H Q => ∃ (z : Str) (n : Int), x = .str z ∧ y = .int n ∧ MulOk z n ∧ Q (.str (Txt.mul z n)) H
theorem op_mulS {X : Cx} : OpR X (binaryOp .Mult) rMulS := by
  intro pins s σ H x y v u Q I rx ry h
  obtain ⟨z, n, rfl, rfl, hok, q⟩ := h
  obtain ⟨t, rfl⟩ := rx
  obtain ⟨t', rfl⟩ := ry
  exact SB.mul hok fun t'' k => ⟨.str (Txt.mul z n), H, I.tok _, ⟨_, rfl⟩, q⟩
theorem mulok_zero {n : Int} (h : n = 1 ∨ n = 2 ∨ n = 3) : MulOk (Str.ofString "0") n := by
  rcases h with rfl | rfl | rfl <;> (unfold MulOk; decide +kernel)
end
/-- as Cps.data, Cps.row, apart from the list of the rows, too -/
theorem Cps.dataL {A S : List Addr} {H0 H : Hp} {L : Addr} {mv : List (List Int)} {ys : List V} (W : Wd A S H0) (h : Cps H0 H L mv mv.length ys) : Rps (L :: S) H ys (mv.map rowD) := by
  refine Rps.of_get (by rw [h.len, List.length_map]) fun j y d h1 h2 => ?_
  obtain ⟨bs, rfl, nd, hl, h⟩ := h
  rw [List.getElem?_map] at h1 h2
  cases hb : bs[j]? with
  | none => rw [hb] at h1; cases h1
  | some b =>
  rw [hb] at h1
  cases h1
  obtain ⟨q1, q2, r, q3, q4⟩ := h j b hb
  rw [q3] at h2
  cases h2
  exact .lst (fun hm => (List.mem_cons.mp hm).elim q2 (W.fresh q1)) q4 (Rps.ints r)
theorem Cps.rowL {A S : List Addr} {H0 H : Hp} {L : Addr} {mv : List (List Int)} {ys : List V} (W : Wd A S H0) (h : Cps H0 H L mv mv.length ys) {i : Nat} {r : List Int} (hr : mv[i]? = some r) :
    ∃ b, ys[i]? = some (.ref b) ∧ H0 b = none ∧ b ∉ L :: S ∧ H b = some (.lst (r.map V.int)) ∧ ∀ (j : Nat) (y : V) (d : D), j ≠ i → ys[j]? = some y → (mv.map rowD)[j]? = some d → Rp (b :: L :: S) H y d := by
  obtain ⟨bs, rfl, nd, hl, h⟩ := h
  have hi : i < bs.length := by
    rw [hl]
    exact (List.getElem?_eq_some_iff.mp hr).1
  have hb : bs[i]? = some bs[i] := List.getElem?_eq_getElem hi
  obtain ⟨q1, q2, r2, q3, q4⟩ := h i _ hb
  rw [hr] at q3
  cases q3
  refine ⟨bs[i], by rw [List.getElem?_map, hb]; rfl, q1, fun hm => (List.mem_cons.mp hm).elim q2 (W.fresh q1), q4, fun j y d hj h1 h2 => ?_⟩
  rw [List.getElem?_map] at h1 h2
  cases hc : bs[j]? with
  | none => rw [hc] at h1; cases h1
  | some c =>
  rw [hc] at h1
  cases h1
  obtain ⟨p1, p2, r3, p3, p4⟩ := h j c hc
  rw [p3] at h2
  cases h2
  refine .lst (fun hm => ?_) p4 (Rps.ints r3)
  rcases List.mem_cons.mp hm with e | hm
  · have hj2 := (List.getElem?_eq_some_iff.mp hc).1
    rw [List.getElem?_eq_getElem hj2] at hc
    have e2 : bs[j] = bs[i] := (Option.some.inj hc).trans e
    exact hj ((List.getElem_inj nd).mp e2)
  · rcases List.mem_cons.mp hm with e | hm
    · exact p2 e
    · exact W.fresh p1 hm

/-! ## dicts whose keys are tuples, nested or not -/
section
open PyProof.Rows
mutual
/-- the value v is the key k -/
inductive NV (H : Hp) : V → NestedKey → Prop
  | bl (b : Bool) : NV H (.bl b) (.num (if b = true then 1 else 0))
  | int (i : Int) : NV H (.int i) (.num i)
  | str (x : Str) : NV H (.str x) (.text x)
  | tup {a : Addr} {xs : List V} {ks : List NestedKey} : H a = some (.tup xs) → NVs H xs ks → NV H (.ref a) (.tup ks)
inductive NVs (H : Hp) : List V → List NestedKey → Prop
  | nil : NVs H [] []
  | cons {v : V} {k : NestedKey} {vs : List V} {ks : List NestedKey} : NV H v k → NVs H vs ks → NVs H (v :: vs) (k :: ks)
end
mutual
theorem NV.keep {H H' : Hp} (k : ∀ a xs, H a = some (.tup xs) → H' a = some (.tup xs)) : ∀ {v : V} {n : NestedKey}, NV H v n → NV H' v n
  | _, _, .bl b => .bl b
  | _, _, .int i => .int i
  | _, _, .str x => .str x
  | _, _, .tup e r => .tup (k _ _ e) (NVs.keep k r)
theorem NVs.keep {H H' : Hp} (k : ∀ a xs, H a = some (.tup xs) → H' a = some (.tup xs)) : ∀ {v : List V} {n : List NestedKey}, NVs H v n → NVs H' v n
  | _, _, .nil => .nil
  | _, _, .cons r t => .cons (NV.keep k r) (NVs.keep k t)
end
theorem NVs.ints {H : Hp} : ∀ ns : List Int, NVs H (ns.map V.int) (ns.map NestedKey.num)
  | [] => .nil
  | _ :: r => .cons (.int _) (NVs.ints r)
variable {P : Program} {w : World}
mutual
theorem NV.isk {H : Hp} {h : Heap} (ok : HOk P w H h) : ∀ {v : V} {n : NestedKey} {u : Value}, NV H v n → RelV v u → NestedIs h n u
  | _, _, _, .bl b, r => by
    obtain rfl := r
    exact .bool rfl
  | _, _, _, .int i, r => by
    obtain ⟨t, rfl⟩ := r
    exact .int i t
  | _, _, _, .str x, r => by
    obtain ⟨t, rfl⟩ := r
    exact .text x t
  | _, _, _, .tup (a := a) (xs := xs) e rs, r => by
    obtain rfl := r
    obtain ⟨_, its, rr, o, h1, h2, n, h3⟩ := (show ObjOk P w H h a (.tup xs) from ok a _ e)
    exact .tup h1 h2 h3 (by simpa using NVs.isk ok rs rr)
theorem NVs.isk {H : Hp} {h : Heap} (ok : HOk P w H h) : ∀ {vs : List V} {ns : List NestedKey} {us : List Value}, NVs H vs ns → Vals vs us → NestedAll h ns us
  | _, _, _, .nil, r => by
    cases r
    exact .nil
  | _, _, _, .cons a t, r => by
    cases r with
    | cons r1 r2 => exact .cons (NV.isk ok a r1) (NVs.isk ok t r2)
end
/-- an entry: key, where the key's tuple stands, value -/
abbrev NE := NestedKey × Addr × V
def NR (e : NE) (q : NestedKey × Addr × Value) : Prop := e.1 = q.1 ∧ e.2.1 = q.2.1 ∧ RelV e.2.2 q.2.2
def ndP (P : Program) (w : World) (a : Addr) (kvs : List NE) (h : Heap) : Prop := kvs.length ≤ sizeLine ∧ (a == sysModules) = false ∧ ∃ xs, Paired NR kvs xs ∧ ∃ o es ep, h.get? a = some o ∧ o.ExactDict ∧ o.data = .dict es ep ∧
  es.toList = xs.map (entryOfKey (nestedKind P w)) ∧ (xs.map (·.1)).Nodup
def ndO (P : Program) (w : World) (a : Addr) (kvs : List NE) : HO := .ext (ndP P w a kvs)
/-- the keys stand -/
def NKeys (H : Hp) (kvs : List NE) : Prop := ∀ e ∈ kvs, NV H (.ref e.2.1) e.1 ∧ e.1.depth ≤ 8
def lookN (kvs : List NE) (k : NestedKey) : Option V := (kvs.find? fun e => decide (e.1 = k)).map (·.2.2)
theorem NKeys.keep {H H' : Hp} {kvs : List NE} (n : NKeys H kvs) (k : ∀ a xs, H a = some (.tup xs) → H' a = some (.tup xs)) : NKeys H' kvs := fun e he => ⟨(n e he).1.keep k, (n e he).2⟩
theorem ndP.stays {a : Addr} {kvs : List NE} {h1 h2 : Heap} (x : ndP P w a kvs h1) (k : ∀ o, h1.get? a = some o → h2.get? a = some o) : ndP P w a kvs h2 := by
  obtain ⟨z, y, xs, r, o, es, ep, e, q⟩ := x
  exact ⟨z, y, xs, r, o, es, ep, k _ e, q⟩
theorem nd_ok {H : Hp} {h : Heap} {a : Addr} {kvs : List NE} (x : ndP P w a kvs h) : ObjOk P w H h a (ndO P w a kvs) :=
  ⟨x, let ⟨_, _, _, _, o, _, _, e, _⟩ := x; ⟨o, e⟩, fun _ _ q k => q.stays k⟩
theorem nd_of {H : Hp} {h : Heap} {a : Addr} {kvs : List NE} (ok : HOk P w H h) (e : H a = some (ndO P w a kvs)) (n : NKeys H kvs) : kvs.length ≤ sizeLine ∧ (a == sysModules) = false ∧ ∃ xs, Paired NR kvs xs ∧ h.DictOfH (nestedKind P w) a xs := by
  obtain ⟨⟨z, y, xs, r, o, es, ep, h1, h2, h3, h4, h5⟩, _⟩ := (show ObjOk P w H h a (ndO P w a kvs) from ok a _ e)
  refine ⟨z, y, xs, r, o, es, ep, h1, h2, h3, h4, ?_, h5⟩
  have all : ∀ {l : List NE} {m : List (NestedKey × Addr × Value)}, Paired NR l m → (∀ e ∈ l, NV H (.ref e.2.1) e.1 ∧ e.1.depth ≤ 8) → ∀ x ∈ m, (nestedKind P w).is h x.1 x.2.1 := by
    intro l m q
    induction q with
    | nil => intro _ x hx; exact nomatch hx
    | @cons p q ps qs hq t ih =>
      intro hn x hx
      rcases List.mem_cons.mp hx with e | hx
      · subst e
        have z := hn p (List.mem_cons_self ..)
        rw [hq.1, hq.2.1] at z
        exact ⟨z.1.isk ok rfl, z.2⟩
      · exact ih (fun e he => hn e (List.mem_cons_of_mem _ he)) x hx
  exact all r n
theorem NR.look {k : NestedKey} : ∀ {kvs : List NE} {xs : List (NestedKey × Addr × Value)}, Paired NR kvs xs → (lookN kvs k = none ∧ atKey xs k = none) ∨ ∃ v p, lookN kvs k = some v ∧ atKey xs k = some p ∧ RelV v p.2
  | _, _, .nil => .inl ⟨rfl, rfl⟩
  | _, _, .cons (a := e) (b := q) (l₁ := l1) (l₂ := l2) r t => by
    by_cases h : e.1 = k
    · refine .inr ⟨e.2.2, q.2, ?_, ?_, r.2.2⟩
      · unfold lookN
        rw [List.find?_cons_of_pos (by simpa using h)]
        rfl
      · unfold atKey
        rw [List.find?_cons_of_pos (by simpa using r.1.symm.trans h)]
        rfl
    · have h' : ¬ q.1 = k := fun z => h (r.1.trans z)
      have e1 : lookN (e :: l1) k = lookN l1 k := by
        unfold lookN
        rw [List.find?_cons_of_neg (by simpa using h)]
      have e2 : atKey (q :: l2) k = atKey l2 k := by
        unfold atKey
        rw [List.find?_cons_of_neg (by simpa using h')]
      rw [e1, e2]
      exact NR.look t
variable {X : Cx} {o i e value : Expr} {pos pos' : Pos} {td ty tv : TE}
theorem nd_room {A : Around} (hu : A.units + 16 < cLine) : (nestedKind P w).room A.in1 := by
  show A.units + 1 + 8 < cLine
  omega
/-- y (not) in d; d[y]; d[y] = v, y not there -/
def tNDIn (P : Program) (w : World) (neg : Bool) (ty td : TE) : TE := fun σ H Q => ty σ H fun y H1 => td σ H1 fun x H2 => ∃ a kvs b k, x = .ref a ∧ y = .ref b ∧ H2 a = some (ndO P w a kvs) ∧ NKeys H2 kvs ∧ NV H2 (.ref b) k ∧ k.depth ≤ 8 ∧ Q (.bl (if neg then !(lookN kvs k).isSome else (lookN kvs k).isSome)) H2
def tNDGet (P : Program) (w : World) (td ty : TE) : TE := fun σ H Q => td σ H fun x H1 => ty σ H1 fun y H2 => ∃ a kvs b k v, x = .ref a ∧ y = .ref b ∧ H2 a = some (ndO P w a kvs) ∧ NKeys H2 kvs ∧ NV H2 (.ref b) k ∧ k.depth ≤ 8 ∧ lookN kvs k = some v ∧ Q v H2
def sNDPut (P : Program) (w : World) (td ty tv : TE) : TS := fun D σ H => tv σ H fun v H1 => td σ H1 fun x H2 => ty σ H2 fun y H3 => ∃ a kvs b k, x = .ref a ∧ y = .ref b ∧ H3 a = some (ndO P w a kvs) ∧ NKeys H3 kvs ∧ NV H3 (.ref b) k ∧ k.depth ≤ 8 ∧ lookN kvs k = none ∧ kvs.length < sizeLine ∧
  D.nx σ (upd H3 a (ndO P w a (kvs ++ [(k, b, v)])))
theorem NR.size {kvs : List NE} {xs : List (NestedKey × Addr × Value)} (r : Paired NR kvs xs) : kvs.length = xs.length := Paired.length r
section
variable {pins : List (Addr × Obj)} {σ : L2.St} {H : Hp} {s : Shared} {a b : Addr} {kvs : List NE} {k : NestedKey}
theorem NV.key (I : Inv X pins σ H s) (n : NV H (.ref b) k) (h : k.depth ≤ 8) : (nestedKind X.prog X.w).is s.heap k b := ⟨n.isk I.hok rfl, h⟩
end
theorem pc_ndin (hu : X.A.units + 16 < cLine) (hi : PE X i ty) (ho : PE X o td) : PC X .In i o (tNDIn X.prog X.w false ty td) := by
  refine ⟨fun pins s σ H Q I h => ?_⟩
  refine thn (hi.run pins s σ H _ I h) fun iv s1 ⟨y, H1, I1, ry, q1⟩ => thn (ho.run pins s1 σ H1 _ I1 q1) fun u s2 ⟨x, H2, I2, rx, a, kvs, b, k, ex, ey, e, nk, nv, hk, q2⟩ => ?_
  subst ex ey
  obtain rfl : u = Value.ref a := rx
  obtain rfl : iv = Value.ref b := ry
  obtain ⟨z, hd, xs, r, dd⟩ := nd_of I2.hok e nk
  refine wpAny_in_heap (nd_room hu) (nv.key I2 hk) hd dd ?_
  rcases NR.look (k := k) r with ⟨l1, l2⟩ | ⟨v, p, l1, l2, _⟩
  · rw [l2]
    rw [l1] at q2
    exact ⟨.bl false, H2, I2.tok _, rfl, q2⟩
  · rw [l2]
    rw [l1] at q2
    exact ⟨.bl true, H2, I2.tok _, rfl, q2⟩
theorem pc_ndnotin (hu : X.A.units + 16 < cLine) (hi : PE X i ty) (ho : PE X o td) : PC X .NotIn i o (tNDIn X.prog X.w true ty td) := by
  refine ⟨fun pins s σ H Q I h => ?_⟩
  refine thn (hi.run pins s σ H _ I h) fun iv s1 ⟨y, H1, I1, ry, q1⟩ => thn (ho.run pins s1 σ H1 _ I1 q1) fun u s2 ⟨x, H2, I2, rx, a, kvs, b, k, ex, ey, e, nk, nv, hk, q2⟩ => ?_
  subst ex ey
  obtain rfl : u = Value.ref a := rx
  obtain rfl : iv = Value.ref b := ry
  obtain ⟨z, hd, xs, r, dd⟩ := nd_of I2.hok e nk
  refine wpAny_notIn_heap (nd_room hu) (nv.key I2 hk) hd dd ?_
  rcases NR.look (k := k) r with ⟨l1, l2⟩ | ⟨v, p, l1, l2, _⟩
  · rw [l2]
    rw [l1] at q2
    exact ⟨.bl true, H2, I2.tok _, rfl, q2⟩
  · rw [l2]
    rw [l1] at q2
    exact ⟨.bl false, H2, I2.tok _, rfl, q2⟩
theorem pe_ndget (hu : X.A.units + 16 < cLine) (ho : PE X o td) (hi : PE X i ty) (hs : NoSl i) : PE X (.Subscript o i pos) (tNDGet X.prog X.w td ty) := by
  refine ⟨fun pins s σ H Q I h => ?_⟩
  refine subD_of PySem.F.slot_dict_getitem.lookup hs (thn (ho.run pins s σ H _ I h) fun u s1 ⟨x, H1, I1, rx, q1⟩ => thn (hi.run pins s1 σ H1 _ I1 q1) fun iv s2 ⟨y, H2, I2, ry, a, kvs, b, k, v, ex, ey, e, nk, nv, hk, hl, q2⟩ => ?_)
  subst ex ey
  obtain rfl : u = Value.ref a := rx
  obtain rfl : iv = Value.ref b := ry
  obtain ⟨z, hd, xs, r, dd⟩ := nd_of I2.hok e nk
  rcases NR.look (k := k) r with ⟨l1, _⟩ | ⟨v', p, l1, l2, rv⟩
  · rw [l1] at hl
    cases hl
  · rw [l1] at hl
    have hl := Option.some.inj hl
    subst hl
    exact ⟨dd.typeIs, wpAny_getItem_heap (nd_room hu) (nv.key I2 hk) dd l2 ⟨v', H2, I2.tok _, rv, q2⟩⟩
theorem ps_ndput (hu : X.A.units + 16 < cLine) (ho : PE X o td) (hi : PE X i ty) (hv : PE X value tv) (hs : swapsWith value (some (.Subscript o i pos')) pos.line X.env = pure false) :
    PS X (.Assign [.Subscript o i pos'] value pos) (sNDPut X.prog X.w td ty tv) := by
  refine ⟨fun pins s σ H D I h => ?_⟩
  refine wpAny_Assign_Subscript (thn (hv.run pins s σ H _ I h) fun r0 s1 ⟨v, H1, I1, rv, q1⟩ => thn (ho.run pins s1 σ H1 _ I1 q1) fun u s2 ⟨x, H2, I2, rx, q2⟩ => thn (hi.run pins s2 σ H2 _ I2 q2) fun iv s3 ⟨y, H3, I3, ry, a, kvs, b, k, ex, ey, e, nk, nv, hk, hl, hz, q3⟩ => ?_) hs
  subst ex ey
  obtain rfl : u = Value.ref a := rx
  obtain rfl : iv = Value.ref b := ry
  obtain ⟨z, hd, xs, r, dd⟩ := nd_of I3.hok e nk
  rcases NR.look (k := k) r with ⟨l1, l2⟩ | ⟨v', p, l1, _⟩
  · refine wpAny_setItem_heap (hsz := by rw [← NR.size r]; exact z) (nd_room hu) (nv.key I3 hk) dd fun h' dd' hs => ?_
    rw [storedH_new l2] at dd'
    obtain ⟨q, es, ep, hq, h2, h3, h4, _, h5⟩ := dd'
    refine ⟨σ, _, d_write I3 (by rw [e]; exact True.intro) hs ⟨q, hq⟩ (nd_ok ⟨by rw [List.length_append]; exact hz, hd, _, Paired.snoc r ⟨rfl, rfl, rv⟩, q, es, ep, hq, h2, h3, h4, h5⟩), q3⟩
  · rw [l1] at hl
    cases hl
/-- len(d) -/
def rLenN (P : Program) (w : World) : List V → Hp → VK → Prop := fun xs H Q => ∃ (a : Addr) (kvs : List NE), xs = [.ref a] ∧ H a = some (ndO P w a kvs) ∧ NKeys H kvs ∧ Q (.int ((kvs.length : Nat) : Int)) H
theorem call_lenN : CallR X (.builtin "len") (rLenN X.prog X.w) := by
  intro pins s σ H xs us Q I r h
  obtain ⟨a, kvs, rfl, e, nk, q⟩ := h
  obtain ⟨u, rfl, rx⟩ := vals1 r
  obtain rfl : u = .ref a := rx
  obtain ⟨z, hd, ys, rr, dd⟩ := nd_of I.hok e nk
  have hl := NR.size rr
  refine call_len_dictH hd dd (by rw [← hl]; rw [sizeLine_eq] at z; omega) ?_
  rw [← hl]
  exact ⟨.int ((kvs.length : Nat) : Int), H, I.tok _, ⟨_, rfl⟩, q⟩
/-- {} -/
def tNDNew (P : Program) (w : World) : TE := fun _ H Q => ∀ p, H p = none → Q (.ref p) (upd H p (ndO P w p []))
theorem nd_empty {H : Hp} (h : Heap) (hb : sysModules < h.objs.size) : ObjOk P w H (h.push { cls := .type "dict", data := .dict #[] }) h.objs.size (ndO P w h.objs.size []) :=
  nd_ok ⟨Nat.zero_le _, beq_eq_false_iff_ne.mpr (Ne.symm (Nat.ne_of_lt hb)), [], .nil, _, #[], 0, Heap.get?_push_size _ rfl, ⟨rfl, rfl, rfl⟩, rfl, rfl, List.nodup_nil⟩
theorem pe_ndnew : PE X (.Dict [] [] pos) (tNDNew X.prog X.w) := ⟨fun pins s σ H Q I h =>
  wpAny_Dict_empty ⟨.ref s.heap.objs.size, _, I.laid (a := s.heap.objs.size) (o := ndO X.prog X.w s.heap.objs.size []) (t' := s.toks) (fun _ _ q => Heap.get?_push_of_some _ q) (Nat.le_refl _) (nd_empty s.heap I.big), rfl, h _ (I.hok.fresh (Nat.le_refl _))⟩⟩
/-- {y: v} -/
def tND1 (P : Program) (w : World) (ty tv : TE) : TE := fun σ H Q => ∀ p, H p = none → tPairs [(ty, tv)] σ (upd H p (ndO P w p [])) fun ps H2 => ∃ b k v, ps = [(V.ref b, v)] ∧ H2 p = some (ndO P w p []) ∧ NV H2 (.ref b) k ∧ k.depth ≤ 8 ∧ Q (.ref p) (upd H2 p (ndO P w p [(k, b, v)]))
theorem pe_nd1 (hu : X.A.units + 16 < cLine) (hi : PE X i ty) (hv : PE X value tv) : PE X (.Dict [some i] [value] pos) (tND1 X.prog X.w ty tv) := by
  refine ⟨fun pins s σ H Q I q => ?_⟩
  have hn := I.hok.fresh (Nat.le_refl s.heap.objs.size)
  have I1 := I.laid (a := s.heap.objs.size) (o := ndO X.prog X.w s.heap.objs.size []) (h' := s.heap.push { cls := .type "dict", data := .dict #[] }) (t' := s.toks) (fun _ _ q => Heap.get?_push_of_some _ q) (Nat.le_refl _) (nd_empty s.heap I.big)
  rw [arm_eval_Dict]
  have e1 : (evalEachOpt [some i] X.env).zip ((evalEach [value] X.env).map fun v => do let x ← v; standAt pos; pure x) = [(eval i X.env, do let x ← eval value X.env; standAt pos; pure x)].map fun p => (some p.1, p.2) := by first | rfl | simp [evalEachOpt, evalEach]
  rw [e1, dictDisplay_pairs _ (by simp) (by simp)]
  refine wpAny_bind (wpAny_standAt (wpAny_bind (wpAny_subDictH (knd := nestedKind X.prog X.w) (Q := fun d s' => wpAny (model X.prog X.w) X.A (pure (Value.ref d)) (EP X pins σ Q) X.xe s') (by show X.A.units + 8 < cLine; omega) (by simp) ?_)))
  refine thn ((pps_cons (pos := pos) hi hv pps_nil).run pins _ σ _ _ I1 (q _ hn)) fun ws s2 hh => ?_
  obtain ⟨ps, H2, I2, rel, b, k, v, rfl, e, nv, hk, q2⟩ := hh
  cases rel with
  | @cons p0 q0 _ _ r0 rest =>
  cases rest
  obtain ⟨u, v'⟩ := q0
  obtain ⟨ru, rv⟩ := r0
  obtain rfl : u = Value.ref b := ru
  obtain ⟨z, hd, xs, r, dd⟩ := nd_of I2.hok e (fun e he => nomatch he)
  cases r
  refine ⟨[(k, b, v')], ⟨rfl, rfl, nv.key I2 hk, trivial⟩, dd, fun h' tk dd' hs => wpAny_pure ?_⟩
  have e2 : storedAllH (K := NestedKey) [] [(k, b, v')] = [(k, b, v')] := rfl
  rw [e2] at dd'
  obtain ⟨o1, es, ep, hq, h2, h3, h4, _, h5⟩ := dd'
  exact ⟨.ref s.heap.objs.size, _, d_write I2 (by rw [e]; exact True.intro) hs ⟨o1, hq⟩ (nd_ok ⟨by show 1 ≤ sizeLine; decide, hd, _, .cons ⟨rfl, rfl, rv⟩ .nil, o1, es, ep, hq, h2, h3, h4, h5⟩), rfl, q2⟩
end

/-! ## operators of an object with own defs that may let exceptions out -/
section
open PyProof.Rows
variable {X : Cx} {k j : Nat} {f C : Addr} {fd : FuncData} {ps : List Str} {sp : Sp} {E : L2.St → XK} {pos : Pos} {a b : Expr} {ta tb : TE}
/-- o & v and the like, both of the class at C -/
def tOpZ (C : Addr) (sp : Sp) (E : L2.St → XK) (ta tb : TE) : TE := fun σ H Q => ta σ H fun x H1 => tb σ H1 fun y H2 => ∃ p dx fs q dy fy, x = .ref p ∧ y = .ref q ∧ H2 p = some (.ins C dx fs) ∧ H2 q = some (.ins C dy fy) ∧ sp [.ref p, .ref q] H2 (fun r H3 => ∃ z, r = .ref z ∧ Q (.ref z) H3) (E σ)
theorem pe_opZ {op : Operator} (hc : PySem.W.selfFirst X.K C = true) (c : MetZ X.prog X.w X.K X.mg X.base k C (PySem.dunder op.info.2) sp) (hr : Room j X.A) (hk : k ≤ j) (hx : ∀ σ, PassesAt (L2N.CX X.prog X.w) X σ (E σ)) (ha : PE X a ta) (hb : PE X b tb) : PE X (.BinOp a op b pos) (tOpZ C sp E ta tb) := by
  obtain ⟨f, fd, ps, hcl, hme, F, bd⟩ := c.ex
  refine ⟨fun pins s σ H Q I h => ?_⟩
  refine wpAny_BinOp (binT ha hb I h fun v u s2 x y H2 I2 rx ry q => ?_)
  obtain ⟨p, dx, fs, r, dy, fy, rfl, rfl, ep, er, q⟩ := q
  cases (show v = Value.ref p from rx)
  cases (show u = Value.ref r from ry)
  obtain ⟨mA, J, _⟩ := ins_get I2.hok ep
  obtain ⟨od, J, _⟩ := J.look
  obtain ⟨mB, J2, _⟩ := ins_get I2.hok er
  obtain ⟨od2, J2, _⟩ := J2.look
  obtain ⟨mf, hF⟩ := I2.fr
  refine PySem.W.binop_K hF I2.ok.mod.kin J J2.type hc hme.at_ hme.fn (wpAny_mono (run_fnZ (us := [.ref p, .ref r]) (vs := [.ref p, .ref r]) F trivial (hr.mono hk) bd (hx σ) I2 (.cons rfl (.cons rfl .nil)) q) (fun v s3 hh => ?_) fun _ _ z => z)
  obtain ⟨z, H3, I3, rz, q0, rfl, q3⟩ := hh
  cases (show v = Value.ref q0 from rz)
  exact ⟨.ref q0, H3, I3, rfl, q3⟩
/-- ~o -/
def tUnZ (C : Addr) (sp : Sp) (E : L2.St → XK) (ta : TE) : TE := fun σ H Q => ta σ H fun x H1 => ∃ p dx fs, x = .ref p ∧ H1 p = some (.ins C dx fs) ∧ sp [.ref p] H1 Q (E σ)
theorem pe_invZ (c : MetZ X.prog X.w X.K X.mg X.base k C "__invert__" sp) (hr : Room j X.A) (hk : k ≤ j) (hx : ∀ σ, PassesAt (L2N.CX X.prog X.w) X σ (E σ)) (ha : PE X a ta) : PE X (.UnaryOp .Invert a pos) (tUnZ C sp E ta) := by
  obtain ⟨f, fd, ps, hcl, hme, F, bd⟩ := c.ex
  refine ⟨fun pins s σ H Q I h => ?_⟩
  refine UnaryOp_ (thn (ha.run pins s σ H _ I h) fun v s1 hh => ?_)
  obtain ⟨x, H1, I1, rx, p, dx, fs, rfl, ep, q⟩ := hh
  cases (show v = Value.ref p from rx)
  obtain ⟨mA, J, _⟩ := ins_get I1.hok ep
  obtain ⟨od, J, _⟩ := J.look
  obtain ⟨mf, hF⟩ := I1.fr
  exact PySem.W.ksp_inv hF I1.ok.mod.kin J hme.at_ hme.fn (run_fnZ (us := [.ref p]) (vs := [.ref p]) F trivial (hr.mono hk) bd (hx σ) I1 (.cons rfl .nil) q)
end
section
open PyProof.Rows
/-- enumerate of a list or tuple that stays, whatever else changes -/
def iEnumH (ta : TA) : TI := fun σ H R => ta σ H fun vs H1 => ∃ a xs, vs = [.ref a] ∧ (H1 a = some (.lst xs) ∨ H1 a = some (.tup xs)) ∧ ∀ (J : It) (G : Hp → Prop), Walk J xs.length G (YPair (fun i => some (.int ((i : Nat) : Int))) (fun i => xs[i]?)) → (∀ H2, H2 a = H1 a → G H2) → R J H1
theorem pi_enumH {X : Cx} {e : Expr} {ta : TA} {p pos tpos : Pos} {elts : List Expr} {kk : Nat} (hg : Gl X "enumerate") (hm : X.mg "enumerate" = none) (ha : PA X [e] ta) (hs : starEach [e] X.env = [(false, eval e X.env)] := by rfl) :
    PI X (.Tuple elts kk tpos) (.Call (.Name "enumerate" p) [e] [] pos) (iEnumH ta) := by
  refine ⟨fun pins s σ H R I h => Call_ (ld_blt I hg hm boot_enumerate (PyProof.Rows.callWith_type1 (thn (ha.run pos pins s σ H _ I h) fun us s1 hh => ?_) hs rfl))⟩
  obtain ⟨vs, H1, I1, r1, a, xs, rfl, hq, k⟩ := hh
  have new : ∀ b ∈ [s1.heap.objs.size + 1, s1.heap.objs.size], FpOk X pins H1 b := fun b hb => by
    have hle : s1.heap.objs.size ≤ b := by
      rcases List.mem_cons.mp hb with rfl | hb
      · exact Nat.le_succ _
      · rw [List.mem_singleton.mp hb]; exact Nat.le_refl _
    exact I1.fpOk hle (I1.hok.fresh hle)
  match r1 with
  | .cons ra .nil =>
    cases (show _ = Value.ref a from ra)
    rcases hq with hq | hq
    · obtain ⟨its, rv, p', hz⟩ := I1.list (SqL.of hq)
      refine enum1 (begins_list a its.toArray) p'.isList (F.typeCall_enumerate_1 _) (F.newCall_enumerate_1 _) fun h' he hit hk => wpAny_pyIter_enum he ?_
      exact ⟨s1.heap.objs.size + 1, _, _, _, H1, rfl, I1.kept (t' := s1.toks) hk, turn_enum a (s1.heap.objs.size + 1) s1.heap.objs.size, ⟨⟨.none, he⟩, ⟨_, hit, rfl, rfl⟩, Nat.succ_ne_self _⟩, new, k _ _ walk_enum fun H2 s => SqL.of (s.trans hq)⟩
    · obtain ⟨its, rv, p', hz⟩ := I1.tuple (show SqT X.K H1 a xs from .inl (.inl hq))
      have hal : a < s1.heap.objs.size := by obtain ⟨_, y, _⟩ := p'; exact Heap.lt_size y
      refine enum1 (begins_tuple a its.toArray) p' (F.typeCall_enumerate_1 _) (F.newCall_enumerate_1 _) fun h' he hit hk => wpAny_pyIter_enum he ?_
      exact ⟨s1.heap.objs.size + 1, _, _, _, H1, rfl, I1.kept (t' := s1.toks) hk, turn_enumT a (s1.heap.objs.size + 1) s1.heap.objs.size, ⟨⟨⟨.none, he⟩, ⟨_, hit, rfl, rfl⟩⟩, Nat.succ_ne_self _, Nat.ne_of_gt (Nat.lt_succ_of_lt hal), Nat.ne_of_lt hal⟩, new, k _ _ walk_enumT fun H2 s => (show SqT X.K H2 a xs from .inl (.inl (s.trans hq)))⟩
end

/-! ## walks over rooms, classes of rooms (plain) -/
namespace MA
section
variable {α β : Type} [DecidableEq α] [DecidableEq β]
/-- what is not there yet is put behind -/
def grow (o ts : List α) : List α := ts.foldl (fun o t => if t ∈ o then o else o ++ [t]) o
theorem grow_nil (o : List α) : grow o [] = o := rfl
theorem grow_cons (o : List α) (t : α) (ts : List α) : grow o (t :: ts) = grow (if t ∈ o then o else o ++ [t]) ts := rfl
theorem grow_app (o ts us : List α) : grow o (ts ++ us) = grow (grow o ts) us := List.foldl_append ..
theorem grow_snoc (o ts : List α) (t : α) : grow o (ts ++ [t]) = if t ∈ grow o ts then grow o ts else grow o ts ++ [t] := by
  rw [grow_app]; rfl
theorem grow_pre : ∀ (ts o : List α), ∃ r, grow o ts = o ++ r
  | [], o => ⟨[], by rw [grow_nil, List.append_nil]⟩
  | t :: ts, o => by
    rw [grow_cons]
    by_cases h : t ∈ o
    · rw [if_pos h]; exact grow_pre ts o
    · rw [if_neg h]
      obtain ⟨r, e⟩ := grow_pre ts (o ++ [t])
      exact ⟨[t] ++ r, by rw [e, List.append_assoc]⟩
theorem mem_grow {x : α} : ∀ {ts o : List α}, x ∈ grow o ts ↔ x ∈ o ∨ x ∈ ts
  | [], o => by simp [grow_nil]
  | t :: ts, o => by
    rw [grow_cons, mem_grow (ts := ts)]
    by_cases h : t ∈ o
    · rw [if_pos h]
      simp only [List.mem_cons]
      constructor
      · rintro (a | a)
        · exact .inl a
        · exact .inr (.inr a)
      · rintro (a | rfl | a)
        · exact .inl a
        · exact .inl h
        · exact .inr a
    · rw [if_neg h]
      simp only [List.mem_append, List.mem_cons, List.not_mem_nil, or_false, or_assoc]
theorem nodup_grow : ∀ {ts o : List α}, o.Nodup → (grow o ts).Nodup
  | [], _, h => h
  | t :: ts, o, h => by
    rw [grow_cons]
    by_cases ht : t ∈ o
    · rw [if_pos ht]; exact nodup_grow h
    · rw [if_neg ht]
      refine nodup_grow (List.nodup_append.mpr ⟨h, by simp, fun a ha b hb => ?_⟩)
      rw [List.mem_singleton.mp hb]
      exact fun e => ht (e ▸ ha)
theorem grow_all {o ts : List α} (h : ∀ t ∈ ts, t ∈ o) : grow o ts = o := by
  induction ts with
  | nil => rfl
  | cons t ts ih =>
    rw [grow_cons, if_pos (h t (List.mem_cons_self ..))]
    exact ih fun x hx => h x (List.mem_cons_of_mem _ hx)
/-- each one once, where it comes first -/
def dd (l : List α) : List α := grow [] l
theorem mem_dd {x : α} {l : List α} : x ∈ dd l ↔ x ∈ l := by unfold dd; rw [mem_grow]; simp
theorem nodup_dd (l : List α) : (dd l).Nodup := nodup_grow List.nodup_nil
theorem dd_app (l m : List α) : dd (l ++ m) = grow (dd l) m := grow_app ..
theorem dd_snoc (l : List α) (x : α) : dd (l ++ [x]) = if x ∈ l then dd l else dd l ++ [x] := by
  rw [dd_app]
  show (if x ∈ dd l then dd l else dd l ++ [x]) = _
  by_cases h : x ∈ l
  · rw [if_pos h, if_pos (mem_dd.mpr h)]
  · rw [if_neg h, if_neg (fun z => h (mem_dd.mp z))]
/-- dd of a map: growing below -/
theorem dd_map_grow (c : α → β) : ∀ (ts o : List α), dd ((grow o ts).map c) = grow (dd (o.map c)) (ts.map c)
  | [], _ => rfl
  | t :: ts, o => by
    rw [grow_cons, List.map_cons, grow_cons]
    by_cases h : t ∈ o
    · rw [if_pos h, if_pos (mem_dd.mpr (List.mem_map_of_mem h))]
      exact dd_map_grow c ts o
    · rw [if_neg h, dd_map_grow c ts (o ++ [t]), List.map_append, List.map_cons, List.map_nil, dd_snoc]
      by_cases h2 : c t ∈ o.map c
      · rw [if_pos h2, if_pos (mem_dd.mpr h2)]
      · rw [if_neg h2, if_neg (fun z => h2 (mem_dd.mp z))]
theorem nodup_le : ∀ {l m : List α}, l.Nodup → (∀ x ∈ l, x ∈ m) → l.length ≤ m.length
  | [], _, _, _ => Nat.zero_le _
  | x :: l, m, h, s => by
    rw [List.nodup_cons] at h
    have hx := s x (List.mem_cons_self ..)
    have := nodup_le (m := m.erase x) h.2 fun y hy => (List.mem_erase_of_ne (fun e : y = x => h.1 (by rw [← e]; exact hy))).mpr (s y (List.mem_cons_of_mem _ hy))
    rw [List.length_erase_of_mem hx] at this
    have : 0 < m.length := List.length_pos_of_mem hx
    rw [List.length_cons]
    omega
/-! ### the order in which rooms are reached -/
def ordN (row : α → List α) (r0 : α) : Nat → List α
  | 0 => [r0]
  | i + 1 => match (ordN row r0 i)[i]? with
    | some r => grow (ordN row r0 i) (row r)
    | none => ordN row r0 i
variable {row : α → List α} {r0 : α}
theorem ordN_some {i : Nat} {r : α} (h : (ordN row r0 i)[i]? = some r) : ordN row r0 (i + 1) = grow (ordN row r0 i) (row r) := by
  show (match (ordN row r0 i)[i]? with | some r => _ | none => _) = _
  rw [h]
theorem ordN_none {i : Nat} (h : (ordN row r0 i)[i]? = none) : ordN row r0 (i + 1) = ordN row r0 i := by
  show (match (ordN row r0 i)[i]? with | some r => _ | none => _) = _
  rw [h]
theorem ordN_pre1 (i : Nat) : ∃ r, ordN row r0 (i + 1) = ordN row r0 i ++ r := by
  cases h : (ordN row r0 i)[i]? with
  | none => exact ⟨[], by rw [ordN_none h, List.append_nil]⟩
  | some r => rw [ordN_some h]; exact grow_pre ..
theorem ordN_pre {i : Nat} : ∀ j, ∃ r, ordN row r0 (i + j) = ordN row r0 i ++ r
  | 0 => ⟨[], by rw [Nat.add_zero, List.append_nil]⟩
  | j + 1 => by
    obtain ⟨r, e⟩ := ordN_pre (i := i) j
    obtain ⟨r2, e2⟩ := ordN_pre1 (row := row) (r0 := r0) (i + j)
    exact ⟨r ++ r2, by rw [← Nat.add_assoc, e2, e, List.append_assoc]⟩
theorem ordN_nodup : ∀ i, (ordN row r0 i).Nodup
  | 0 => by simp [ordN]
  | i + 1 => by
    cases h : (ordN row r0 i)[i]? with
    | none => rw [ordN_none h]; exact ordN_nodup i
    | some r => rw [ordN_some h]; exact nodup_grow (ordN_nodup i)
theorem ordN_in {S : List α} (h0 : r0 ∈ S) (hS : ∀ r ∈ S, ∀ t ∈ row r, t ∈ S) : ∀ i, ∀ x ∈ ordN row r0 i, x ∈ S
  | 0, x, hx => by rw [List.mem_singleton.mp (show x ∈ [r0] from hx)]; exact h0
  | i + 1, x, hx => by
    cases h : (ordN row r0 i)[i]? with
    | none => rw [ordN_none h] at hx; exact ordN_in h0 hS i x hx
    | some r =>
      rw [ordN_some h] at hx
      rcases mem_grow.mp hx with hx | hx
      · exact ordN_in h0 hS i x hx
      · exact hS r (ordN_in h0 hS i r (List.mem_of_getElem? h)) x hx
theorem ordN_len {S : List α} (h0 : r0 ∈ S) (hS : ∀ r ∈ S, ∀ t ∈ row r, t ∈ S) (i : Nat) : (ordN row r0 i).length ≤ S.length := nodup_le (ordN_nodup i) (ordN_in h0 hS i)
theorem ordN_stable {i : Nat} (h : (ordN row r0 i).length ≤ i) : ∀ j, ordN row r0 (i + j) = ordN row r0 i
  | 0 => rfl
  | j + 1 => by
    have e := ordN_stable h j
    rw [← Nat.add_assoc, ordN_none (by rw [e, List.getElem?_eq_none_iff]; omega), e]
theorem ordN_done : ∀ {i j : Nat} {r : α}, j < i → (ordN row r0 i)[j]? = some r → ∀ t ∈ row r, t ∈ ordN row r0 i
  | i + 1, j, r, hj, hr, t, ht => by
    obtain ⟨q, e⟩ := ordN_pre1 (row := row) (r0 := r0) i
    by_cases h : j < (ordN row r0 i).length
    · have hr' : (ordN row r0 i)[j]? = some r := by rw [e, List.getElem?_append_left h] at hr; exact hr
      by_cases hji : j < i
      · rw [e]
        exact List.mem_append_left _ (ordN_done hji hr' t ht)
      · have : j = i := by omega
        subst this
        rw [ordN_some hr']
        exact mem_grow.mpr (.inr ht)
    · have h2 : (ordN row r0 i).length ≤ i := by omega
      have e2 := ordN_stable h2 1
      rw [e2] at hr
      rw [List.getElem?_eq_none (by omega)] at hr
      cases hr
theorem ordN_closed {n : Nat} (h : (ordN row r0 n).length ≤ n) : ∀ r ∈ ordN row r0 n, ∀ t ∈ row r, t ∈ ordN row r0 n := fun r hr t ht => by
  obtain ⟨j, hj, e⟩ := List.mem_iff_getElem.mp hr
  exact ordN_done (j := j) (by omega) (by rw [List.getElem?_eq_getElem hj, e]) t ht
theorem ordN_zero (i : Nat) : (ordN row r0 i)[0]? = some r0 := by
  obtain ⟨r, e⟩ := ordN_pre (row := row) (r0 := r0) (i := 0) i
  rw [Nat.zero_add] at e
  rw [e]
  rfl
/-- where a walk of fewer rooms ends -/
theorem ordN_map {row' : β → List β} {c : α → β} {S : List α} (h0 : r0 ∈ S) (hS : ∀ r ∈ S, ∀ t ∈ row r, t ∈ S) (hc : ∀ r ∈ S, row' (c r) = (row r).map c) :
    ∀ i, ∃ j, ordN row' (c r0) j = dd ((ordN row r0 i).map c) ∧ j = (dd (((ordN row r0 i).take i).map c)).length
  | 0 => ⟨0, rfl, rfl⟩
  | i + 1 => by
    obtain ⟨j, e1, e2⟩ := ordN_map h0 hS hc i
    have inS := ordN_in h0 hS i
    cases h : (ordN row r0 i)[i]? with
    | none =>
      refine ⟨j, by rw [ordN_none h]; exact e1, ?_⟩
      rw [ordN_none h, e2]
      have hl := List.getElem?_eq_none_iff.mp h
      rw [List.take_of_length_le hl, List.take_of_length_le (by omega)]
    | some r =>
      have hi : i < (ordN row r0 i).length := (List.getElem?_eq_some_iff.mp h).1
      have hr : (ordN row r0 i)[i] = r := (List.getElem?_eq_some_iff.mp h).2
      have ht1 : (ordN row r0 (i + 1)).take (i + 1) = (ordN row r0 i).take i ++ [r] := by
        obtain ⟨q, e⟩ := ordN_pre1 (row := row) (r0 := r0) i
        rw [e, List.take_append_of_le_length (by omega), List.take_succ, h]
        rfl
      have hrS : r ∈ S := inS r (List.mem_of_getElem? h)
      have ho : dd ((ordN row r0 (i + 1)).map c) = grow (dd ((ordN row r0 i).map c)) (row' (c r)) := by
        rw [ordN_some h, dd_map_grow, hc r hrS]
      rw [ht1, List.map_append, List.map_cons, List.map_nil, dd_snoc]
      by_cases hm : c r ∈ ((ordN row r0 i).take i).map c
      · refine ⟨j, ?_, by rw [if_pos hm]; exact e2⟩
        rw [ho, grow_all (fun t ht => ?_), e1]
        obtain ⟨s, hs, es⟩ := List.mem_map.mp hm
        obtain ⟨l, hl, el⟩ := List.mem_iff_getElem.mp hs
        rw [List.length_take] at hl
        have hsl : (ordN row r0 i)[l]? = some s := by
          rw [List.getElem?_eq_getElem (by omega)]
          rw [List.getElem_take] at el
          rw [el]
        rw [← es, hc s (inS s (List.mem_of_getElem? hsl))] at ht
        obtain ⟨u, hu, rfl⟩ := List.mem_map.mp ht
        exact mem_dd.mpr (List.mem_map_of_mem (ordN_done (j := l) (by omega) hsl u hu))
      · refine ⟨j + 1, ?_, by rw [if_neg hm, List.length_append, e2]; rfl⟩
        have hj : (ordN row' (c r0) j)[j]? = some (c r) := by
          rw [e1]
          have es : ordN row r0 i = (ordN row r0 i).take i ++ (r :: (ordN row r0 i).drop (i + 1)) := by
            rw [← hr, List.getElem_cons_drop, List.take_append_drop]
          rw [es, List.map_append, List.map_cons, dd_app, grow_cons, if_neg (fun z => hm (mem_dd.mp z))]
          obtain ⟨q, e⟩ := grow_pre (((ordN row r0 i).drop (i + 1)).map c) (dd (((ordN row r0 i).take i).map c) ++ [c r])
          rw [e, List.getElem?_append_left (by rw [List.length_append, e2]; exact Nat.lt_succ_self _), e2, List.getElem?_append_right (Nat.le_refl _), Nat.sub_self]
          rfl
        rw [ordN_some hj, e1, ho]
theorem ordN_quot {row' : β → List β} {c : α → β} {S : List α} (h0 : r0 ∈ S) (hS : ∀ r ∈ S, ∀ t ∈ row r, t ∈ S) (hc : ∀ r ∈ S, row' (c r) = (row r).map c) {n m : Nat} (hn : (ordN row r0 n).length ≤ n) (hm : (dd ((ordN row r0 n).map c)).length ≤ m) :
    ordN row' (c r0) m = dd ((ordN row r0 n).map c) := by
  obtain ⟨j, e1, e2⟩ := ordN_map h0 hS hc n
  rw [List.take_of_length_le hn] at e2
  obtain ⟨d, rfl⟩ := Nat.exists_eq_add_of_le (show j ≤ m by omega)
  rw [ordN_stable (by rw [e1]; omega), e1]
end
end MA

/-! ## rooms that no text parts (plain) -/
namespace MA
section
variable {α β : Type} [DecidableEq α] [DecidableEq β]
/-- where a word leads -/
def run (row : α → List α) (r : α) (w : List Nat) : α := w.foldl (fun r t => (row r).getD t r) r
theorem run_cons (row : α → List α) (r : α) (t : Nat) (w : List Nat) : run row r (t :: w) = run row ((row r).getD t r) w := rfl
theorem run_app (row : α → List α) (r : α) (v w : List Nat) : run row r (v ++ w) = run row (run row r v) w := List.foldl_append ..
/-- the same texts from here as from there -/
def Eqv {γ : Type} (row : α → List α) (acc : α → Bool) (row' : γ → List γ) (acc' : γ → Bool) (r : α) (s : γ) : Prop := ∀ w, acc (run row r w) = acc' (run row' s w)
theorem getD_in {R : List α} {row : α → List α} (hR : ∀ r ∈ R, ∀ t ∈ row r, t ∈ R) {r : α} (h : r ∈ R) (t : Nat) : (row r).getD t r ∈ R := by
  rw [List.getD_eq_getElem?_getD]
  cases e : (row r)[t]? with
  | none => exact h
  | some x => exact hR r h x (List.mem_of_getElem? e)
theorem run_in {R : List α} {row : α → List α} (hR : ∀ r ∈ R, ∀ t ∈ row r, t ∈ R) : ∀ (w : List Nat) {r : α}, r ∈ R → run row r w ∈ R
  | [], _, h => h
  | t :: w, r, h => by rw [run_cons]; exact run_in hR w (getD_in hR h t)
/-- the number of a room's key, keys numbered as they come -/
def nk (f : α → β) (R : List α) (r : α) : Nat := (dd (R.map f)).idxOf (f r)
theorem nk_lt {f : α → β} {R : List α} {r : α} (h : r ∈ R) : nk f R r < (dd (R.map f)).length := List.idxOf_lt_length_of_mem (mem_dd.mpr (List.mem_map_of_mem h))
theorem nk_at {f : α → β} {R : List α} {r : α} (h : r ∈ R) : (dd (R.map f))[nk f R r]? = some (f r) := by
  rw [List.getElem?_eq_getElem (nk_lt h)]
  exact congrArg some (List.getElem_idxOf (nk_lt h))
theorem nk_eq {f : α → β} {R : List α} {r s : α} (hr : r ∈ R) (hs : s ∈ R) : nk f R r = nk f R s ↔ f r = f s := by
  constructor
  · intro e
    have a := nk_at (f := f) hr
    rw [e, nk_at hs] at a
    exact (Option.some.inj a).symm
  · intro e
    unfold nk
    rw [e]
theorem grow_map_inj {γ : Type} [DecidableEq γ] (c : β → γ) : ∀ (ts o : List β), (∀ x ∈ o ++ ts, ∀ y ∈ o ++ ts, c x = c y → x = y) → grow (o.map c) (ts.map c) = (grow o ts).map c
  | [], _, _ => rfl
  | t :: ts, o, h => by
    rw [List.map_cons, grow_cons, grow_cons]
    by_cases ht : t ∈ o
    · rw [if_pos ht, if_pos (List.mem_map_of_mem ht)]
      exact grow_map_inj c ts o fun x hx y hy => h x (by simp at hx ⊢; exact hx.imp id .inr) y (by simp at hy ⊢; exact hy.imp id .inr)
    · have h2 : ¬ c t ∈ o.map c := fun z => by
        obtain ⟨y, hy, e⟩ := List.mem_map.mp z
        exact ht ((h y (by simp [hy]) t (by simp) e) ▸ hy)
      rw [if_neg ht, if_neg h2]
      have := grow_map_inj c ts (o ++ [t]) fun x hx y hy => h x (by simpa using hx) y (by simpa using hy)
      rw [List.map_append] at this
      exact this
theorem dd_map_inj {γ : Type} [DecidableEq γ] (c : β → γ) (l : List β) (h : ∀ x ∈ l, ∀ y ∈ l, c x = c y → x = y) : dd (l.map c) = (dd l).map c := grow_map_inj c l [] h
theorem idx_range (D : List β) (h : D.Nodup) : D.map D.idxOf = List.range D.length := by
  refine List.ext_getElem (by simp) fun i h1 h2 => ?_
  rw [List.getElem_map, List.getElem_range]
  have hi : i < D.length := by simpa using h1
  have hl : D.idxOf D[i] < D.length := List.idxOf_lt_length_of_mem (List.getElem_mem hi)
  exact (List.getElem_inj h).mp (List.getElem_idxOf hl)
theorem dd_nk (f : α → β) (R : List α) : dd (R.map (nk f R)) = List.range (dd (R.map f)).length := by
  have e : R.map (nk f R) = (R.map f).map (dd (R.map f)).idxOf := by rw [List.map_map]; rfl
  rw [e, dd_map_inj _ _ fun x hx y hy e => ?_, idx_range _ (nodup_dd _)]
  have hx' := mem_dd.mpr hx
  have hy' := mem_dd.mpr hy
  have a := List.getElem_idxOf (List.idxOf_lt_length_of_mem hx')
  have b := List.getElem_idxOf (List.idxOf_lt_length_of_mem hy')
  rw [← a, ← b]
  simp only [e]
/-- so many keys as before: no class was split -/
theorem same_count {f : α → Nat} {f' : α → β} {R : List α} (hf : ∀ r ∈ R, ∀ s ∈ R, f' r = f' s → f r = f s) (hc : (dd (R.map f')).length ≤ (dd (R.map f)).length) {r s : α} (hr : r ∈ R) (hs : s ∈ R) (e : f r = f s) : f' r = f' s := by
  by_cases h : f' r = f' s
  · exact h
  exfalso
  let φ : β → Nat := fun d => ((R.find? fun x => decide (f' x = d)).map f).getD 0
  have hφ : ∀ x ∈ R, φ (f' x) = f x := fun x hx => by
    show ((R.find? fun y => decide (f' y = f' x)).map f).getD 0 = f x
    cases q : R.find? fun y => decide (f' y = f' x) with
    | none =>
      have := List.find?_eq_none.mp q x hx
      simp at this
    | some y =>
      have h1 := List.mem_of_find?_eq_some q
      have h2 := List.find?_some q
      exact hf y h1 x hx (of_decide_eq_true h2)
  have hr' : f' r ∈ dd (R.map f') := mem_dd.mpr (List.mem_map_of_mem hr)
  have hle : (dd (R.map f)).length ≤ (((dd (R.map f')).erase (f' r)).map φ).length := nodup_le (nodup_dd _) fun d hd => by
    obtain ⟨x, hx, rfl⟩ := List.mem_map.mp (mem_dd.mp hd)
    have hx' : f' x ∈ dd (R.map f') := mem_dd.mpr (List.mem_map_of_mem hx)
    by_cases hxr : f' x = f' r
    · have : f x = φ (f' s) := by rw [hφ s hs, ← e]; exact hf x hx r hr hxr
      rw [this]
      exact List.mem_map_of_mem ((List.mem_erase_of_ne (Ne.symm h)).mpr (mem_dd.mpr (List.mem_map_of_mem hs)))
    · rw [← hφ x hx]
      exact List.mem_map_of_mem ((List.mem_erase_of_ne hxr).mpr hx')
  rw [List.length_map, List.length_erase_of_mem hr'] at hle
  have := List.length_pos_of_mem hr'
  omega
/-! ### classes, finer and finer -/
def keyC (row : α → List α) (cl : α → Nat) (r : α) : Nat × List Nat := (cl r, (row r).map cl)
def gcls (row : α → List α) (R : List α) (cl0 : α → Nat) : Nat → α → Nat
  | 0 => cl0
  | j + 1 => nk (keyC row (gcls row R cl0 j)) R
variable {row : α → List α} {R : List α} {cl0 : α → Nat} {acc : α → Bool} {k : Nat}
theorem gcls_eq {j : Nat} {r s : α} (hr : r ∈ R) (hs : s ∈ R) : gcls row R cl0 (j + 1) r = gcls row R cl0 (j + 1) s ↔ keyC row (gcls row R cl0 j) r = keyC row (gcls row R cl0 j) s := nk_eq hr hs
theorem gcls_down {j : Nat} {r s : α} (hr : r ∈ R) (hs : s ∈ R) (e : gcls row R cl0 (j + 1) r = gcls row R cl0 (j + 1) s) : gcls row R cl0 j r = gcls row R cl0 j s := congrArg Prod.fst ((gcls_eq hr hs).mp e)
theorem gcls_zero {r s : α} (hr : r ∈ R) (hs : s ∈ R) : ∀ {j : Nat}, gcls row R cl0 j r = gcls row R cl0 j s → cl0 r = cl0 s
  | 0, e => e
  | _ + 1, e => gcls_zero hr hs (gcls_down hr hs e)
def gcnt (row : α → List α) (R : List α) (cl0 : α → Nat) (j : Nat) : Nat := (dd (R.map (gcls row R cl0 j))).length
theorem gcnt_succ (j : Nat) : gcnt row R cl0 (j + 1) = (dd (R.map (keyC row (gcls row R cl0 j)))).length := by
  show (dd (R.map (nk (keyC row (gcls row R cl0 j)) R))).length = _
  rw [dd_nk, List.length_range]
theorem gcnt_le (j : Nat) : gcnt row R cl0 j ≤ R.length := by
  have : gcnt row R cl0 j ≤ (R.map (gcls row R cl0 j)).length := nodup_le (nodup_dd _) fun x hx => mem_dd.mp hx
  simpa using this
theorem gcls_parts (h0 : ∀ r ∈ R, ∀ s ∈ R, cl0 r = cl0 s ↔ acc r = acc s) (hR : ∀ r ∈ R, ∀ t ∈ row r, t ∈ R) (hk : ∀ r ∈ R, (row r).length = k) : ∀ {j : Nat} {r s : α}, r ∈ R → s ∈ R → gcls row R cl0 j r ≠ gcls row R cl0 j s → ∃ w : List Nat, (∀ t ∈ w, t < k) ∧ acc (run row r w) ≠ acc (run row s w)
  | 0, r, s, hr, hs, h => ⟨[], by simp, fun e => h ((h0 r hr s hs).mpr e)⟩
  | j + 1, r, s, hr, hs, h => by
    have h' : keyC row (gcls row R cl0 j) r ≠ keyC row (gcls row R cl0 j) s := fun e => h ((gcls_eq hr hs).mpr e)
    by_cases h1 : gcls row R cl0 j r = gcls row R cl0 j s
    · have h2 : (row r).map (gcls row R cl0 j) ≠ (row s).map (gcls row R cl0 j) := fun e => h' (by unfold keyC; rw [h1, e])
      obtain ⟨t, ht, hne⟩ : ∃ t, t < k ∧ gcls row R cl0 j ((row r).getD t r) ≠ gcls row R cl0 j ((row s).getD t s) := by
        refine Classical.byContradiction fun hh => h2 ?_
        refine List.ext_getElem (by rw [List.length_map, List.length_map, hk r hr, hk s hs]) fun i i1 i2 => ?_
        rw [List.length_map] at i1 i2
        rw [List.getElem_map, List.getElem_map]
        refine Classical.byContradiction fun hne => hh ⟨i, by rw [hk r hr] at i1; exact i1, ?_⟩
        rw [List.getD_eq_getElem?_getD, List.getD_eq_getElem?_getD, List.getElem?_eq_getElem i1, List.getElem?_eq_getElem i2]
        exact hne
      obtain ⟨w, hw, e⟩ := gcls_parts h0 hR hk (getD_in hR hr t) (getD_in hR hs t) hne
      exact ⟨t :: w, fun x hx => (List.mem_cons.mp hx).elim (fun e => e ▸ ht) (hw x), e⟩
    · exact gcls_parts h0 hR hk hr hs h1
/-- the classes, when none was split any more, are those of the texts -/
theorem gcls_final (h0 : ∀ r ∈ R, ∀ s ∈ R, cl0 r = cl0 s ↔ acc r = acc s) (hR : ∀ r ∈ R, ∀ t ∈ row r, t ∈ R) (hk : ∀ r ∈ R, (row r).length = k) {j : Nat} (hc : gcnt row R cl0 (j + 1) ≤ gcnt row R cl0 j) {r s : α} (hr : r ∈ R) (hs : s ∈ R) :
    gcls row R cl0 (j + 1) r = gcls row R cl0 (j + 1) s ↔ Eqv row acc row acc r s := by
  constructor
  · intro e
    have up : ∀ {x y : α}, x ∈ R → y ∈ R → gcls row R cl0 j x = gcls row R cl0 j y → gcls row R cl0 (j + 1) x = gcls row R cl0 (j + 1) y := fun {x y} hx hy h => (gcls_eq hx hy).mpr (same_count (f' := keyC row (gcls row R cl0 j)) (fun a ha b hb e => congrArg Prod.fst e) (by rw [← gcnt_succ]; exact hc) hx hy h)
    have go : ∀ (w : List Nat) {x y : α}, x ∈ R → y ∈ R → gcls row R cl0 (j + 1) x = gcls row R cl0 (j + 1) y → acc (run row x w) = acc (run row y w) := by
      intro w
      induction w with
      | nil => intro x y hx hy h; exact (h0 x hx y hy).mp (gcls_zero hx hy h)
      | cons t w ih =>
        intro x y hx hy h
        rw [run_cons, run_cons]
        refine ih (getD_in hR hx t) (getD_in hR hy t) (up (getD_in hR hx t) (getD_in hR hy t) ?_)
        have hm := congrArg Prod.snd ((gcls_eq hx hy).mp h)
        have hm : (row x).map (gcls row R cl0 j) = (row y).map (gcls row R cl0 j) := hm
        have hg := congrArg (fun l => l[t]?) hm
        simp only [List.getElem?_map] at hg
        rw [List.getD_eq_getElem?_getD, List.getD_eq_getElem?_getD]
        cases e1 : (row x)[t]? with
        | none =>
          rw [e1] at hg
          cases e2 : (row y)[t]? with
          | none => exact gcls_down hx hy h
          | some v => rw [e2] at hg; cases hg
        | some u =>
          rw [e1] at hg
          cases e2 : (row y)[t]? with
          | none => rw [e2] at hg; cases hg
          | some v => rw [e2] at hg; exact Option.some.inj hg
    exact fun w => go w hr hs e
  · intro e
    refine Classical.byContradiction fun h => ?_
    obtain ⟨w, _, hw⟩ := gcls_parts h0 hR hk hr hs h
    exact hw (e w)
end
end MA

/-! ## least machines (plain) -/
namespace MA
theorem grow_new {α : Type} [DecidableEq α] : ∀ (l o : List α), (o ++ l).Nodup → grow o l = o ++ l
  | [], o, _ => by rw [grow_nil, List.append_nil]
  | x :: l, o, h => by
    have hx : ¬ x ∈ o := fun z => by
      rw [List.nodup_append] at h
      exact h.2.2 x z x (List.mem_cons_self ..) rfl
    rw [grow_cons, if_neg hx, grow_new l (o ++ [x]) (by rwa [List.append_assoc]), List.append_assoc]
    rfl
theorem dd_same {α : Type} [DecidableEq α] {l : List α} (h : l.Nodup) : dd l = l := grow_new l [] h
def iota (n : Nat) : List Int := (List.range n).map fun (i : Nat) => ((i : Nat) : Int)
theorem mem_iota {n : Nat} {x : Int} : x ∈ iota n ↔ 0 ≤ x ∧ x < (n : Int) := by
  unfold iota
  simp only [List.mem_map, List.mem_range]
  constructor
  · rintro ⟨i, hi, rfl⟩; omega
  · intro h; exact ⟨x.toNat, by omega, by omega⟩
theorem iota_len (n : Nat) : (iota n).length = n := by simp [iota]
theorem iota_at {n i : Nat} (h : i < n) : (iota n)[i]? = some (i : Int) := by simp [iota, h]
theorem iota_nodup (n : Nat) : (iota n).Nodup := by
  unfold iota
  exact List.pairwise_map.mpr (List.Pairwise.imp (fun h e => h (Int.ofNat.inj e)) List.nodup_range)
def rowI (mv : List (List Int)) (p : Int) : List Int := mv.getD p.toNat []
def accI (g : List Int) (p : Int) : Bool := decide (p ∈ g)
end MA
open MA
section
variable {k : Nat} {mv m1 m2 : List (List Int)} {g g1 g2 : List Int}
theorem Mach.rowI_at (M : Mach k mv g) {p : Int} (h : p ∈ iota mv.length) : ∃ r, mv[p.toNat]? = some r ∧ rowI mv p = r ∧ r.length = k ∧ ∀ x ∈ r, x ∈ iota mv.length := by
  have hp := mem_iota.mp h
  have hl : p.toNat < mv.length := by omega
  refine ⟨mv[p.toNat], List.getElem?_eq_getElem hl, ?_, (M.row _ (List.getElem_mem hl)).1, fun x hx => mem_iota.mpr ((M.row _ (List.getElem_mem hl)).2 x hx)⟩
  unfold rowI
  rw [List.getD_eq_getElem?_getD, List.getElem?_eq_getElem hl]
  rfl
theorem Mach.closed (M : Mach k mv g) : ∀ r ∈ iota mv.length, ∀ t ∈ rowI mv r, t ∈ iota mv.length := fun r hr t ht => by
  obtain ⟨q, _, e, _, h⟩ := M.rowI_at hr
  exact h t (e ▸ ht)
theorem Mach.rlen (M : Mach k mv g) : ∀ r ∈ iota mv.length, (rowI mv r).length = k := fun r hr => by
  obtain ⟨q, _, e, h, _⟩ := M.rowI_at hr
  rw [e, h]
theorem Mach.zero (M : Mach k mv g) : (0 : Int) ∈ iota mv.length := mem_iota.mpr ⟨Int.le_refl 0, by have := M.pos; omega⟩
/-- the rooms, as they are reached -/
def rooms (mv : List (List Int)) : List Int := ordN (rowI mv) 0 mv.length
theorem Mach.rooms_in (M : Mach k mv g) : ∀ x ∈ rooms mv, x ∈ iota mv.length := ordN_in M.zero M.closed _
theorem Mach.rooms_len (M : Mach k mv g) : (rooms mv).length ≤ mv.length := by
  have := ordN_len M.zero M.closed mv.length
  rwa [iota_len] at this
theorem Mach.rooms_closed (M : Mach k mv g) : ∀ r ∈ rooms mv, ∀ t ∈ rowI mv r, t ∈ rooms mv := ordN_closed M.rooms_len
theorem rooms_zero : (0 : Int) ∈ rooms mv := List.mem_of_getElem? (ordN_zero mv.length)
/-- same texts from p as from q -/
abbrev Alike (mv : List (List Int)) (g : List Int) (p q : Int) : Prop := Eqv (rowI mv) (accI g) (rowI mv) (accI g) p q
abbrev SameSet (m1 : List (List Int)) (g1 : List Int) (m2 : List (List Int)) (g2 : List Int) (p q : Int) : Prop := Eqv (rowI m1) (accI g1) (rowI m2) (accI g2) p q
/-- a least machine in order -/
structure Canon (k : Nat) (mv : List (List Int)) (g : List Int) : Prop where
  mach : Mach k mv g
  order : rooms mv = iota mv.length
  parts : ∀ p ∈ iota mv.length, ∀ q ∈ iota mv.length, Alike mv g p q → p = q
theorem reach_of (hk : ∀ r ∈ iota mv.length, (rowI mv r).length = k) (hc : ∀ r ∈ iota mv.length, ∀ t ∈ rowI mv r, t ∈ iota mv.length) (h0 : (0 : Int) ∈ iota mv.length) : ∀ (i : Nat), ∀ x ∈ ordN (rowI mv) 0 i, ∃ w : List Nat, (∀ t ∈ w, t < k) ∧ run (rowI mv) 0 w = x
  | 0, x, hx => ⟨[], by simp, (List.mem_singleton.mp (show x ∈ [(0 : Int)] from hx)).symm⟩
  | i + 1, x, hx => by
    cases h : (ordN (rowI mv) 0 i)[i]? with
    | none => rw [ordN_none h] at hx; exact reach_of hk hc h0 i x hx
    | some r =>
      rw [ordN_some h] at hx
      rcases mem_grow.mp hx with hx | hx
      · exact reach_of hk hc h0 i x hx
      · have hr := List.mem_of_getElem? h
        obtain ⟨w, hw, e⟩ := reach_of hk hc h0 i r hr
        obtain ⟨t, ht, et⟩ := List.mem_iff_getElem.mp hx
        refine ⟨w ++ [t], fun y hy => ?_, ?_⟩
        · rcases List.mem_append.mp hy with hy | hy
          · exact hw y hy
          · rw [List.mem_singleton.mp hy, ← hk r (ordN_in h0 hc i r hr)]
            exact ht
        · rw [run_app, e, run_cons, List.getD_eq_getElem?_getD, List.getElem?_eq_getElem ht]
          exact et
theorem Mach.reach (M : Mach k mv g) {x : Int} (h : x ∈ rooms mv) : ∃ w : List Nat, (∀ t ∈ w, t < k) ∧ run (rowI mv) 0 w = x := reach_of M.rlen M.closed M.zero _ x h
theorem asc_ext : ∀ {a b : List Int}, a.Pairwise (· < ·) → b.Pairwise (· < ·) → (∀ x, x ∈ a ↔ x ∈ b) → a = b
  | [], [], _, _, _ => rfl
  | [], y :: _, _, _, h => by have := (h y).mpr (List.mem_cons_self ..); simp at this
  | x :: _, [], _, _, h => by have := (h x).mp (List.mem_cons_self ..); simp at this
  | x :: a, y :: b, ha, hb, h => by
    rw [List.pairwise_cons] at ha hb
    have e : x = y := by
      rcases List.mem_cons.mp ((h x).mp (List.mem_cons_self ..)) with e | h1
      · exact e
      · rcases List.mem_cons.mp ((h y).mpr (List.mem_cons_self ..)) with e | h2
        · exact e.symm
        · have := hb.1 x h1; have := ha.1 y h2; omega
    subst e
    rw [asc_ext ha.2 hb.2 fun z => ?_]
    constructor
    · intro hz
      rcases List.mem_cons.mp ((h z).mp (List.mem_cons_of_mem _ hz)) with e | q
      · subst e; exact absurd (ha.1 z hz) (Int.lt_irrefl z)
      · exact q
    · intro hz
      rcases List.mem_cons.mp ((h z).mpr (List.mem_cons_of_mem _ hz)) with e | q
      · subst e; exact absurd (hb.1 z hz) (Int.lt_irrefl z)
      · exact q
/-- where the same texts lead -/
theorem same_step (M1 : Mach k m1 g1) (M2 : Mach k m2 g2) {p q : Int} (hp : p ∈ iota m1.length) (hq : q ∈ iota m2.length) (e : SameSet m1 g1 m2 g2 p q) (t : Nat) : SameSet m1 g1 m2 g2 ((rowI m1 p).getD t p) ((rowI m2 q).getD t q) := fun w => e (t :: w)
theorem canon_one (C1 : Canon k m1 g1) (C2 : Canon k m2 g2) (e : SameSet m1 g1 m2 g2 0 0) : m1 = m2 ∧ g1 = g2 := by
  have M1 := C1.mach
  have M2 := C2.mach
  have hw : ∀ p ∈ iota m1.length, ∃ q, q ∈ iota m2.length ∧ SameSet m1 g1 m2 g2 p q := fun p hp => by
    rw [← C1.order] at hp
    obtain ⟨w, _, rfl⟩ := M1.reach hp
    refine ⟨run (rowI m2) 0 w, run_in M2.closed w M2.zero, fun v => ?_⟩
    rw [← run_app, ← run_app]
    exact e (w ++ v)
  have hf : ∀ p : Int, ∃ q : Int, p ∈ iota m1.length → q ∈ iota m2.length ∧ SameSet m1 g1 m2 g2 p q := fun p => by
    by_cases h : p ∈ iota m1.length
    · obtain ⟨q, hq⟩ := hw p h
      exact ⟨q, fun _ => hq⟩
    · exact ⟨0, fun z => absurd z h⟩
  obtain ⟨f, hf⟩ : ∃ f : Int → Int, ∀ p, p ∈ iota m1.length → f p ∈ iota m2.length ∧ SameSet m1 g1 m2 g2 p (f p) := ⟨fun p => Classical.choose (hf p), fun p => Classical.choose_spec (hf p)⟩
  have uniq : ∀ {p q r : Int}, q ∈ iota m2.length → r ∈ iota m2.length → SameSet m1 g1 m2 g2 p q → SameSet m1 g1 m2 g2 p r → q = r := fun {p q r} hq hr a b => C2.parts q hq r hr fun w => (a w).symm.trans (b w)
  have f0 : f 0 = 0 := uniq (hf 0 M1.zero).1 M2.zero (hf 0 M1.zero).2 e
  have inj : ∀ x ∈ iota m1.length, ∀ y ∈ iota m1.length, f x = f y → x = y := fun x hx y hy h => C1.parts x hx y hy fun w => ((hf x hx).2 w).trans (by rw [h]; exact ((hf y hy).2 w).symm)
  have hom : ∀ r ∈ iota m1.length, rowI m2 (f r) = (rowI m1 r).map f := fun r hr => by
    refine List.ext_getElem (by rw [List.length_map, M2.rlen _ (hf r hr).1, M1.rlen r hr]) fun t h1 h2 => ?_
    rw [List.getElem_map]
    rw [List.length_map] at h2
    have st := same_step M1 M2 hr (hf r hr).1 (hf r hr).2 t
    rw [List.getD_eq_getElem?_getD, List.getD_eq_getElem?_getD, List.getElem?_eq_getElem h1, List.getElem?_eq_getElem h2] at st
    have ha := M1.closed r hr _ (List.getElem_mem h2)
    exact uniq (M2.closed _ (hf r hr).1 _ (List.getElem_mem h1)) (hf _ ha).1 st (hf _ ha).2
  have hd : dd ((iota m1.length).map f) = (iota m1.length).map f := by
    rw [dd_map_inj f _ inj, dd_same (iota_nodup _)]
  have key := ordN_quot (row := rowI m1) (row' := rowI m2) (c := f) (r0 := 0) (S := iota m1.length) (n := m1.length) (m := m2.length) M1.zero M1.closed hom M1.rooms_len (by
    rw [show ordN (rowI m1) 0 m1.length = iota m1.length from C1.order]
    have := nodup_le (l := dd ((iota m1.length).map f)) (m := iota m2.length) (nodup_dd _) fun x hx => by
      obtain ⟨y, hy, rfl⟩ := List.mem_map.mp (mem_dd.mp hx)
      exact (hf y hy).1
    rwa [iota_len] at this)
  rw [f0, show ordN (rowI m1) 0 m1.length = iota m1.length from C1.order, show ordN (rowI m2) 0 m2.length = iota m2.length from C2.order, hd] at key
  have hn : m2.length = m1.length := by
    have := congrArg List.length key
    rwa [iota_len, List.length_map, iota_len] at this
  have fid : ∀ x ∈ iota m1.length, f x = x := fun x hx => by
    have hx' := mem_iota.mp hx
    have e1 := congrArg (fun l => l[x.toNat]?) key
    simp only [List.getElem?_map] at e1
    rw [iota_at (by omega), iota_at (by omega)] at e1
    have e2 := Option.some.inj e1
    rw [show ((x.toNat : Nat) : Int) = x by omega] at e2
    exact e2.symm
  refine ⟨List.ext_getElem hn.symm fun i h1 h2 => ?_, asc_ext M1.asc M2.asc fun x => ?_⟩
  · have hi : ((i : Nat) : Int) ∈ iota m1.length := mem_iota.mpr ⟨by omega, by omega⟩
    have e1 := hom _ hi
    rw [fid _ hi] at e1
    unfold rowI at e1
    rw [Int.toNat_natCast, List.getD_eq_getElem?_getD, List.getD_eq_getElem?_getD, List.getElem?_eq_getElem h1, List.getElem?_eq_getElem h2] at e1
    have e2 : m2[i] = m1[i].map f := e1
    have e3 : m1[i].map f = m1[i] := by
      have h4 : ∀ x ∈ m1[i], f x = x := fun x hx => fid x (M1.closed _ hi x (by
        unfold rowI
        rw [Int.toNat_natCast, List.getD_eq_getElem?_getD, List.getElem?_eq_getElem h1]
        exact hx))
      refine List.ext_getElem (by simp) fun j j1 j2 => ?_
      rw [List.getElem_map]
      exact h4 _ (List.getElem_mem j2)
    rw [e2, e3]
  · have h1 : ∀ x ∈ iota m1.length, (x ∈ g1 ↔ x ∈ g2) := fun x hx => by
      have := (hf x hx).2 []
      rw [fid x hx] at this
      have h2 : decide (x ∈ g1) = decide (x ∈ g2) := this
      exact decide_eq_decide.mp h2
    constructor
    · intro h
      exact (h1 x (mem_iota.mpr (M1.inn x h))).mp h
    · intro h
      exact (h1 x (mem_iota.mpr (by have := M2.inn x h; omega))).mpr h
end

/-! ## the least machine of a machine (plain) -/
open MA
section
variable {k : Nat} {mv : List (List Int)} {g : List Int} {cl : Int → Nat}
/-- the first room of each class -/
def headsF (cl : Int → Nat) (h l : List Int) : List Int := l.foldl (fun h r => if cl r ∈ h.map cl then h else h ++ [r]) h
def heads (cl : Int → Nat) (l : List Int) : List Int := headsF cl [] l
theorem headsF_snoc (cl : Int → Nat) (h l : List Int) (r : Int) : headsF cl h (l ++ [r]) = if cl r ∈ (headsF cl h l).map cl then headsF cl h l else headsF cl h l ++ [r] := by
  unfold headsF
  rw [List.foldl_append]
  rfl
theorem headsF_map (cl : Int → Nat) : ∀ l h : List Int, (headsF cl h l).map cl = grow (h.map cl) (l.map cl)
  | [], _ => rfl
  | r :: l, h => by
    show (headsF cl (if cl r ∈ h.map cl then h else h ++ [r]) l).map cl = _
    rw [List.map_cons, grow_cons]
    by_cases hr : cl r ∈ h.map cl
    · rw [if_pos hr, if_pos hr]; exact headsF_map cl l h
    · rw [if_neg hr, if_neg hr, headsF_map cl l (h ++ [r]), List.map_append]
      rfl
theorem heads_map (cl : Int → Nat) (l : List Int) : (heads cl l).map cl = dd (l.map cl) := headsF_map cl l []
theorem headsF_in (cl : Int → Nat) : ∀ l h : List Int, ∀ r ∈ headsF cl h l, r ∈ h ∨ r ∈ l
  | [], _, r, hr => .inl hr
  | x :: l, h, r, hr => by
    have hr : r ∈ headsF cl (if cl x ∈ h.map cl then h else h ++ [x]) l := hr
    rcases headsF_in cl l _ r hr with q | q
    · by_cases hx : cl x ∈ h.map cl
      · rw [if_pos hx] at q; exact .inl q
      · rw [if_neg hx] at q
        rcases List.mem_append.mp q with q | q
        · exact .inl q
        · rw [List.mem_singleton.mp q]; exact .inr (List.mem_cons_self ..)
    · exact .inr (List.mem_cons_of_mem _ q)
theorem heads_in (cl : Int → Nat) (l : List Int) : ∀ r ∈ heads cl l, r ∈ l := fun r hr => (headsF_in cl l [] r hr).elim (fun q => by cases q) id
/-- the number of a room's class -/
def ixC (mv : List (List Int)) (cl : Int → Nat) (r : Int) : Int := ((nk cl (rooms mv) r : Nat) : Int)
def leastM (mv : List (List Int)) (cl : Int → Nat) : List (List Int) := (heads cl (rooms mv)).map fun r => (rowI mv r).map (ixC mv cl)
def leastG (mv : List (List Int)) (g : List Int) (cl : Int → Nat) : List Int := ((List.range (heads cl (rooms mv)).length).filter fun i => accI g ((heads cl (rooms mv)).getD i 0)).map fun (i : Nat) => ((i : Nat) : Int)
theorem leastM_len : (leastM mv cl).length = (dd ((rooms mv).map cl)).length := by
  unfold leastM
  rw [List.length_map, ← heads_map, List.length_map]
theorem least_ok (M : Mach k mv g) (hcl : ∀ r ∈ rooms mv, ∀ s ∈ rooms mv, cl r = cl s ↔ Alike mv g r s) : Canon k (leastM mv cl) (leastG mv g cl) ∧ SameSet mv g (leastM mv cl) (leastG mv g cl) 0 0 ∧ (leastM mv cl).length ≤ mv.length := by
  have hl : (heads cl (rooms mv)).length = (leastM mv cl).length := by unfold leastM; rw [List.length_map]
  have ixl : ∀ r ∈ rooms mv, nk cl (rooms mv) r < (leastM mv cl).length := fun r hr => by rw [leastM_len]; exact nk_lt hr
  have ixin : ∀ r ∈ rooms mv, ixC mv cl r ∈ iota (leastM mv cl).length := fun r hr => mem_iota.mpr ⟨by unfold ixC; omega, by have := ixl r hr; unfold ixC; omega⟩
  have hd : ∀ r ∈ rooms mv, ∃ h, (heads cl (rooms mv))[nk cl (rooms mv) r]? = some h ∧ cl h = cl r ∧ h ∈ rooms mv := fun r hr => by
    have := nk_at (f := cl) hr
    rw [← heads_map, List.getElem?_map] at this
    cases e : (heads cl (rooms mv))[nk cl (rooms mv) r]? with
    | none => rw [e] at this; cases this
    | some h =>
      rw [e] at this
      exact ⟨h, rfl, Option.some.inj this, heads_in cl _ h (List.mem_of_getElem? e)⟩
  have ixeq : ∀ {r s : Int}, r ∈ rooms mv → s ∈ rooms mv → (ixC mv cl r = ixC mv cl s ↔ Alike mv g r s) := fun {r s} hr hs => by
    rw [← hcl r hr s hs, ← nk_eq (f := cl) hr hs]
    unfold ixC
    omega
  have inI := M.rooms_in
  have step : ∀ {r s : Int}, r ∈ rooms mv → s ∈ rooms mv → Alike mv g r s → (rowI mv r).map (ixC mv cl) = (rowI mv s).map (ixC mv cl) := fun {r s} hr hs h => by
    refine List.ext_getElem (by rw [List.length_map, List.length_map, M.rlen r (inI r hr), M.rlen s (inI s hs)]) fun t h1 h2 => ?_
    rw [List.length_map] at h1 h2
    rw [List.getElem_map, List.getElem_map]
    refine (ixeq (M.rooms_closed r hr _ (List.getElem_mem h1)) (M.rooms_closed s hs _ (List.getElem_mem h2))).mpr fun w => ?_
    have := h (t :: w)
    rw [run_cons, run_cons, List.getD_eq_getElem?_getD, List.getD_eq_getElem?_getD, List.getElem?_eq_getElem h1, List.getElem?_eq_getElem h2] at this
    exact this
  have hom : ∀ r ∈ rooms mv, rowI (leastM mv cl) (ixC mv cl r) = (rowI mv r).map (ixC mv cl) := fun r hr => by
    obtain ⟨h, e, ec, hh⟩ := hd r hr
    have e1 : rowI (leastM mv cl) (ixC mv cl r) = (rowI mv h).map (ixC mv cl) := by
      unfold rowI ixC leastM
      rw [Int.toNat_natCast, List.getD_eq_getElem?_getD, List.getElem?_map, e]
      rfl
    rw [e1]
    exact step hh hr ((hcl h hh r hr).mp ec)
  have acc1 : ∀ r ∈ rooms mv, accI (leastG mv g cl) (ixC mv cl r) = accI g r := fun r hr => by
    obtain ⟨h, e, ec, hh⟩ := hd r hr
    have e0 : accI g h = accI g r := ((hcl h hh r hr).mp ec) []
    rw [← e0]
    unfold accI leastG ixC
    have hi : nk cl (rooms mv) r < (heads cl (rooms mv)).length := by rw [hl]; exact ixl r hr
    rw [decide_eq_decide]
    simp only [List.mem_map, List.mem_filter, List.mem_range]
    constructor
    · rintro ⟨i, ⟨_, h2⟩, h3⟩
      have : i = nk cl (rooms mv) r := by omega
      subst this
      rw [List.getD_eq_getElem?_getD, e] at h2
      exact of_decide_eq_true h2
    · intro h2
      refine ⟨_, ⟨hi, ?_⟩, rfl⟩
      rw [List.getD_eq_getElem?_getD, e]
      exact decide_eq_true h2
  have same : ∀ r ∈ rooms mv, SameSet mv g (leastM mv cl) (leastG mv g cl) r (ixC mv cl r) := fun r hr w => by
    induction w generalizing r with
    | nil => exact (acc1 r hr).symm
    | cons t w ih =>
      rw [run_cons, run_cons, hom r hr]
      have e : ((rowI mv r).map (ixC mv cl)).getD t (ixC mv cl r) = ixC mv cl ((rowI mv r).getD t r) := by
        rw [List.getD_eq_getElem?_getD, List.getD_eq_getElem?_getD, List.getElem?_map]
        cases (rowI mv r)[t]? <;> rfl
      rw [e]
      exact ih _ (getD_in M.rooms_closed hr t)
  have c0 : ixC mv cl 0 = 0 := by
    have h0 : (rooms mv)[0]? = some 0 := ordN_zero _
    have e1 : ∃ q, rooms mv = 0 :: q := by
      cases h : rooms mv with
      | nil => rw [h] at h0; cases h0
      | cons x q => rw [h] at h0; cases h0; exact ⟨q, rfl⟩
    obtain ⟨q, e1⟩ := e1
    unfold ixC nk
    rw [e1, List.map_cons]
    have e2 : ∃ q2, dd (cl 0 :: q.map cl) = cl 0 :: q2 := by
      obtain ⟨q2, e⟩ := grow_pre (q.map cl) [cl 0]
      exact ⟨q2, e⟩
    obtain ⟨q2, e2⟩ := e2
    rw [e2, List.idxOf_cons_self]
    rfl
  have onto : ∀ p ∈ iota (leastM mv cl).length, ∃ r, r ∈ rooms mv ∧ ixC mv cl r = p := fun p hp => by
    have hp' := mem_iota.mp hp
    have hi : p.toNat < (heads cl (rooms mv)).length := by rw [hl]; omega
    refine ⟨(heads cl (rooms mv))[p.toNat], heads_in cl _ _ (List.getElem_mem hi), ?_⟩
    have hD : p.toNat < (dd ((rooms mv).map cl)).length := by rw [← leastM_len]; omega
    have e1 : cl (heads cl (rooms mv))[p.toNat] = (dd ((rooms mv).map cl))[p.toNat] := by
      have := heads_map cl (rooms mv)
      rw [← List.getElem_map cl (h := by rw [List.length_map]; exact hi)]
      simp only [this]
    unfold ixC nk
    rw [e1]
    have e2 : (dd ((rooms mv).map cl)).idxOf (dd ((rooms mv).map cl))[p.toNat] = p.toNat := by
      have hlt : (dd ((rooms mv).map cl)).idxOf (dd ((rooms mv).map cl))[p.toNat] < (dd ((rooms mv).map cl)).length := List.idxOf_lt_length_of_mem (List.getElem_mem hD)
      exact (List.getElem_inj (nodup_dd _)).mp (List.getElem_idxOf hlt)
    rw [e2]
    omega
  have len1 : (leastM mv cl).length ≤ mv.length := by
    rw [← hl]
    have h1 := nodup_le (l := (heads cl (rooms mv)).map cl) (m := (rooms mv).map cl) (by rw [heads_map]; exact nodup_dd _) fun x hx => by rw [heads_map] at hx; exact mem_dd.mp hx
    rw [List.length_map, List.length_map] at h1
    have := M.rooms_len
    omega
  have mach : Mach k (leastM mv cl) (leastG mv g cl) := by
    refine ⟨?_, by have := M.most; omega, fun r hr => ?_, ?_, fun x hx => ?_⟩
    · have := ixl 0 rooms_zero
      omega
    · obtain ⟨h, hh, rfl⟩ := List.mem_map.mp (show r ∈ (heads cl (rooms mv)).map fun r => (rowI mv r).map (ixC mv cl) from hr)
      have hh' := heads_in cl _ h hh
      refine ⟨by rw [List.length_map]; exact M.rlen h (inI h hh'), fun x hx => ?_⟩
      obtain ⟨t, ht, rfl⟩ := List.mem_map.mp hx
      exact mem_iota.mp (ixin t (M.rooms_closed h hh' t ht))
    · unfold leastG
      refine List.pairwise_map.mpr ?_
      exact List.Pairwise.imp (fun h => Int.ofNat_lt.mpr h) (List.Pairwise.filter _ List.pairwise_lt_range)
    · unfold leastG at hx
      obtain ⟨i, hi, rfl⟩ := List.mem_map.mp hx
      have := List.mem_range.mp (List.mem_filter.mp hi).1
      rw [hl] at this
      omega
  refine ⟨⟨mach, ?_, fun p hp q hq e => ?_⟩, by have := same 0 rooms_zero; rw [c0] at this; exact this, len1⟩
  · have key := ordN_quot (row := rowI mv) (row' := rowI (leastM mv cl)) (c := ixC mv cl) (r0 := 0) (S := rooms mv) (n := mv.length) (m := (leastM mv cl).length) rooms_zero M.rooms_closed hom M.rooms_len
    have e1 : dd ((rooms mv).map (ixC mv cl)) = iota (leastM mv cl).length := by
      have e2 : (rooms mv).map (ixC mv cl) = ((rooms mv).map (nk cl (rooms mv))).map fun (i : Nat) => ((i : Nat) : Int) := by rw [List.map_map]; rfl
      rw [e2, dd_map_inj (fun (i : Nat) => ((i : Nat) : Int)) _ (fun x _ y _ h => Int.ofNat.inj h), dd_nk, leastM_len]
      rfl
    have e3 : ordN (rowI mv) 0 mv.length = rooms mv := rfl
    rw [e3, e1, iota_len, c0] at key
    exact key (Nat.le_refl _)
  · obtain ⟨r, hr, rfl⟩ := onto p hp
    obtain ⟨s, hs, rfl⟩ := onto q hq
    exact (ixeq hr hs).mpr fun w => (same r hr w).trans ((e w).trans (same s hs w).symm)
end

/-! ## machines of up to 3600 rooms (plain) -/
open MA
structure MachW (k : Nat) (m : List (List Int)) (g : List Int) : Prop where
  pos : 1 ≤ m.length
  most : m.length ≤ 3600
  row : ∀ r ∈ m, r.length = k ∧ ∀ x ∈ r, 0 ≤ x ∧ x < (m.length : Int)
  asc : g.Pairwise (· < ·)
  inn : ∀ x ∈ g, 0 ≤ x ∧ x < (m.length : Int)
theorem Mach.w {k : Nat} {m : List (List Int)} {g : List Int} (M : Mach k m g) : MachW k m g := ⟨M.pos, by have := M.most; omega, M.row, M.asc, M.inn⟩
theorem MachW.m {k : Nat} {m : List (List Int)} {g : List Int} (M : MachW k m g) (h : m.length ≤ 60) : Mach k m g := ⟨M.pos, h, M.row, M.asc, M.inn⟩
section
variable {k : Nat} {mv : List (List Int)} {g : List Int}
theorem MachW.rowI_at (M : MachW k mv g) {p : Int} (h : p ∈ iota mv.length) : ∃ r, mv[p.toNat]? = some r ∧ rowI mv p = r ∧ r.length = k ∧ ∀ x ∈ r, x ∈ iota mv.length := by
  have hp := mem_iota.mp h
  have hl : p.toNat < mv.length := by omega
  refine ⟨mv[p.toNat], List.getElem?_eq_getElem hl, ?_, (M.row _ (List.getElem_mem hl)).1, fun x hx => mem_iota.mpr ((M.row _ (List.getElem_mem hl)).2 x hx)⟩
  unfold rowI
  rw [List.getD_eq_getElem?_getD, List.getElem?_eq_getElem hl]
  rfl
theorem MachW.closed (M : MachW k mv g) : ∀ r ∈ iota mv.length, ∀ t ∈ rowI mv r, t ∈ iota mv.length := fun r hr t ht => by
  obtain ⟨q, _, e, _, h⟩ := M.rowI_at hr
  exact h t (e ▸ ht)
theorem MachW.rlen (M : MachW k mv g) : ∀ r ∈ iota mv.length, (rowI mv r).length = k := fun r hr => by
  obtain ⟨q, _, e, h, _⟩ := M.rowI_at hr
  rw [e, h]
theorem MachW.zero (M : MachW k mv g) : (0 : Int) ∈ iota mv.length := mem_iota.mpr ⟨Int.le_refl 0, by have := M.pos; omega⟩
theorem MachW.rooms_in (M : MachW k mv g) : ∀ x ∈ rooms mv, x ∈ iota mv.length := ordN_in M.zero M.closed _
theorem MachW.rooms_len (M : MachW k mv g) : (rooms mv).length ≤ mv.length := by
  have := ordN_len M.zero M.closed mv.length
  rwa [iota_len] at this
theorem MachW.rooms_closed (M : MachW k mv g) : ∀ r ∈ rooms mv, ∀ t ∈ rowI mv r, t ∈ rooms mv := ordN_closed M.rooms_len
theorem MachW.reach (M : MachW k mv g) {x : Int} (h : x ∈ rooms mv) : ∃ w : List Nat, (∀ t ∈ w, t < k) ∧ run (rowI mv) 0 w = x := reach_of M.rlen M.closed M.zero _ x h
end
structure CanonW (k : Nat) (mv : List (List Int)) (g : List Int) : Prop where
  mach : MachW k mv g
  order : rooms mv = iota mv.length
  parts : ∀ p ∈ iota mv.length, ∀ q ∈ iota mv.length, Alike mv g p q → p = q
theorem CanonW.c {k : Nat} {mv : List (List Int)} {g : List Int} (C : CanonW k mv g) (h : mv.length ≤ 60) : Canon k mv g := ⟨C.mach.m h, C.order, C.parts⟩
section
variable {k : Nat} {mv : List (List Int)} {g : List Int} {cl : Int → Nat}
theorem least_okW (M : MachW k mv g) (hcl : ∀ r ∈ rooms mv, ∀ s ∈ rooms mv, cl r = cl s ↔ Alike mv g r s) : CanonW k (leastM mv cl) (leastG mv g cl) ∧ SameSet mv g (leastM mv cl) (leastG mv g cl) 0 0 ∧ (leastM mv cl).length ≤ mv.length := by
  have hl : (heads cl (rooms mv)).length = (leastM mv cl).length := by unfold leastM; rw [List.length_map]
  have ixl : ∀ r ∈ rooms mv, nk cl (rooms mv) r < (leastM mv cl).length := fun r hr => by rw [leastM_len]; exact nk_lt hr
  have ixin : ∀ r ∈ rooms mv, ixC mv cl r ∈ iota (leastM mv cl).length := fun r hr => mem_iota.mpr ⟨by unfold ixC; omega, by have := ixl r hr; unfold ixC; omega⟩
  have hd : ∀ r ∈ rooms mv, ∃ h, (heads cl (rooms mv))[nk cl (rooms mv) r]? = some h ∧ cl h = cl r ∧ h ∈ rooms mv := fun r hr => by
    have := nk_at (f := cl) hr
    rw [← heads_map, List.getElem?_map] at this
    cases e : (heads cl (rooms mv))[nk cl (rooms mv) r]? with
    | none => rw [e] at this; cases this
    | some h =>
      rw [e] at this
      exact ⟨h, rfl, Option.some.inj this, heads_in cl _ h (List.mem_of_getElem? e)⟩
  have ixeq : ∀ {r s : Int}, r ∈ rooms mv → s ∈ rooms mv → (ixC mv cl r = ixC mv cl s ↔ Alike mv g r s) := fun {r s} hr hs => by
    rw [← hcl r hr s hs, ← nk_eq (f := cl) hr hs]
    unfold ixC
    omega
  have inI := M.rooms_in
  have step : ∀ {r s : Int}, r ∈ rooms mv → s ∈ rooms mv → Alike mv g r s → (rowI mv r).map (ixC mv cl) = (rowI mv s).map (ixC mv cl) := fun {r s} hr hs h => by
    refine List.ext_getElem (by rw [List.length_map, List.length_map, M.rlen r (inI r hr), M.rlen s (inI s hs)]) fun t h1 h2 => ?_
    rw [List.length_map] at h1 h2
    rw [List.getElem_map, List.getElem_map]
    refine (ixeq (M.rooms_closed r hr _ (List.getElem_mem h1)) (M.rooms_closed s hs _ (List.getElem_mem h2))).mpr fun w => ?_
    have := h (t :: w)
    rw [run_cons, run_cons, List.getD_eq_getElem?_getD, List.getD_eq_getElem?_getD, List.getElem?_eq_getElem h1, List.getElem?_eq_getElem h2] at this
    exact this
  have hom : ∀ r ∈ rooms mv, rowI (leastM mv cl) (ixC mv cl r) = (rowI mv r).map (ixC mv cl) := fun r hr => by
    obtain ⟨h, e, ec, hh⟩ := hd r hr
    have e1 : rowI (leastM mv cl) (ixC mv cl r) = (rowI mv h).map (ixC mv cl) := by
      unfold rowI ixC leastM
      rw [Int.toNat_natCast, List.getD_eq_getElem?_getD, List.getElem?_map, e]
      rfl
    rw [e1]
    exact step hh hr ((hcl h hh r hr).mp ec)
  have acc1 : ∀ r ∈ rooms mv, accI (leastG mv g cl) (ixC mv cl r) = accI g r := fun r hr => by
    obtain ⟨h, e, ec, hh⟩ := hd r hr
    have e0 : accI g h = accI g r := ((hcl h hh r hr).mp ec) []
    rw [← e0]
    unfold accI leastG ixC
    have hi : nk cl (rooms mv) r < (heads cl (rooms mv)).length := by rw [hl]; exact ixl r hr
    rw [decide_eq_decide]
    simp only [List.mem_map, List.mem_filter, List.mem_range]
    constructor
    · rintro ⟨i, ⟨_, h2⟩, h3⟩
      have : i = nk cl (rooms mv) r := by omega
      subst this
      rw [List.getD_eq_getElem?_getD, e] at h2
      exact of_decide_eq_true h2
    · intro h2
      refine ⟨_, ⟨hi, ?_⟩, rfl⟩
      rw [List.getD_eq_getElem?_getD, e]
      exact decide_eq_true h2
  have same : ∀ r ∈ rooms mv, SameSet mv g (leastM mv cl) (leastG mv g cl) r (ixC mv cl r) := fun r hr w => by
    induction w generalizing r with
    | nil => exact (acc1 r hr).symm
    | cons t w ih =>
      rw [run_cons, run_cons, hom r hr]
      have e : ((rowI mv r).map (ixC mv cl)).getD t (ixC mv cl r) = ixC mv cl ((rowI mv r).getD t r) := by
        rw [List.getD_eq_getElem?_getD, List.getD_eq_getElem?_getD, List.getElem?_map]
        cases (rowI mv r)[t]? <;> rfl
      rw [e]
      exact ih _ (getD_in M.rooms_closed hr t)
  have c0 : ixC mv cl 0 = 0 := by
    have h0 : (rooms mv)[0]? = some 0 := ordN_zero _
    have e1 : ∃ q, rooms mv = 0 :: q := by
      cases h : rooms mv with
      | nil => rw [h] at h0; cases h0
      | cons x q => rw [h] at h0; cases h0; exact ⟨q, rfl⟩
    obtain ⟨q, e1⟩ := e1
    unfold ixC nk
    rw [e1, List.map_cons]
    have e2 : ∃ q2, dd (cl 0 :: q.map cl) = cl 0 :: q2 := by
      obtain ⟨q2, e⟩ := grow_pre (q.map cl) [cl 0]
      exact ⟨q2, e⟩
    obtain ⟨q2, e2⟩ := e2
    rw [e2, List.idxOf_cons_self]
    rfl
  have onto : ∀ p ∈ iota (leastM mv cl).length, ∃ r, r ∈ rooms mv ∧ ixC mv cl r = p := fun p hp => by
    have hp' := mem_iota.mp hp
    have hi : p.toNat < (heads cl (rooms mv)).length := by rw [hl]; omega
    refine ⟨(heads cl (rooms mv))[p.toNat], heads_in cl _ _ (List.getElem_mem hi), ?_⟩
    have hD : p.toNat < (dd ((rooms mv).map cl)).length := by rw [← leastM_len]; omega
    have e1 : cl (heads cl (rooms mv))[p.toNat] = (dd ((rooms mv).map cl))[p.toNat] := by
      have := heads_map cl (rooms mv)
      rw [← List.getElem_map cl (h := by rw [List.length_map]; exact hi)]
      simp only [this]
    unfold ixC nk
    rw [e1]
    have e2 : (dd ((rooms mv).map cl)).idxOf (dd ((rooms mv).map cl))[p.toNat] = p.toNat := by
      have hlt : (dd ((rooms mv).map cl)).idxOf (dd ((rooms mv).map cl))[p.toNat] < (dd ((rooms mv).map cl)).length := List.idxOf_lt_length_of_mem (List.getElem_mem hD)
      exact (List.getElem_inj (nodup_dd _)).mp (List.getElem_idxOf hlt)
    rw [e2]
    omega
  have len1 : (leastM mv cl).length ≤ mv.length := by
    rw [← hl]
    have h1 := nodup_le (l := (heads cl (rooms mv)).map cl) (m := (rooms mv).map cl) (by rw [heads_map]; exact nodup_dd _) fun x hx => by rw [heads_map] at hx; exact mem_dd.mp hx
    rw [List.length_map, List.length_map] at h1
    have := M.rooms_len
    omega
  have mach : MachW k (leastM mv cl) (leastG mv g cl) := by
    refine ⟨?_, by have := M.most; omega, fun r hr => ?_, ?_, fun x hx => ?_⟩
    · have := ixl 0 rooms_zero
      omega
    · obtain ⟨h, hh, rfl⟩ := List.mem_map.mp (show r ∈ (heads cl (rooms mv)).map fun r => (rowI mv r).map (ixC mv cl) from hr)
      have hh' := heads_in cl _ h hh
      refine ⟨by rw [List.length_map]; exact M.rlen h (inI h hh'), fun x hx => ?_⟩
      obtain ⟨t, ht, rfl⟩ := List.mem_map.mp hx
      exact mem_iota.mp (ixin t (M.rooms_closed h hh' t ht))
    · unfold leastG
      refine List.pairwise_map.mpr ?_
      exact List.Pairwise.imp (fun h => Int.ofNat_lt.mpr h) (List.Pairwise.filter _ List.pairwise_lt_range)
    · unfold leastG at hx
      obtain ⟨i, hi, rfl⟩ := List.mem_map.mp hx
      have := List.mem_range.mp (List.mem_filter.mp hi).1
      rw [hl] at this
      omega
  refine ⟨⟨mach, ?_, fun p hp q hq e => ?_⟩, by have := same 0 rooms_zero; rw [c0] at this; exact this, len1⟩
  · have key := ordN_quot (row := rowI mv) (row' := rowI (leastM mv cl)) (c := ixC mv cl) (r0 := 0) (S := rooms mv) (n := mv.length) (m := (leastM mv cl).length) rooms_zero M.rooms_closed hom M.rooms_len
    have e1 : dd ((rooms mv).map (ixC mv cl)) = iota (leastM mv cl).length := by
      have e2 : (rooms mv).map (ixC mv cl) = ((rooms mv).map (nk cl (rooms mv))).map fun (i : Nat) => ((i : Nat) : Int) := by rw [List.map_map]; rfl
      rw [e2, dd_map_inj (fun (i : Nat) => ((i : Nat) : Int)) _ (fun x _ y _ h => Int.ofNat.inj h), dd_nk, leastM_len]
      rfl
    have e3 : ordN (rowI mv) 0 mv.length = rooms mv := rfl
    rw [e3, e1, iota_len, c0] at key
    exact key (Nat.le_refl _)
  · obtain ⟨r, hr, rfl⟩ := onto p hp
    obtain ⟨s, hs, rfl⟩ := onto q hq
    exact (ixeq hr hs).mpr fun w => (same r hr w).trans ((e w).trans (same s hs w).symm)
end

/-! ## joint machines (plain) -/
namespace MA
/-- the place of a thing -/
def idxA {α : Type} [DecidableEq α] (l : List α) (x : α) : Nat := l.idxOf x
theorem idxA_lt {α : Type} [DecidableEq α] {l : List α} {x : α} (h : x ∈ l) : idxA l x < l.length := List.idxOf_lt_length_of_mem h
theorem idxA_at {α : Type} [DecidableEq α] {l : List α} {x : α} (h : x ∈ l) : l[idxA l x]? = some x := by
  rw [List.getElem?_eq_getElem (idxA_lt h)]
  exact congrArg some (List.getElem_idxOf (idxA_lt h))
theorem idxA_self {α : Type} [DecidableEq α] (x : α) (l : List α) : idxA (x :: l) x = 0 := List.idxOf_cons_self
theorem grow_yes {α : Type} [DecidableEq α] {o ts : List α} {t : α} (h : t ∈ grow o ts) : grow o (ts ++ [t]) = grow o ts := by rw [grow_snoc, if_pos h]
theorem grow_no {α : Type} [DecidableEq α] {o ts : List α} {t : α} (h : ¬ t ∈ grow o ts) : grow o (ts ++ [t]) = grow o ts ++ [t] := by rw [grow_snoc, if_neg h]
def prow (m1 m2 : List (List Int)) (r : Int × Int) : List (Int × Int) := List.zip (rowI m1 r.1) (rowI m2 r.2)
/-- joint rooms, as they are reached -/
def jord (m1 m2 : List (List Int)) (i : Nat) : List (Int × Int) := ordN (prow m1 m2) (0, 0) i
def jrooms (m1 m2 : List (List Int)) : List (Int × Int) := jord m1 m2 (m1.length * m2.length)
def jix (m1 m2 : List (List Int)) (r : Int × Int) : Int := ((idxA (jrooms m1 m2) r : Nat) : Int)
def jrow (m1 m2 : List (List Int)) (r : Int × Int) : List Int := (prow m1 m2 r).map (jix m1 m2)
def jmoves (m1 m2 : List (List Int)) : List (List Int) := (jrooms m1 m2).map (jrow m1 m2)
def jgood (m1 m2 : List (List Int)) (acc : Int × Int → Bool) : List Int := ((List.range (jrooms m1 m2).length).filter fun i => acc ((jrooms m1 m2).getD i (0, 0))).map fun (i : Nat) => ((i : Nat) : Int)
def allP (n m : Nat) : List (Int × Int) := (iota n).flatMap fun p => (iota m).map fun q => (p, q)
theorem mem_allP {n m : Nat} {r : Int × Int} : r ∈ allP n m ↔ r.1 ∈ iota n ∧ r.2 ∈ iota m := by
  unfold allP
  simp only [List.mem_flatMap, List.mem_map]
  constructor
  · rintro ⟨p, hp, q, hq, rfl⟩; exact ⟨hp, hq⟩
  · rintro ⟨hp, hq⟩; exact ⟨r.1, hp, r.2, hq, rfl⟩
theorem flat_len {α β : Type} (f : α → List β) (m : Nat) : ∀ (l : List α), (∀ x ∈ l, (f x).length = m) → (l.flatMap f).length = l.length * m
  | [], _ => by simp
  | x :: l, h => by
    rw [List.flatMap_cons, List.length_append, flat_len f m l (fun y hy => h y (List.mem_cons_of_mem _ hy)), h x (List.mem_cons_self ..), List.length_cons, Nat.add_mul, Nat.one_mul, Nat.add_comm]
theorem allP_len (n m : Nat) : (allP n m).length = n * m := by
  unfold allP
  rw [flat_len _ m _ (fun x _ => by rw [List.length_map, iota_len]), iota_len]
end MA
open MA
section
variable {k : Nat} {m1 m2 : List (List Int)} {g1 g2 : List Int} {acc : Int × Int → Bool}
theorem prow_at (m1 m2 : List (List Int)) (r : Int × Int) (t : Nat) : (prow m1 m2 r)[t]? = match (rowI m1 r.1)[t]?, (rowI m2 r.2)[t]? with | some a, some b => some (a, b) | _, _ => none := by
  unfold prow
  rw [List.zip, List.getElem?_zipWith]
  cases (rowI m1 r.1)[t]? <;> cases (rowI m2 r.2)[t]? <;> rfl
theorem prow_len (M1 : MachW k m1 g1) (M2 : MachW k m2 g2) {r : Int × Int} (h : r ∈ allP m1.length m2.length) : (prow m1 m2 r).length = k := by
  unfold prow
  rw [List.length_zip, M1.rlen _ (mem_allP.mp h).1, M2.rlen _ (mem_allP.mp h).2]
  exact Nat.min_self k
theorem prow_in (M1 : MachW k m1 g1) (M2 : MachW k m2 g2) : ∀ r ∈ allP m1.length m2.length, ∀ t ∈ prow m1 m2 r, t ∈ allP m1.length m2.length := fun r h t ht => by
  have h1 := List.of_mem_zip (show (t.1, t.2) ∈ List.zip (rowI m1 r.1) (rowI m2 r.2) from ht)
  exact mem_allP.mpr ⟨M1.closed _ (mem_allP.mp h).1 _ h1.1, M2.closed _ (mem_allP.mp h).2 _ h1.2⟩
theorem pzero (M1 : MachW k m1 g1) (M2 : MachW k m2 g2) : ((0, 0) : Int × Int) ∈ allP m1.length m2.length := mem_allP.mpr ⟨M1.zero, M2.zero⟩
theorem jord_in (M1 : MachW k m1 g1) (M2 : MachW k m2 g2) (i : Nat) : ∀ x ∈ jord m1 m2 i, x ∈ allP m1.length m2.length := ordN_in (pzero M1 M2) (prow_in M1 M2) i
theorem jord_len (M1 : MachW k m1 g1) (M2 : MachW k m2 g2) (i : Nat) : (jord m1 m2 i).length ≤ m1.length * m2.length := by
  have := ordN_len (pzero M1 M2) (prow_in M1 M2) i
  rwa [allP_len] at this
theorem jrooms_in (M1 : MachW k m1 g1) (M2 : MachW k m2 g2) : ∀ x ∈ jrooms m1 m2, x ∈ allP m1.length m2.length := jord_in M1 M2 _
theorem jrooms_closed (M1 : MachW k m1 g1) (M2 : MachW k m2 g2) : ∀ r ∈ jrooms m1 m2, ∀ t ∈ prow m1 m2 r, t ∈ jrooms m1 m2 := ordN_closed (jord_len M1 M2 _)
theorem jrooms_nodup : (jrooms m1 m2).Nodup := ordN_nodup _
theorem jrooms_zero : (jrooms m1 m2)[0]? = some (0, 0) := ordN_zero _
/-- what is there early is there at the end, at the same place -/
theorem jord_pre (M1 : MachW k m1 g1) (M2 : MachW k m2 g2) (i : Nat) : ∃ q, jrooms m1 m2 = jord m1 m2 i ++ q := by
  by_cases h : i ≤ m1.length * m2.length
  · obtain ⟨q, e⟩ := ordN_pre (row := prow m1 m2) (r0 := (0, 0)) (i := i) (m1.length * m2.length - i)
    refine ⟨q, ?_⟩
    rw [show i + (m1.length * m2.length - i) = m1.length * m2.length by omega] at e
    exact e
  · have e := ordN_stable (row := prow m1 m2) (r0 := (0, 0)) (i := m1.length * m2.length) (jord_len M1 M2 _) (i - m1.length * m2.length)
    rw [show m1.length * m2.length + (i - m1.length * m2.length) = i by omega] at e
    exact ⟨[], by rw [List.append_nil]; exact e.symm⟩
theorem jord_stop (M1 : MachW k m1 g1) (M2 : MachW k m2 g2) {i : Nat} (h : (jord m1 m2 i).length ≤ i) : jord m1 m2 i = jrooms m1 m2 := by
  by_cases hi : i ≤ m1.length * m2.length
  · have e := ordN_stable (row := prow m1 m2) (r0 := (0, 0)) (i := i) h (m1.length * m2.length - i)
    rw [show i + (m1.length * m2.length - i) = m1.length * m2.length by omega] at e
    exact e.symm
  · have e := ordN_stable (row := prow m1 m2) (r0 := (0, 0)) (i := m1.length * m2.length) (jord_len M1 M2 _) (i - m1.length * m2.length)
    rw [show m1.length * m2.length + (i - m1.length * m2.length) = i by omega] at e
    exact e
theorem idx_pre {α : Type} [DecidableEq α] {x : α} : ∀ {l : List α} (m : List α), x ∈ l → idxA (l ++ m) x = idxA l x
  | y :: l, m, h => by
    have ih := fun hn => idx_pre (l := l) m ((List.mem_cons.mp h).resolve_left hn)
    unfold idxA at ih ⊢
    rw [List.cons_append, List.idxOf_cons, List.idxOf_cons]
    by_cases e : y = x
    · have h1 : (y == x) = true := by rw [e]; exact beq_self_eq_true x
      rw [h1]
      rfl
    · have h1 : (y == x) = false := beq_false_of_ne e
      rw [h1, ih (fun z => e z.symm)]
theorem jrun_eq (M1 : MachW k m1 g1) (M2 : MachW k m2 g2) : ∀ (w : List Nat) {r : Int × Int}, r ∈ allP m1.length m2.length → run (prow m1 m2) r w = (run (rowI m1) r.1 w, run (rowI m2) r.2 w)
  | [], _, _ => rfl
  | t :: w, r, h => by
    rw [run_cons, run_cons, run_cons]
    have e : (prow m1 m2 r).getD t r = ((rowI m1 r.1).getD t r.1, (rowI m2 r.2).getD t r.2) := by
      have l1 := M1.rlen _ (mem_allP.mp h).1
      have l2 := M2.rlen _ (mem_allP.mp h).2
      rw [List.getD_eq_getElem?_getD, List.getD_eq_getElem?_getD, List.getD_eq_getElem?_getD, prow_at]
      by_cases ht : t < k
      · rw [List.getElem?_eq_getElem (by omega), List.getElem?_eq_getElem (by omega)]
        rfl
      · rw [List.getElem?_eq_none (by omega), List.getElem?_eq_none (by omega)]
        rfl
    rw [e]
    have hin : (prow m1 m2 r).getD t r ∈ allP m1.length m2.length := getD_in (prow_in M1 M2) h t
    rw [e] at hin
    exact jrun_eq M1 M2 w hin
theorem jix_lt {r : Int × Int} (h : r ∈ jrooms m1 m2) : jix m1 m2 r ∈ iota (jrooms m1 m2).length := by
  have := idxA_lt h
  unfold jix
  exact mem_iota.mpr ⟨by omega, by omega⟩
theorem jmoves_len : (jmoves m1 m2).length = (jrooms m1 m2).length := by unfold jmoves; rw [List.length_map]
theorem jmoves_row {r : Int × Int} (h : r ∈ jrooms m1 m2) : rowI (jmoves m1 m2) (jix m1 m2 r) = jrow m1 m2 r := by
  unfold rowI jmoves jix
  rw [Int.toNat_natCast, List.getD_eq_getElem?_getD, List.getElem?_map, idxA_at h]
  rfl
theorem jrun (M1 : MachW k m1 g1) (M2 : MachW k m2 g2) : ∀ (w : List Nat) {r : Int × Int}, r ∈ jrooms m1 m2 → run (rowI (jmoves m1 m2)) (jix m1 m2 r) w = jix m1 m2 (run (prow m1 m2) r w)
  | [], _, _ => rfl
  | t :: w, r, h => by
    rw [run_cons, run_cons, jmoves_row h]
    have e : (jrow m1 m2 r).getD t (jix m1 m2 r) = jix m1 m2 ((prow m1 m2 r).getD t r) := by
      unfold jrow
      rw [List.getD_eq_getElem?_getD, List.getD_eq_getElem?_getD, List.getElem?_map]
      cases (prow m1 m2 r)[t]? <;> rfl
    rw [e]
    exact jrun M1 M2 w (getD_in (jrooms_closed M1 M2) h t)
theorem jix_zero : jix m1 m2 (0, 0) = 0 := by
  unfold jix
  have h := jrooms_zero (m1 := m1) (m2 := m2)
  cases e : jrooms m1 m2 with
  | nil => rw [e] at h; cases h
  | cons x l =>
    rw [e] at h
    cases h
    rw [idxA_self]
    rfl
theorem jgood_acc {r : Int × Int} (h : r ∈ jrooms m1 m2) : accI (jgood m1 m2 acc) (jix m1 m2 r) = acc r := by
  have hl := idxA_lt h
  have hg : (jrooms m1 m2).getD (idxA (jrooms m1 m2) r) (0, 0) = r := by
    rw [List.getD_eq_getElem?_getD, idxA_at h]
    rfl
  unfold accI jgood jix
  cases ha : acc r with
  | true =>
    refine decide_eq_true (List.mem_map.mpr ⟨_, List.mem_filter.mpr ⟨List.mem_range.mpr hl, ?_⟩, rfl⟩)
    rw [hg, ha]
  | false =>
    refine decide_eq_false fun z => ?_
    obtain ⟨i, hi, e⟩ := List.mem_map.mp z
    have e2 : i = idxA (jrooms m1 m2) r := by omega
    have h2 := (List.mem_filter.mp hi).2
    rw [e2, hg, ha] at h2
    cases h2
/-- what texts the joint machine has -/
theorem jset (M1 : MachW k m1 g1) (M2 : MachW k m2 g2) (w : List Nat) : accI (jgood m1 m2 acc) (run (rowI (jmoves m1 m2)) 0 w) = acc (run (rowI m1) 0 w, run (rowI m2) 0 w) := by
  have h0 : ((0, 0) : Int × Int) ∈ jrooms m1 m2 := List.mem_of_getElem? jrooms_zero
  have e := jrun M1 M2 w h0
  rw [jix_zero] at e
  rw [e, jgood_acc (run_in (jrooms_closed M1 M2) w h0), jrun_eq M1 M2 w (pzero M1 M2)]
theorem jmach (M1 : MachW k m1 g1) (M2 : MachW k m2 g2) (hn : m1.length * m2.length ≤ 3600) : MachW k (jmoves m1 m2) (jgood m1 m2 acc) := by
  have hl : (jrooms m1 m2).length ≤ m1.length * m2.length := jord_len M1 M2 _
  refine ⟨?_, by rw [jmoves_len]; omega, fun r hr => ?_, ?_, fun x hx => ?_⟩
  · rw [jmoves_len]
    exact (List.getElem?_eq_some_iff.mp (jrooms_zero (m1 := m1) (m2 := m2))).1
  · obtain ⟨p, hp, rfl⟩ := List.mem_map.mp (show r ∈ (jrooms m1 m2).map (jrow m1 m2) from hr)
    refine ⟨by unfold jrow; rw [List.length_map]; exact prow_len M1 M2 (jrooms_in M1 M2 p hp), fun x hx => ?_⟩
    obtain ⟨t, ht, rfl⟩ := List.mem_map.mp (show x ∈ (prow m1 m2 p).map (jix m1 m2) from hx)
    rw [jmoves_len]
    exact mem_iota.mp (jix_lt (jrooms_closed M1 M2 p hp t ht))
  · unfold jgood
    refine List.pairwise_map.mpr ?_
    exact List.Pairwise.imp (fun h => Int.ofNat_lt.mpr h) (List.Pairwise.filter _ List.pairwise_lt_range)
  · unfold jgood at hx
    obtain ⟨i, hi, rfl⟩ := List.mem_map.mp hx
    have := List.mem_range.mp (List.mem_filter.mp hi).1
    rw [jmoves_len]
    omega
end

/-! ## a least machine is least; operators; a machine turned (plain) -/
open MA
section
variable {k : Nat} {mv lm : List (List Int)} {g lg : List Int}
/-- each room of a least machine, found again -/
theorem canon_back (M : MachW k mv g) (C : CanonW k lm lg) (s : SameSet mv g lm lg 0 0) : ∃ f : Int → Int, (∀ p ∈ iota lm.length, f p ∈ iota mv.length) ∧ ∀ p ∈ iota lm.length, ∀ q ∈ iota lm.length, Alike mv g (f p) (f q) → p = q := by
  have hw : ∀ p : Int, ∃ w : List Nat, p ∈ iota lm.length → run (rowI lm) 0 w = p := fun p => by
    by_cases h : p ∈ iota lm.length
    · obtain ⟨w, _, e⟩ := C.mach.reach (show p ∈ rooms lm by rw [C.order]; exact h)
      exact ⟨w, fun _ => e⟩
    · exact ⟨[], fun z => absurd z h⟩
  refine ⟨fun p => run (rowI mv) 0 (Classical.choose (hw p)), fun p _ => run_in M.closed _ M.zero, fun p hp q hq a => C.parts p hp q hq fun w => ?_⟩
  have e1 := Classical.choose_spec (hw p) hp
  have e2 := Classical.choose_spec (hw q) hq
  have s1 := s (Classical.choose (hw p) ++ w)
  have s2 := s (Classical.choose (hw q) ++ w)
  have a := a w
  rw [run_app, run_app] at s1 s2
  rw [e1] at s1
  rw [e2] at s2
  rw [← s1, ← s2]
  exact a
theorem map_nodup {α β : Type} {f : α → β} : ∀ {l : List α}, l.Nodup → (∀ x ∈ l, ∀ y ∈ l, f x = f y → x = y) → (l.map f).Nodup
  | [], _, _ => List.nodup_nil
  | a :: l, h, hf => by
    rw [List.nodup_cons] at h
    rw [List.map_cons, List.nodup_cons]
    refine ⟨fun z => ?_, map_nodup h.2 fun x hx y hy => hf x (List.mem_cons_of_mem _ hx) y (List.mem_cons_of_mem _ hy)⟩
    obtain ⟨y, hy, e⟩ := List.mem_map.mp z
    have := hf y (List.mem_cons_of_mem _ hy) a (List.mem_cons_self ..) e
    exact h.1 (this ▸ hy)
theorem canon_min (M : MachW k mv g) (C : CanonW k lm lg) (s : SameSet mv g lm lg 0 0) : lm.length ≤ mv.length := by
  obtain ⟨f, h1, h2⟩ := canon_back M C s
  have h := nodup_le (l := (iota lm.length).map f) (m := iota mv.length) (map_nodup (iota_nodup _) fun p hp q hq e => h2 p hp q hq (by rw [e]; exact fun _ => rfl)) fun x hx => by
    obtain ⟨p, hp, rfl⟩ := List.mem_map.mp hx
    exact h1 p hp
  rwa [List.length_map, iota_len, iota_len] at h
theorem canon_cls (M : MachW k mv g) (C : CanonW k lm lg) (s : SameSet mv g lm lg 0 0) {cl0 : Int → Nat} (h0 : ∀ r ∈ iota mv.length, ∀ s ∈ iota mv.length, cl0 r = cl0 s ↔ accI g r = accI g s) {j : Nat} (h : gcnt (rowI mv) (iota mv.length) cl0 (j + 1) ≤ gcnt (rowI mv) (iota mv.length) cl0 j) : lm.length ≤ gcnt (rowI mv) (iota mv.length) cl0 (j + 1) := by
  obtain ⟨f, h1, h2⟩ := canon_back M C s
  have h := nodup_le (l := (iota lm.length).map fun p => gcls (rowI mv) (iota mv.length) cl0 (j + 1) (f p)) (m := dd ((iota mv.length).map (gcls (rowI mv) (iota mv.length) cl0 (j + 1)))) (map_nodup (iota_nodup _) fun p hp q hq e => h2 p hp q hq ((gcls_final h0 M.closed M.rlen h (h1 p hp) (h1 q hq)).mp e)) fun x hx => by
    obtain ⟨p, hp, rfl⟩ := List.mem_map.mp hx
    exact mem_dd.mpr (List.mem_map_of_mem (h1 p hp))
  rwa [List.length_map, iota_len] at h
end
/-- operators between sets -/
inductive Op | and | or | less | not
def Op.str : Op → Str
  | .and => "and" | .or => "or" | .less => "less" | .not => "not"
def Op.acc : Op → Bool → Bool → Bool
  | .and, a, b => a && b | .or, a, b => a || b | .less, a, b => a && !b | .not, a, _ => !a
/-- the rooms that are not good -/
def coG (n : Nat) (g : List Int) : List Int := ((List.range n).filter fun i => !accI g ((i : Nat) : Int)).map fun (i : Nat) => ((i : Nat) : Int)
section
variable {k : Nat} {mv lm : List (List Int)} {g lg : List Int}
theorem coG_acc {n : Nat} {p : Int} (h : p ∈ iota n) : accI (coG n g) p = !accI g p := by
  have hp := mem_iota.mp h
  have e : ((p.toNat : Nat) : Int) = p := by omega
  unfold coG
  cases ha : accI g p with
  | true =>
    refine decide_eq_false fun z => ?_
    obtain ⟨i, hi, ei⟩ := List.mem_map.mp z
    have h2 := (List.mem_filter.mp hi).2
    rw [ei, ha] at h2
    cases h2
  | false =>
    refine decide_eq_true (List.mem_map.mpr ⟨p.toNat, List.mem_filter.mpr ⟨List.mem_range.mpr (by omega), ?_⟩, e⟩)
    rw [e, ha]
    rfl
theorem coG_mach (M : MachW k mv g) : MachW k mv (coG mv.length g) := by
  refine ⟨M.pos, M.most, M.row, ?_, fun x hx => ?_⟩
  · unfold coG
    exact List.pairwise_map.mpr (List.Pairwise.imp (fun h => Int.ofNat_lt.mpr h) (List.Pairwise.filter _ List.pairwise_lt_range))
  · obtain ⟨i, hi, rfl⟩ := List.mem_map.mp (show x ∈ List.map _ _ from hx)
    have := List.mem_range.mp (List.mem_filter.mp hi).1
    omega
theorem coG_set (M : MachW k mv g) (w : List Nat) : accI (coG mv.length g) (run (rowI mv) 0 w) = !accI g (run (rowI mv) 0 w) := coG_acc (run_in M.closed w M.zero)
end

/-! ## len(set(xs)), xs a list of numbers -/
section
open PyProof.Rows MA
theorem dedup_grow : ∀ (l o : List Int), l.foldl step_dedup o = grow o l
  | [], _ => rfl
  | x :: l, o => by
    have e : step_dedup o x = if x ∈ o then o else o ++ [x] := by
      show (if o.any (· == x) then o else o ++ [x]) = _
      by_cases h : x ∈ o
      · have z : o.any (fun y => y == x) = true := List.any_eq_true.mpr ⟨x, h, beq_self_eq_true x⟩
        rw [if_pos h, if_pos z]
      · have z : ¬ o.any (fun y => y == x) = true := fun z => h (by
          obtain ⟨y, hy, ey⟩ := List.any_eq_true.mp z
          rw [← eq_of_beq ey]
          exact hy)
        rw [if_neg h, if_neg z]
    rw [List.foldl_cons, grow_cons, e]
    exact dedup_grow l _
theorem firstMet_dd (ns : List Int) : firstMet (fun i => ns.getD i 0) ns.length = dd ns := by
  unfold firstMet
  rw [dedup_grow]
  have e : (List.range ns.length).map (fun i => ns.getD i 0) = ns := by
    refine List.ext_getElem (by simp) fun i h1 h2 => ?_
    rw [List.getElem_map, List.getElem_range, List.getD_eq_getElem?_getD, List.getElem?_eq_getElem h2]
    rfl
  rw [e]
  rfl
def tLenSetD (K : PySem.W.Frag) (ta : TE) : TE := fun σ H Q => ta σ H fun x H1 => ∃ (l : Addr) (ns : List Int), x = .ref l ∧ SqL K H1 l (ns.map V.int) ∧ ns.length ≤ 4000 ∧ Q (.int ((dd ns).length : Nat)) H1
theorem pe_lenSetD {X : Cx} {a : Expr} {ta : TE} {p p2 q pos : Pos} (hg : Gl X "len") (hm : X.mg "len" = none) (hg2 : Gl X "set") (hm2 : X.mg "set" = none) (ha : PE X a ta) (hc : X.calm = true := by rfl)
    (na : starEach [a] X.env = (false, eval a X.env) :: starEach [] X.env := by rfl) : PE X (.Call (.Name "len" p) [.Call (.Name "set" p2) [a] [] q] [] pos) (tLenSetD X.K ta) := by
  refine ⟨fun pins s σ H Q I h => ?_⟩
  refine PyProof.Rows.Call_ (ld_blt I hg hm boot_len ?_)
  refine callWith_builtin1 (args_cons ?_ rfl) rfl rfl
  refine PyProof.Rows.Call_ (ld_blt I hg2 hm2 (show bootBuiltins "set" = some (.type "set") by decide +kernel) ?_)
  refine callWith_type1 (args_cons (thn (ha.run pins s σ H _ I h) fun v s1 ⟨x, H1, I1, r1, q1⟩ => args_nil ?_) na) na rfl
  obtain ⟨l, ns, rfl, hq, hl, q1⟩ := q1
  cases r1
  obtain ⟨its, r, pl, hz⟩ := I1.list hq
  have hlen : its.toArray.size = ns.length := by rw [List.size_toArray, ← r.length, List.length_map]
  refine call_set_list (I1.ok.hd hc) pl.isList (by simpa using RZ.intsAre_vals r) (by rw [hlen]; unfold scanBound; omega) fun h' tk hS hk => ?_
  refine args_nil ?_
  rw [hlen, firstMet_dd] at hS
  have hdl : (dd ns).length ≤ 4000 := Nat.le_trans (nodup_le (nodup_dd ns) fun x hx => mem_dd.mp hx) hl
  obtain ⟨o, es, ep, t, ho, hex, hd, _, _, _, hf, hn⟩ := hS
  have I2 : Inv X pins σ H1 { s1 with heap := h', toks := tk } := I1.kept fun b o e => hk b o (Heap.lt_size e) e
  exact call_len_set ho hex hd hf (by rw [hn]; omega) ⟨.int (dd ns).length, H1, I2.tok _, ⟨_, by rw [hn]⟩, q1⟩
end

local macro_rules | `(tactic| walk_at "rd1") => `(tactic| first
  | (refine And.intro (by first | omega | assumption | (show ∃ _ : Str, _; exact ⟨_, rfl⟩) | (exact .inl ⟨by decide, by decide⟩) | (exact .inr ⟨by decide, by decide⟩) | (exact .inl ⟨by omega, by omega⟩) | (exact ⟨by decide, by decide⟩) | (exact ⟨by omega, by omega⟩) | decide | (exact szl rfl) | (show (0 : Int) < _; omega) | (show _ = _; exact rfl)) ?_)
  | (refine ⟨_, rfl, ?_⟩)
  | (refine ⟨_, _, rfl, rfl, ?_⟩)
  | (refine ⟨_, _, _, _, rfl, rfl, SqL.of (by first | assumption | exact upd_same), rfl, ?_⟩)
  | (refine ⟨_, _, _, _, rfl, rfl, (by first | assumption | exact upd_same), rfl, ?_⟩)
  | (refine .inl ⟨_, rfl, ?_⟩))
local macro_rules | `(tactic| walk_at "rd") => `(tactic| repeat walk_at "rd1")

/-! the text by its places -/
def top (i : Nat) : Stmt := PySem.Challenge.pw_vouchedlots_k09_whole_joins.main.body.getD i (.Pass ⟨0, 0, 0, 0⟩)
abbrev sPick : Stmt := top 37
/-- the j-th row of the class that stands i-th -/
def sub (i j : Nat) : Stmt := match top i with
  | .ClassDef (body := b) .. => b.getD j (.Pass ⟨0, 0, 0, 0⟩)
  | _ => .Pass ⟨0, 0, 0, 0⟩
/-- what the top's names hold, as far as built-ins go -/
structure Txt (mg : Str → Option Value) : Prop where
  len : mg "len" = none
  int : mg "int" = none
  abs : mg "abs" = none
  range : mg "range" = none
  isinstance : mg "isinstance" = none
  «repr» : mg "repr" = none
  «str» : mg "str" = none
  tuple : mg "tuple" = none
  list : mg "list" = none
  all : mg "all" = none
  any : mg "any" = none
  enumerate : mg "enumerate" = none
  ValueError : mg "ValueError" = none
  bool : mg "bool" = none
  min : mg "min" = none
  set : mg "set" = none
  max : mg "max" = none
  sum : mg "sum" = none
  sorted : mg "sorted" = none
section
variable {P : Program} {w : World} {K : PySem.W.Frag} {mg : Str → Option Value} {base : Heap}
theorem scPick : FnScope ["source", "many", "digit", "mixed"] ["source", "many"] (C8.fnScope sPick) := C8.fnScope_by (by decide +kernel)
theorem ok_pick {f : Addr} {fd : FuncData} (F : C8.Def K mg "_law_pick" sPick f fd) (b : Binds K fd ["source", "many"] []) (T : Txt mg) : C8.Cal P w K mg base 1 "_law_pick" spPick [] := by
  refine C8.cal0 F b .nil scPick (fun vs H Q E h => ?_) (fun cdv A outer s H vs Q E hr h => ?_)
  · obtain ⟨A, a, m, rfl, _⟩ := h
    rfl
  · obtain ⟨_, a, m, rfl, hmem, hS, hm, hm2, k⟩ := h
    obtain ⟨x, sd, c, ha⟩ := hS a hmem
    refine ⟨_,
      (pss_cons (ps_if (pt_cmpR op_gt (pe_ix ix_list (pv 0) pe_int (fun _ _ => rfl)) pe_int (nomark _)) 
        (pss_cons (ps_set (i := 2) scPick.nd rfl (Or.inl rfl) (pe_op op_mod (pe_callTy call_int1 (by rfl) T.int (by decide +kernel) (pa_cons (pe_ix ix_list (pv 0) pe_int (fun _ _ => rfl)) pa_nil)) (pv 1)))
        (pss_cons (ps_asg (pe_op op_fdiv (pe_ix ix_list (pv 0) pe_int (fun _ _ => rfl)) (pv 1)) (pg_sub (pv 0) pe_int set_list))
        (pss_one (ps_ret (pv 2))))) pss_nil)
      (pss_cons (ps_asg (pe_op op_add (pe_ix ix_list (pv 0) pe_int (fun _ _ => rfl)) pe_int) (pg_sub (pv 0) pe_int set_list))
      (pss_cons (ps_set (i := 3) scPick.nd rfl (Or.inl rfl) (pe_op op_mod (pe_callTy call_int1 (by rfl) T.int (by decide +kernel) (pa_cons (pe_op op_mul (pe_op op_add (pe_ix ix_list (pv 0) pe_int (fun _ _ => rfl)) (pe_op op_mul pe_int (pe_ix ix_list (pv 0) pe_int (fun _ _ => rfl)))) pe_int) pa_nil)) pe_int))
      (pss_cons (ps_set (i := 3) scPick.nd rfl (Or.inl rfl) (pe_op op_mod (pe_callTy call_int1 (by rfl) T.int (by decide +kernel) (pa_cons (pe_op op_add (pe_op op_add (pe_op op_mul (pv 3) (pv 3)) (pe_op op_mul pe_int (pe_ix ix_list (pv 0) pe_int (fun _ _ => rfl)))) (pe_ix ix_list (pv 0) pe_int (fun _ _ => rfl))) pa_nil)) pe_int))
      (pss_cons (ps_set (i := 3) scPick.nd rfl (Or.inl rfl) (pe_op op_mod (pe_callTy call_int1 (by rfl) T.int (by decide +kernel) (pa_cons (pe_op op_add (pe_op op_mul (pv 3) pe_int) pe_int) pa_nil)) pe_int))
      (pss_cons (ps_set (i := 3) scPick.nd rfl (Or.inl rfl) (pe_op op_mod (pe_callTy call_int1 (by rfl) T.int (by decide +kernel) (pa_cons (pe_op op_add (pe_op op_mul (pv 3) (pv 3)) (pv 3)) pa_nil)) pe_int))
      (pss_one (ps_ret (pe_op op_mod (pe_callTy call_int1 (by rfl) T.int (by decide +kernel) (pa_cons (pe_op op_fdiv (pv 3) pe_int) pa_nil)) (pv 1)))))))))), ?_⟩
    walk_at "rd"
    refine ite2 (fun _ => ?_) (fun _ => ?_)
    · walk_at "rd"
      exact k _ _ (Int.emod_nonneg _ (by omega)) (Int.emod_lt_of_pos _ hm) (Go.draw hmem)
    · walk_at "rd"
      refine k _ _ (Int.emod_nonneg _ (by omega)) (Int.emod_lt_of_pos _ hm) (Go.draw hmem)
end

abbrev sSource : Stmt := top 36
/-- the source's digits and seed, made of the script; a new list -/
def spSource (K : PySem.W.Frag) : Sp := fun vs H Q _ => ∃ (a : Addr) (ns : List Int) (p : Int), vs = [.ref a, .int p] ∧ SqL K H a (ns.map V.int) ∧ (∀ n ∈ ns, Builtin.Int.intBits n ≤ 1048576) ∧ 0 ≤ p ∧ p < 10 ∧
  ∀ (q : Addr) (x s c : Int) (H' : Hp), H q = none → Same H H' → H' q = some (.lst [.int x, .int s, .int c]) → Q (.ref q) H'
section
variable {P : Program} {w : World} {K : PySem.W.Frag} {mg : Str → Option Value} {base : Heap}
theorem scSource : FnScope ["script", "place", "cell", "seed", "one", "number"] ["script", "place"] (C8.fnScope sSource) := C8.fnScope_by (by decide +kernel)
theorem ok_source {f : Addr} {fd : FuncData} (F : C8.Def K mg "_law_source" sSource f fd) (b : Binds K fd ["script", "place"] []) (T : Txt mg) : C8.Cal P w K mg base 1 "_law_source" (spSource K) [] := by
  refine C8.cal0 F b .nil scSource (fun vs H Q E h => ?_) (fun cdv A outer s H vs Q E hr h => ?_)
  · obtain ⟨a, ns, p, rfl, _⟩ := h
    rfl
  · obtain ⟨a, ns, p, rfl, hS, hb, hp0, hp1, k⟩ := h
    have sc := scSource
    refine ⟨_, -- _law_source: 0 script 1 place 2 cell 3 seed 4 one 5 number

      (C8.pss_cut (ps_set (i := 2) sc.nd rfl (Or.inl rfl) (pe_ifExp (pt_cmpR op_lt (pv 1) (pe_callB (call_lenQ (K := K) rfl) (by rfl) T.len PySem.boot_len (pa_cons (pv 0) pa_nil)) (nomark _)) (pe_ix ix_list (pv 0) (pv 1) (fun _ _ => rfl)) (pe_op op_add (pe_op op_mul pe_int (pv 1)) pe_int)))
      (pss_cons (ps_set (i := 3) sc.nd rfl (Or.inl rfl) (pe_op op_add (pe_op op_mul pe_int (pv 1)) pe_int))
      (C8.pss_cut (ps_for PassesOwn.never rfl (pi_list (pe_slice sl_list (pv 0) po_none (po_some pe_int))) (pg_name (i := 4) sc.nd rfl (Or.inl rfl)) 
        (pss_one (ps_set (i := 3) sc.nd rfl (Or.inl rfl) (pe_op op_mod (pe_callTy (T := "int") call_int1 (by rfl) T.int (by decide +kernel) (pa_cons (pe_op op_add (pe_op op_mul (pv 3) pe_int) (pe_op op_mod (pe_callTy (T := "int") call_int1 (by rfl) T.int (by decide +kernel) (pa_cons (pv 4) pa_nil)) pe_int)) pa_nil)) pe_int))))
      (pss_cons (ps_set (i := 3) sc.nd rfl (Or.inl rfl) (pe_op op_mod (pe_callTy (T := "int") call_int1 (by rfl) T.int (by decide +kernel) (pa_cons (pe_op op_add (pe_op op_mul (pv 3) pe_int) (pe_op op_mod (pe_callTy (T := "int") call_int1 (by rfl) T.int (by decide +kernel) (pa_cons (pv 2) pa_nil)) pe_int)) pa_nil)) pe_int))
      (pss_cons (ps_set (i := 5) sc.nd rfl (Or.inl rfl) (pe_callB (id := "abs") call_abs (by rfl) T.abs (by decide +kernel) (pa_cons (pv 2) pa_nil)))
      (pss_cons (ps_if (pt_cmpR op_lt (pv 5) (pe_op op_pow pe_int pe_int) (nomark _)) 
        (pss_one (ps_ret (pe_lst (pa_cons pe_int (pa_cons (pv 3) (pa_cons pe_int pa_nil)))))) pss_nil)
      (C8.pss_cut (ps_if (pt_cmpR op_gt (pe_op op_shr (pv 5) pe_int) pe_int (nomark _)) 
        (pss_one (ps_set (i := 5) sc.nd rfl (Or.inl rfl) (pe_op op_sub (pv 5) (pe_op op_shlW (pe_op op_shr (pv 5) pe_int) pe_int)))) pss_nil)
      (pss_one (ps_ret (pe_lst (pa_cons (pv 5) (pa_cons (pv 3) (pa_cons pe_int pa_nil))))))))))))), ?_⟩
    -- cell
    refine ⟨fun σ' H' => H' = H ∧ ∃ cv : Int, Builtin.Int.intBits cv ≤ 1048576 ∧ σ' = [some (.ref a), some (.int p), some (.int cv), none, none, none], ?_, ?_⟩
    · refine ⟨_, rfl, _, rfl, _, _, rfl, .inl hS, _, _, rfl, rfl, _, rfl, ?_⟩
      refine ite2 (fun hlt => ?_) (fun _ => ?_)
      · have hlt : p < ((ns.map V.int).length : Int) := by simpa using hlt
        rw [List.length_map] at hlt
        obtain ⟨n, hn⟩ : ∃ n, ns[p.toNat]? = some n := ⟨ns[p.toNat]'(by omega), by simp⟩
        refine ⟨_, rfl, _, rfl, _, _, _, .int n, rfl, rfl, hS, at_of (j := p.toNat) (by omega) (by rw [List.getElem?_map, hn]; rfl), ?_⟩
        exact ⟨rfl, n, hb n (List.mem_of_getElem? hn), rfl⟩
      · walk_at "rd"
        refine ⟨5 * p + 3, ?_, rfl⟩
        exact Nat.le_trans (PyProof.Rows.intBits_le (show (5 * p + 3).natAbs < 2 ^ 7 by omega)) (by decide)
    · rintro σ1 H1 ⟨rfl, cv, hcv, rfl⟩
      walk_at "rd"
      refine ⟨fun σ' H' => ∃ (z : Int) (v : Option V), Same H1 H' ∧ σ' = [some (.ref a), some (.int p), some (.int cv), some (.int z), v, none], ?_, ?_⟩
      · refine ⟨_, rfl, _, rfl, _, _, rfl, hS, fun l hl => ?_⟩
        refine ⟨l, rfl, ⟨_, SqL.of upd_same⟩, for_list (xs := cutV (ns.map V.int) none (some 3)) (fun i σ H' => Iv (∃ (z : Int) (v : Option V), Same H1 H' ∧ H' l = some (.lst (cutV (ns.map V.int) none (some 3))) ∧ σ = [some (.ref a), some (.int p), some (.int cv), some (.int z), v, none]))
          (Iv.of ⟨_, _, Same.new hl, upd_same, rfl⟩) (fun i σ H' _ h => by obtain ⟨_, _, _, q, _⟩ := h.get; exact SqL.of q) ?_ ?_⟩
        · intro i x σ H' hx h
          obtain ⟨z, v, e, q, rfl⟩ := h.get
          obtain ⟨n, rfl⟩ : ∃ n, x = V.int n := by
            have h1 := List.mem_of_getElem? hx
            have h2 := List.mem_of_mem_drop (List.mem_of_mem_take h1)
            obtain ⟨n, _, e⟩ := List.mem_map.mp h2
            exact ⟨n, e.symm⟩
          walk_at "rd"
          exact .of ⟨_, _, e, q, rfl⟩
        · intro σ H' h
          obtain ⟨z, v, e, q, rfl⟩ := h.get
          exact ⟨z, v, e, rfl⟩
      · rintro σ2 H2 ⟨z, v, e2, rfl⟩
        walk_at "rd"
        refine ite2 (fun _ => ?_) (fun _ => ?_)
        · walk_at "rd"
          exact fun q hq => k q _ _ _ _ (e2.free hq) (e2.trans (Same.new hq)) upd_same
        · have hb1 : Builtin.Int.intBits (if cv < 0 then -cv else cv) ≤ 1048576 := by
            split
            · refine Nat.le_trans (Nat.le_of_eq ?_) hcv
              unfold Builtin.Int.intBits
              simp
            · exact hcv
          refine ⟨fun σ' H' => Iv (∃ y : Int, Same H2 H' ∧ σ' = [some (.ref a), some (.int p), some (.int cv), some (.int ((z * 31 + cv % 2147483587) % 2147483629)), v, some (.int y)]), ?_, ?_⟩
          · walk_at "rd"
            refine ite2 (fun _ => ?_) (fun _ => ?_)
            · walk_at "rd"
              refine ⟨shl_part (by split <;> omega) hb1 _, ?_⟩
              walk_at "rd"
              exact .of ⟨_, Same.refl _, rfl⟩
            · exact .of ⟨_, Same.refl _, rfl⟩
          · intro σ3 H3 h3
            obtain ⟨y, e3, rfl⟩ := h3.get
            walk_at "rd"
            exact fun q hq => k q _ _ _ _ ((e2.trans e3).free hq) ((e2.trans e3).trans (Same.new hq)) upd_same
end

/-! ### alphabets and texts -/
def alphs : List (List Nat) := [[97, 98], [98, 100], [120, 121, 122], [97], [97, 98, 99], [99, 101], [113]]
def IsAl (al : Str) : Prop := ∃ l ∈ alphs, al = SX.S l
def Over (al t : Str) : Prop := ∀ c ∈ t.cps.toList, c ∈ al.cps.toList
theorem IsAl.len {al : Str} (h : IsAl al) : 1 ≤ al.length ∧ al.length ≤ 3 := by
  obtain ⟨l, hl, rfl⟩ := h
  rw [SX.S_len]
  revert l
  decide
theorem join1 : ∀ cs : List Nat, TL.joinL [] (cs.map fun c => [c]) = cs
  | [] => rfl
  | [_] => rfl
  | c :: d :: r => by
    have ih := join1 (d :: r)
    show [c] ++ ([] ++ TL.joinL [] ((d :: r).map fun c => [c])) = c :: d :: r
    rw [ih]
    rfl
theorem join_signs (cs : List Nat) : Txt.join ("" : Str) (cs.map fun c => (⟨#[c]⟩ : Str)) = SX.S cs := by
  have e := SX.join_S [] (cs.map fun c => [c])
  rw [join1, List.map_map] at e
  exact e
theorem sum_ones (cs : List Nat) : ((cs.map fun c => (⟨#[c]⟩ : Str)).map (·.length)).sum = cs.length := by
  induction cs with
  | nil => rfl
  | cons c r ih =>
    rw [List.map_cons, List.map_cons, List.sum_cons, ih, List.length_cons]
    show 1 + r.length = r.length + 1
    omega
abbrev sAlphabet : Stmt := top 38
abbrev sWord : Stmt := top 39
def spAlphabet : Sp := fun vs H Q _ => ∃ (A : List Addr) (a : Addr), vs = [.ref a] ∧ a ∈ A ∧ (∀ a ∈ A, Src H a) ∧ ∀ (al : Str) (H' : Hp), IsAl al → Go A H H' → Q (.str al) H'
def spWord : Sp := fun vs H Q _ => ∃ (A : List Addr) (a : Addr) (al : Str) (m : Int), vs = [.ref a, .str al, .int m] ∧ a ∈ A ∧ (∀ a ∈ A, Src H a) ∧ IsAl al ∧ 0 ≤ m ∧ m ≤ 1000 ∧
  ∀ (cs : List Nat) (H' : Hp), (∀ c ∈ cs, c ∈ al.cps.toList) → (cs.length : Int) ≤ m → Go A H H' → Q (.str (SX.S cs)) H'
/-- only the sources are taken -/
theorem Wd.of {A : List Addr} {H : Hp} (h : ∀ a ∈ A, Src H a) : Wd A A H := ⟨fun _ h => h, h, fun a ha => by
  obtain ⟨x, s, c, q⟩ := h a ha
  exact ⟨_, q⟩⟩
section
variable {P : Program} {w : World} {K : PySem.W.Frag} {mg : Str → Option Value} {base : Heap}
theorem scAlphabet : FnScope ["source", "menu"] ["source"] (C8.fnScope sAlphabet) := C8.fnScope_by (by decide +kernel)
theorem ok_alphabet {f : Addr} {fd : FuncData} (F : C8.Def K mg "_law_alphabet" sAlphabet f fd) (b : Binds K fd ["source"] []) (T : Txt mg) (c_law_pick : C8.Cal P w K mg base 1 "_law_pick" spPick []) : C8.Cal P w K mg base 2 "_law_alphabet" spAlphabet [] := by
  refine C8.cal0 F b .nil scAlphabet (fun vs H Q E h => ?_) (fun cdv A outer s H vs Q E hr h => ?_)
  · obtain ⟨A, a, rfl, _⟩ := h
    rfl
  · obtain ⟨A, a, rfl, hm, hS, k⟩ := h
    have sc := scAlphabet
    refine ⟨_, -- _law_alphabet: 0 source 1 menu

      (pss_cons (ps_set (i := 1) sc.nd rfl (Or.inl rfl) (pe_lst (pa_cons pe_str (pa_cons pe_str (pa_cons pe_str (pa_cons pe_str (pa_cons pe_str (pa_cons pe_str (pa_cons pe_str (pa_cons pe_str (pa_cons pe_str (pa_cons pe_str (pa_cons pe_str (pa_cons pe_str pa_nil))))))))))))))
      (pss_one (ps_ret (pe_ix ix_list (pv 1) (C8.pe_c c_law_pick hr (by decide) rfl (pa_cons (pv 0) (pa_cons (pe_callB (call_lenQ (K := K) rfl) (by rfl) T.len PySem.boot_len (pa_cons (pv 1) pa_nil)) pa_nil))) (fun _ _ => rfl))))), ?_⟩
    refine ⟨by show 12 ≤ sizeLine; decide, fun p hp => ?_⟩
    have W := Wd.of hS
    have g1 := Go.new (A := A) (o := .lst [.str "ab", .str "ab", .str "ab", .str "ab", .str "bd", .str "ab", .str "xyz", .str "a", .str "abc", .str "ce", .str "ab", .str "q"]) hp
    refine ⟨_, rfl, _, rfl, _, rfl, _, _, rfl, .inl (SqL.of upd_same), A, a, _, rfl, hm, g1.src hS, by decide, by decide, fun r H' h0 h1 g => ?_⟩
    have e := g.keep p _ (W.fresh hp) upd_same
    have hr' : r < 12 := h1
    obtain ⟨n, rfl⟩ : ∃ n : Nat, r = (n : Int) := ⟨r.toNat, by omega⟩
    have hn : n < 12 := by omega
    have fin : ∀ x, ([.str "ab", .str "ab", .str "ab", .str "ab", .str "bd", .str "ab", .str "xyz", .str "a", .str "abc", .str "ce", .str "ab", .str "q"] : List V)[n]? = some x → ∃ l ∈ alphs, x = .str (SX.S l) := by
      intro x hx
      match n, hn with
      | 0, _ => exact ⟨[97, 98], by decide, (Option.some.inj hx).symm⟩
      | 1, _ => exact ⟨[97, 98], by decide, (Option.some.inj hx).symm⟩
      | 2, _ => exact ⟨[97, 98], by decide, (Option.some.inj hx).symm⟩
      | 3, _ => exact ⟨[97, 98], by decide, (Option.some.inj hx).symm⟩
      | 4, _ => exact ⟨[98, 100], by decide, (Option.some.inj hx).symm⟩
      | 5, _ => exact ⟨[97, 98], by decide, (Option.some.inj hx).symm⟩
      | 6, _ => exact ⟨[120, 121, 122], by decide, (Option.some.inj hx).symm⟩
      | 7, _ => exact ⟨[97], by decide, (Option.some.inj hx).symm⟩
      | 8, _ => exact ⟨[97, 98, 99], by decide, (Option.some.inj hx).symm⟩
      | 9, _ => exact ⟨[99, 101], by decide, (Option.some.inj hx).symm⟩
      | 10, _ => exact ⟨[97, 98], by decide, (Option.some.inj hx).symm⟩
      | 11, _ => exact ⟨[113], by decide, (Option.some.inj hx).symm⟩
    obtain ⟨x, hx⟩ : ∃ x, ([.str "ab", .str "ab", .str "ab", .str "ab", .str "bd", .str "ab", .str "xyz", .str "a", .str "abc", .str "ce", .str "ab", .str "q"] : List V)[n]? = some x := ⟨_, List.getElem?_eq_getElem hn⟩
    obtain ⟨l, hl, rfl⟩ := fin x hx
    exact ⟨p, _, _, _, rfl, rfl, SqL.of e, atI_nat hx, k _ _ ⟨l, hl, rfl⟩ (g1.trans g)⟩
theorem scWord : FnScope ["source", "alphabet", "most", "size", "k"] ["source", "alphabet", "most"] (C8.fnScope sWord) := C8.fnScope_by (by decide +kernel)
/-- a drawn sign -/
theorem sign_at {al : Str} {r : Int} (h0 : 0 ≤ r) (h1 : r < (al.length : Int)) : ∃ c, c ∈ al.cps.toList ∧ atI al.cps.toList r = some c := by
  have e : al.cps.toList.length = al.length := by simp [Str.length]
  obtain ⟨n, rfl⟩ : ∃ n : Nat, r = (n : Int) := ⟨r.toNat, by omega⟩
  have h2 : n < al.cps.toList.length := by omega
  exact ⟨al.cps.toList[n], List.getElem_mem h2, atI_nat (List.getElem?_eq_getElem h2)⟩
theorem ok_word {f : Addr} {fd : FuncData} (F : C8.Def K mg "_law_word" sWord f fd) (b : Binds K fd ["source", "alphabet", "most"] []) (T : Txt mg) (c_law_pick : C8.Cal P w K mg base 1 "_law_pick" spPick []) : C8.Cal P w K mg base 2 "_law_word" spWord [] := by
  refine C8.cal0 F b .nil scWord (fun vs H Q E h => ?_) (fun cdv A outer s H vs Q E hr h => ?_)
  · obtain ⟨A, a, al, m, rfl, _⟩ := h
    rfl
  · obtain ⟨A, a, al, m, rfl, hm, hS, hal, h0, h1, k⟩ := h
    have sc := scWord
    refine ⟨_, -- _law_word: 0 source* 1 alphabet* 2 most 3 size 4 k

      (pss_cons (ps_set (i := 3) sc.nd rfl (Or.inl rfl) (C8.pe_c c_law_pick hr (by decide) rfl (pa_cons (pv 0) (pa_cons (pe_op op_add (pv 2) pe_int) pa_nil))))
      (pss_one (ps_ret (pe_join pe_str (pe_lc (own := [("k", 4)]) (g := gName 4) rfl sc.nd (pi_range1 (by rfl) T.range (pa_cons (pv 3) pa_nil)) (blkOk_by (own := [("k", 4)]) (by kernel_rfl)) (fun _ _ _ _ _ => (pg_name (i := 4) sc.nd rfl (Or.inl rfl))) (fun _ _ _ _ _ => pts_nil) (fun _ _ _ _ _ => (pe_ix ix_str (pv 1) (C8.pe_c c_law_pick hr (by decide) rfl (pa_cons (pv 0) (pa_cons (pe_callB call_len_str (by rfl) T.len PySem.boot_len (pa_cons (pv 1) pa_nil)) pa_nil))) (fun _ _ => rfl)))))))), ?_⟩
    have hl := hal.len
    have hsz : al.length ≤ sizeLine := Nat.le_trans hl.2 (by decide)
    walk_at "rd"
    refine ⟨A, a, _, rfl, hm, hS, by omega, by omega, ?_⟩
    intro z H1 hz0 hz1 g1
    have hz1 : z < m + 1 := hz1
    have W := Wd.of (g1.src hS)
    refine ⟨⟨_, rfl⟩, _, rfl, _, rfl, by omega, by omega, fun L hL => lc_D (A := A) (S := A) (j := 4) (Xp := fun _ _ => True) (fun i ds => ∃ cs : List Nat, cs.length = i ∧ (∀ c ∈ cs, c ∈ al.cps.toList) ∧ ds = cs.map fun c => D.str ⟨#[c]⟩)
      (walk_range (lo := 0)) (fun i H x H' _ y => ⟨y.1, trivial⟩) W hL (by omega) (fun _ _ => trivial) ⟨[], rfl, by simp, rfl⟩ (fun i ds h => ?_) (fun _ => rfl) (fun i ds x H2 hi h _ W2 k2 Kt Kf ht hf => ?_) (fun ys ds H2 h g2 hL2 hr2 => ?_)⟩
    · obtain ⟨cs, rfl, _, rfl⟩ := h
      simp
    · obtain ⟨cs, rfl, hcs, rfl⟩ := h
      walk_at "rd"
      refine ⟨A, a, _, rfl, hm, W2.src, by omega, by omega, fun r H3 hr0 hr1 g3 => ?_⟩
      obtain ⟨c, hc, e⟩ := sign_at hr0 hr1
      refine ⟨_, _, c, rfl, rfl, hsz, e, ht _ (.str ⟨#[c]⟩) H3 g3 (.str _) ⟨cs ++ [c], by simp, fun c' hc' => ?_, by simp⟩⟩
      rcases List.mem_append.mp hc' with h | h
      · exact hcs c' h
      · rw [List.mem_singleton.mp h]; exact hc
    · obtain ⟨cs, hc, hcs, rfl⟩ := h
      have ey : ys = (cs.map fun c => (⟨#[c]⟩ : Str)).map V.str := by
        rw [List.map_map]
        exact Rps.strs_eq (l := cs.map fun c => (⟨#[c]⟩ : Str)) (by rw [List.map_map]; exact hr2) |>.trans (by rw [List.map_map])
      subst ey
      refine ⟨_, _, cs.map fun c => (⟨#[c]⟩ : Str), rfl, rfl, .inl (SqL.of hL2), ?_, ?_⟩
      · rw [sum_ones, List.length_map, hc]
        show z.toNat + z.toNat * 0 ≤ 16777216
        omega
      · show Q (V.str (Txt.join ("" : Str) (cs.map fun c => (⟨#[c]⟩ : Str)))) H2
        rw [join_signs]
        exact k cs H2 hcs (by omega) (g1.trans g2)
end

abbrev sReader : Stmt := top 40
def spReader : Sp := fun vs H Q _ => ∃ (A S : List Addr) (a : Addr) (n m : Int), vs = [.ref a, .int n, .int m] ∧ a ∈ A ∧ Wd A S H ∧ 1 ≤ n ∧ n ≤ 3 ∧ 1 ≤ m ∧ m ≤ 60 ∧
  ∀ (v : V) (mv : List (List Int)) (g : List Int) (H' : Hp), Go A H H' → Rp S H' v (.tup [mvD mv, rowD g]) → Mach n.toNat mv g → Q v H'
section
variable {P : Program} {w : World} {K : PySem.W.Frag} {mg : Str → Option Value} {base : Heap}
theorem scReader : FnScope ["source", "many", "most", "size", "moves", "good", "p", "t"] ["source", "many", "most"] (C8.fnScope sReader) := C8.fnScope_by (by decide +kernel)
/-- [pick(source, size) for t in range(many)]: a row of draws -/
theorem ok_reader {f : Addr} {fd : FuncData} (F : C8.Def K mg "_law_reader" sReader f fd) (b : Binds K fd ["source", "many", "most"] []) (T : Txt mg) (c_law_pick : C8.Cal P w K mg base 1 "_law_pick" spPick []) : C8.Cal P w K mg base 2 "_law_reader" spReader [] := by
  refine C8.cal0 F b .nil scReader (fun vs H Q E h => ?_) (fun cdv A outer s H vs Q E hr h => ?_)
  · obtain ⟨A, S, a, n, m, rfl, _⟩ := h
    rfl
  · obtain ⟨A, S, a, n, m, rfl, hm, W, hn0, hn1, hm0, hm1, k⟩ := h
    have sc := scReader
    refine ⟨_, -- _law_reader: 0 source* 1 many* 2 most 3 size* 4 moves 5 good 6 p 7 t

      (pss_cons (ps_set (i := 3) sc.nd rfl (Or.inr rfl) (pe_op op_add pe_int (C8.pe_c c_law_pick hr (by decide) rfl (pa_cons (pv 0) (pa_cons (pv 2) pa_nil)))))
      (pss_cons (ps_setLc (i := 4) (own := [("p", 6)]) (g := gName 6) rfl sc.nd rfl rfl (sw_true rfl rfl rfl (by decide +kernel)) (pi_range1 (by rfl) T.range (pa_cons (pv 3) pa_nil)) (blkOk_by (own := [("p", 6)]) (by kernel_rfl)) (fun _ _ _ _ _ => (pg_name (i := 6) sc.nd rfl (Or.inl rfl))) (fun _ _ _ _ _ => pts_nil) (fun _ _ _ _ _ => (pe_lc (own := [("t", 7)]) (g := gName 7) rfl sc.nd (pi_range1 (by rfl) T.range (pa_cons (pv 1) pa_nil)) (blkOk_by (own := [("t", 7)]) (by kernel_rfl)) (fun _ _ _ _ _ => (pg_name (i := 7) sc.nd rfl (Or.inl rfl))) (fun _ _ _ _ _ => pts_nil) (fun _ _ _ _ _ => (C8.pe_c c_law_pick hr (by decide) rfl (pa_cons (pv 0) (pa_cons (pv 3) pa_nil)))))))
      (pss_cons (ps_setLc (i := 5) (own := [("p", 6)]) (g := gName 6) rfl sc.nd rfl rfl (sw_true rfl rfl rfl (by decide +kernel)) (pi_range1 (by rfl) T.range (pa_cons (pv 3) pa_nil)) (blkOk_by (own := [("p", 6)]) (by kernel_rfl)) (fun _ _ _ _ _ => (pg_name (i := 6) sc.nd rfl (Or.inl rfl))) (fun _ _ _ _ _ => (pts_one (pt_cmpR op_eq (C8.pe_c c_law_pick hr (by decide) rfl (pa_cons (pv 0) (pa_cons pe_int pa_nil))) pe_int (nomark _)))) (fun _ _ _ _ _ => (pv 6)))
      (C8.pss_cut (ps_if (PW.pt (pw_and (pt_cmpR op_eq (pe_callB (call_lenQ (K := K) rfl) (by rfl) T.len PySem.boot_len (pa_cons (pv 5) pa_nil)) pe_int (nomark _)) (pw_and1 (pt_cmpR op_gt (C8.pe_c c_law_pick hr (by decide) rfl (pa_cons (pv 0) (pa_cons pe_int pa_nil))) pe_int (nomark _))))) 
        (pss_one (ps_set (i := 5) sc.nd rfl (Or.inl rfl) (pe_lst (pa_cons (C8.pe_c c_law_pick hr (by decide) rfl (pa_cons (pv 0) (pa_cons (pv 3) pa_nil))) pa_nil)))) pss_nil)
      (pss_one (ps_ret (pe_tup (pa_cons (pv 4) (pa_cons (pv 5) pa_nil))))))))), ?_⟩
    walk_at "rd"
    refine ⟨A, a, _, rfl, hm, W.src, by omega, by omega, fun z H1 hz0 hz1 g1 => ?_⟩
    have W1 := W.go g1
    obtain ⟨N, rfl⟩ : ∃ N : Nat, z = (N : Int) := ⟨z.toNat, by omega⟩
    walk_at "rd"
    -- moves
    refine fun L hL => lc_D (A := A) (S := S) (j := 6) (Xp := fun _ _ => True) (fun i ds => ds.length = i ∧ ∀ d ∈ ds, ∃ r : List Int, d = rowD r ∧ (r.length = n.toNat ∧ ∀ x ∈ r, 0 ≤ x ∧ x < (1 + N : Int)))
      (walk_range (lo := 0)) (fun i H x H' _ y => ⟨y.1, trivial⟩) W1 hL (by omega) (fun _ _ => trivial) ⟨rfl, by simp⟩ (fun i ds h => by omega) (fun _ => rfl) (fun i ds x H2 hi h _ W2 k2 Kt Kf ht hf => ?_) (fun ys ds H2 h g2 hL2 hr2 => ?_)
    · refine yes_go ?_
      walk_at "rd"
      refine fun L1 hL1 => lc_D (A := A) (S := L :: S) (j := 7) (Xp := fun _ _ => True) (fun i ds => ds.length = i ∧ ∀ d ∈ ds, ∃ r : Int, d = .int r ∧ (0 ≤ r ∧ r < (1 + N : Int)))
        (walk_range (lo := 0)) (fun i H x H' _ y => ⟨y.1, trivial⟩) W2 hL1 (by omega) (fun _ _ => trivial) ⟨rfl, by simp⟩ (fun i ds h => by omega) (fun _ => rfl) (fun i ds x H2 hi h _ W2 k2 Kt Kf ht hf => ?_) (fun ys1 ds1 H3 h1 g3 hL3 hr3 => ?_)
      · refine yes_go ?_
        walk_at "rd"
        refine ⟨A, a, _, rfl, hm, W2.src, by omega, by omega, fun r H3 hr0 hr1 g3 => ht (.int r) (.int r) H3 g3 (.int r) ⟨by simp [h.1], fun d hd => ?_⟩⟩
        rcases List.mem_append.mp hd with hd | hd
        · exact h.2 d hd
        · exact ⟨r, List.mem_singleton.mp hd, hr0, hr1⟩
      · obtain ⟨rs, rfl, hrs⟩ := maps_of h1.2
        refine ht (.ref L1) (rowD rs) H3 g3 (.lst (W2.fresh hL1) hL3 (hr3.less fun _ q => List.mem_cons_of_mem _ q)) ⟨by simp [h.1], fun d hd => ?_⟩
        rcases List.mem_append.mp hd with hd | hd
        · exact h.2 d hd
        · exact ⟨rs, List.mem_singleton.mp hd, by have := h1.1; simp at this; omega, hrs⟩
    · obtain ⟨rows, rfl, hrows⟩ := maps_of h.2
      have hlen : rows.length = 1 + N := by have := h.1; simp at this; omega
      have r1 : Rp S H2 (.ref L) (mvD rows) := .lst (W1.fresh hL) hL2 (hr2.less fun _ q => List.mem_cons_of_mem _ q)
      clear hr2 h
      have W2 := W1.go g2
      walk_at "rd"
      -- good
      refine fun L1 hL1 => lc_D (A := A) (S := S) (j := 6) (Xp := fun i x => x = .int (0 + (i : Int))) (fun i ds => ∃ g : List Int, ds = g.map .int ∧ g.Pairwise (· < ·) ∧ ∀ x ∈ g, 0 ≤ x ∧ x < (i : Int))
        (walk_range (lo := 0)) (fun i H x H' _ y => ⟨y.1, y.2⟩) W2 hL1 (by omega) (fun _ _ => trivial) ⟨[], rfl, by simp, by simp⟩ (fun i ds h => ?_) (fun _ => rfl) (fun i ds x H3 hi h hx W3 k3 Kt Kf ht hf => ?_) (fun ys1 ds1 H3 h1 g3 hL3 hr3 => ?_)
      · obtain ⟨g, rfl, hg, hb⟩ := h
        rw [List.length_map]
        exact asc_le (lo := 0) hg (fun x hx => by have := hb x hx; omega)
      · obtain ⟨g, rfl, hg, hb⟩ := h
        subst hx
        walk_at "rd"
        refine ⟨A, a, _, rfl, hm, W3.src, by omega, by omega, fun r H4 hr0 hr1 g4 => ?_⟩
        walk_at "rd"
        refine ite2 (fun _ => ?_) (fun _ => ?_)
        · walk_at "rd"
          refine ht _ (.int (0 + (i : Int))) H4 g4 (.int _) ⟨g ++ [0 + (i : Int)], by simp, ?_, fun x hx => ?_⟩
          · refine List.pairwise_append.mpr ⟨hg, by simp, fun x hx y hy => ?_⟩
            rw [List.mem_singleton.mp hy]
            have := (hb x hx).2
            omega
          · rcases List.mem_append.mp hx with hx | hx
            · have := hb x hx
              omega
            · rw [List.mem_singleton.mp hx]
              omega
        · exact hf H4 g4 ⟨g, rfl, hg, fun x hx => by have := hb x hx; omega⟩
      · obtain ⟨g, rfl, hg, hb⟩ := h1
        have W3 := W2.go g3
        have r1' := r1.go W2 g3
        have e1 : ys1 = g.map V.int := hr3.ints_eq
        subst e1
        refine ⟨fun σ' H' => ∃ (L2 : Addr) (g2 : List Int), Go A H3 H' ∧ Rp S H' (.ref L2) (rowD g2) ∧ g2.Pairwise (· < ·) ∧ (∀ x ∈ g2, 0 ≤ x ∧ x < (1 + N : Int)) ∧
          σ' = [some (.ref a), some (.int n), some (.int m), some (.int (1 + N)), some (.ref L), some (.ref L2), none, none], ?_, ?_⟩
        · refine ⟨_, rfl, _, _, rfl, .inl (SqL.of hL3), ?_⟩
          walk_at "rd"
          refine ite2 (fun _ => ?_) (fun _ => ?_)
          · walk_at "rd"
            refine ⟨A, a, _, rfl, hm, W3.src, by omega, by omega, fun r H4 hr0 hr1 g4 => ?_⟩
            walk_at "rd"
            refine ite2 (fun _ => ?_) (fun _ => ?_)
            · walk_at "rd"
              refine ⟨A, a, _, rfl, hm, (W3.go g4).src, by omega, by omega, fun r5 H5 hr50 hr51 g5 => ?_⟩
              walk_at "rd"
              intro p hp
              have W5 := (W3.go g4).go g5
              exact ⟨p, [r5], (g4.trans g5).trans (Go.new hp), .lst (W5.fresh hp) upd_same (.cons (.int _) .nil), by simp, fun x hx => by rw [List.mem_singleton.mp hx]; exact ⟨hr50, hr51⟩, rfl⟩
            · exact ⟨L1, g, g4, (Rp.lst (W2.fresh hL1) hL3 (Rps.ints g)).go W3 g4, hg, fun x hx => by have := hb x hx; omega, rfl⟩
          · exact ⟨L1, g, Go.refl _ _, .lst (W2.fresh hL1) hL3 (Rps.ints g), hg, fun x hx => by have := hb x hx; omega, rfl⟩
        · rintro σ4 H4 ⟨L2, gl, g4, r2, hg2, hb2, rfl⟩
          walk_at "rd"
          intro p hp
          have W4 := W3.go g4
          have gp := Go.new (A := A) (o := .tup [.ref L, .ref L2]) hp
          refine k _ rows gl _ ((((g1.trans g2).trans g3).trans g4).trans gp) (.tup (W4.fresh hp) upd_same (.cons ((r1'.go W3 g4).go W4 gp) (.cons (r2.go W4 gp) .nil))) ⟨by omega, by omega, fun r hr => ?_, hg2, fun x hx => by have := hb2 x hx; omega⟩
          have := hrows r hr
          exact ⟨this.1, fun x hx => by have := this.2 x hx; omega⟩
end

/-! ### own classes and errors -/
/-- where the own classes stand -/
structure Ad where
  (LotsError WrongThing BadAlphabet WrongItem BadText BadMoves BadGood TooMany Unlike NoName Reader : Addr)
inductive Er | alphabet | text | moves | good | many | unlike
def Er.cls (ad : Ad) : Er → Addr
  | .alphabet => ad.BadAlphabet | .text => ad.BadText | .moves => ad.BadMoves | .good => ad.BadGood | .many => ad.TooMany | .unlike => ad.Unlike
def Er.fld : Er → Str
  | .alphabet => "thing" | .many => "what" | .unlike => "what" | _ => "at"
/-- the errors of which words are told -/
inductive Wr | many | unlike
def Wr.er : Wr → Er
  | .many => .many | .unlike => .unlike
def Wr.is : Wr → Wr → Bool
  | .many, .many => true | .unlike, .unlike => true | _, _ => false
def Wr.what : Wr → Str
  | .many => "room" | .unlike => "alphabet"
def Wr.words : Wr → List Str
  | .many => ["value", "many 'room'"] | .unlike => ["value", "unlike 'alphabet'"]
/-- what the written part says of such an error's class -/
structure ErC (K : PySem.W.Frag) (ad : Ad) (e : Wr) : Prop where
  exc : ExcC K (e.er.cls ad)
  xf : XfC K (e.er.cls ad)
  no : PySem.W.findIn K (.ref (e.er.cls ad)) "what" = some none
  kV : PySem.W.kitOne K (.ref (e.er.cls ad)) (.type "ValueError") = some true
  kE : ∀ e2 : Wr, PySem.W.kitOne K (.ref (e.er.cls ad)) (.ref (e2.er.cls ad)) = some (e.is e2)
  kO : PySem.W.kitAny K (.ref (e.er.cls ad)) [.ref ad.NoName, .ref ad.WrongItem, .ref ad.WrongThing] = some false
  kL : PySem.W.exmOne K (.ref (e.er.cls ad)) (.ref ad.LotsError) = some true
/-- where the module's names stand -/
structure Own (K : PySem.W.Frag) (mg : Str → Option Value) (ad : Ad) : Prop where
  g_LotsError : mg "LotsError" = some (.ref ad.LotsError)
  g_WrongThing : mg "WrongThing" = some (.ref ad.WrongThing)
  g_BadAlphabet : mg "BadAlphabet" = some (.ref ad.BadAlphabet)
  g_WrongItem : mg "WrongItem" = some (.ref ad.WrongItem)
  g_BadText : mg "BadText" = some (.ref ad.BadText)
  g_BadMoves : mg "BadMoves" = some (.ref ad.BadMoves)
  g_BadGood : mg "BadGood" = some (.ref ad.BadGood)
  g_TooMany : mg "TooMany" = some (.ref ad.TooMany)
  g_Unlike : mg "Unlike" = some (.ref ad.Unlike)
  g_NoName : mg "NoName" = some (.ref ad.NoName)
  g_Reader : mg "Reader" = some (.ref ad.Reader)
  err : ∀ e, ErC K ad e
/-- what may be told of an error -/
def Er.okV : Er → V → Prop
  | .alphabet => fun _ => True
  | .many => fun v => ∃ x : Str, v = .str x ∧ x.length ≤ 1000
  | .unlike => fun v => ∃ x : Str, v = .str x ∧ x.length ≤ 1000
  | _ => fun v => ∃ i : Int, v = .int i ∧ i.natAbs.log2 < 1920
/-- how it is made -/
structure Sup (P : Program) (w : World) (K : PySem.W.Frag) (mg : Str → Option Value) (ad : Ad) (e : Er) : Prop where
  ex : ∃ (D fI : Addr) (arg : Expr) (ok : Value → Prop), SupX.SupTxt P w K mg (e.cls ad) D fI e.fld arg ok ∧ ∀ v u, RelV v u → e.okV v → ok u

/-! ### is_integer, is_listed, is_alphabet, text_fault -/
def D.inr (lo hi : Int) : D → Bool
  | .int i => decide (lo ≤ i) && decide (i ≤ hi)
  | _ => false
abbrev sInteger : Stmt := top 14
abbrev sListed : Stmt := top 15
def spInteger : Sp := fun vs H Q _ => ∃ (S : List Addr) (v : V) (d : D) (lo hi : Int), vs = [v, .int lo, .int hi] ∧ Rp S H v d ∧ Q (.bl (d.inr lo hi)) H
def spListed : Sp := fun vs H Q _ => ∃ (S : List Addr) (v : V) (d : D), vs = [v] ∧ Rp S H v d ∧ ∀ H', Same H H' → Q (.bl (d.isa "tuple" || d.isa "list")) H'
section
open PyProof.Rows
variable {P : Program} {w : World} {K : PySem.W.Frag} {mg : Str → Option Value} {base : Heap}
theorem scInteger : FnScope ["thing", "low", "high"] ["thing", "low", "high"] (C8.fnScope sInteger) := C8.fnScope_by (by decide +kernel)
theorem ok_integer {f : Addr} {fd : FuncData} (F : C8.Def K mg "is_integer" sInteger f fd) (b : Binds K fd ["thing", "low", "high"] []) (T : Txt mg) : C8.Cal P w K mg base 1 "is_integer" spInteger [] := by
  refine C8.cal0 F b .nil scInteger (fun vs H Q E h => ?_) (fun cdv A outer s H vs Q E hr h => ?_)
  · obtain ⟨S, v, d, lo, hi, rfl, _⟩ := h
    rfl
  · obtain ⟨S, v, d, lo, hi, rfl, r, k⟩ := h
    have sc := scInteger
    refine ⟨_, -- is_integer: 0 thing 1 low 2 high

      (pss_cons (ps_if (PW.pt (pw_or (pt_val (pe_callB call_isi (by rfl) T.isinstance (by decide +kernel) (pa_cons (pv 0) (pa_cons (pe_bltn (v := .ty "bool") (u := .type "bool") rfl T.bool (by decide +kernel) rfl) pa_nil)))) (pw_or1 (pt_not (pt_val (pe_callB call_isi (by rfl) T.isinstance (by decide +kernel) (pa_cons (pv 0) (pa_cons (pe_bltn (v := .ty "int") (u := .type "int") rfl T.int (by decide +kernel) rfl) pa_nil)))))))) 
        (pss_one (ps_ret pe_bl)) pss_nil)
      (pss_one (ps_ret (pe_and (pe_cmpR op_ge (pv 0) (pv 1) (nomark _)) (pe_one (pe_or (pe_cmp (pc_isN (pv 2)) rfl) (pe_one (pe_cmpR op_le (pv 0) (pv 2) (nomark _))))))))), ?_⟩
    cases hb : d.isa "bool" with
    | true =>
      refine ⟨_, rfl, _, _, _, _, _, rfl, .ty _, r.ty, kit_lit (by decide) hb, _, rfl, iteT (iteT ?_)⟩
      have e : d.inr lo hi = false := by cases d <;> first | rfl | (simp [D.isa, D.tyn] at hb)
      rw [e] at k
      exact k
    | false =>
      refine ⟨_, rfl, _, _, _, _, _, rfl, .ty _, r.ty, kit_lit (by decide) hb, _, rfl, iteF ?_⟩
      cases hj : d.isa "int" with
      | false =>
        refine ⟨_, rfl, _, _, _, _, _, rfl, .ty _, r.ty, kit_lit (by decide) hj, ?_⟩
        have e : d.inr lo hi = false := by cases d <;> first | rfl | (simp [D.isa, D.tyn] at hj)
        refine ⟨_, rfl, iteT ?_⟩
        rw [e] at k
        exact k
      | true =>
        refine ⟨_, rfl, _, _, _, _, _, rfl, .ty _, r.ty, kit_lit (by decide) hj, ?_⟩
        obtain ⟨i, rfl⟩ : ∃ i, d = .int i := by cases d <;> first | exact ⟨_, rfl⟩ | (simp [D.isa, D.tyn] at hj hb)
        cases r
        refine ⟨_, rfl, iteF ?_⟩
        refine ⟨_, rfl, _, rfl, _, _, rfl, rfl, _, rfl, ?_⟩
        refine ite2 (fun h1 => ?_) (fun h1 => ?_)
        · refine ⟨_, rfl, _, rfl, iteF ?_⟩
          refine ⟨_, rfl, _, rfl, _, _, rfl, rfl, ?_⟩
          have e : (D.int i).inr lo hi = decide (i ≤ hi) := by
            show (decide (lo ≤ i) && decide (i ≤ hi)) = _
            rw [show decide (lo ≤ i) = true from h1]
            rfl
          rw [e] at k
          exact k
        · have e : (D.int i).inr lo hi = false := by
            show (decide (lo ≤ i) && decide (i ≤ hi)) = _
            rw [Bool.eq_false_iff.mpr h1]
            rfl
          rw [e] at k
          exact k
theorem scListed : FnScope ["thing"] ["thing"] (C8.fnScope sListed) := C8.fnScope_by (by decide +kernel)
theorem ok_listed {f : Addr} {fd : FuncData} (F : C8.Def K mg "is_listed" sListed f fd) (b : Binds K fd ["thing"] []) (T : Txt mg) : C8.Cal P w K mg base 1 "is_listed" spListed [] := by
  refine C8.cal0 F b .nil scListed (fun vs H Q E h => ?_) (fun cdv A outer s H vs Q E hr h => ?_)
  · obtain ⟨S, v, d, rfl, _⟩ := h
    rfl
  · obtain ⟨S, v, d, rfl, r, k⟩ := h
    have sc := scListed
    refine ⟨_, -- is_listed: 0 thing

      (pss_one (ps_ret (pe_callB call_isiT (by rfl) T.isinstance (by decide +kernel) (pa_cons (pv 0) (pa_cons (pe_tup (pa_cons (pe_bltn (v := .ty "tuple") (u := .type "tuple") rfl T.tuple (by decide +kernel) rfl) (pa_cons (pe_bltn (v := .ty "list") (u := .type "list") rfl T.list (by decide +kernel) rfl) pa_nil))) pa_nil))))), ?_⟩
    refine ⟨_, rfl, by show 2 ≤ sizeLine; decide, fun p hp => ?_⟩
    exact ⟨_, _, _, _, _, _, rfl, upd_same, .cons (.ty _) (.cons (.ty _) .nil), (r.same (Same.new hp)).ty, kit_listed K d, k _ (Same.new hp)⟩
end

/-! ### is_alphabet, check_alphabet, text_fault, check_text -/
def SMALLS : Str := "abcdefghijklmnopqrstuvwxyz"
/-- what is_alphabet says of a text -/
def alOk (x : Str) : Bool := decide (1 ≤ x.cps.toList.length) && decide (x.cps.toList.length ≤ 3) && (x.cps.toList.all fun c => SMALLS.cps.toList.contains c) && decide (x.cps.toList.Pairwise (· < ·))
def D.alOk : D → Bool
  | .str x => Vl.alOk x
  | _ => false
abbrev sIsAl : Stmt := top 16
def spIsAl : Sp := fun vs H Q _ => ∃ (S : List Addr) (v : V) (d : D), vs = [v] ∧ Rp S H v d ∧ (∀ x, d = .str x → x.length ≤ 1000) ∧ ∀ H', Same H H' → Q (.bl d.alOk) H'
section
open PyProof.Rows
variable {P : Program} {w : World} {K : PySem.W.Frag} {mg : Str → Option Value} {base : Heap}
theorem scIsAl : FnScope ["thing", "letter", "k"] ["thing"] (C8.fnScope sIsAl) := C8.fnScope_by (by decide +kernel)
theorem ok_isal {f : Addr} {fd : FuncData} (F : C8.Def K mg "is_alphabet" sIsAl f fd) (b : Binds K fd ["thing"] []) (T : Txt mg) (v_SMALL : ∃ u, mg "SMALL" = some u ∧ RelV (.str SMALLS) u) : C8.Cal P w K mg base 1 "is_alphabet" spIsAl [] := by
  refine C8.cal0 F b .nil scIsAl (fun vs H Q E h => ?_) (fun cdv A outer s H vs Q E hr h => ?_)
  · obtain ⟨S, v, d, rfl, _⟩ := h
    rfl
  · obtain ⟨S, v, d, rfl, r, hx, k⟩ := h
    have sc := scIsAl
    refine ⟨_, -- is_alphabet: 0 thing* 1 letter 2 k

      (pss_cons (ps_if (PW.pt (pw_or (pt_not (pt_val (pe_callB call_isi (by rfl) T.isinstance (by decide +kernel) (pa_cons (pv 0) (pa_cons (pe_bltn (v := .ty "str") (u := .type "str") rfl T.str (by decide +kernel) rfl) pa_nil))))) (pw_or1 (pt_not (pt_chain op_le op_le pe_int (pe_callB call_len_str (by rfl) T.len PySem.boot_len (pa_cons (pv 0) pa_nil)) pe_int))))) 
        (pss_one (ps_ret pe_bl)) pss_nil)
      (pss_cons (ps_if (pt_val (pe_callB (id := "any") (cr_any rfl) (by rfl) T.any (by decide +kernel) (pa_cons (pe_lc (own := [("letter", 1)]) (g := gName 1) rfl sc.nd (pi_str (pv 0)) (blkOk_by (own := [("letter", 1)]) (by kernel_rfl)) (fun _ _ _ _ _ => (pg_name (i := 1) sc.nd rfl (Or.inl rfl))) (fun _ _ _ _ _ => pts_nil) (fun _ _ _ _ _ => (pe_cmpR op_notIn_sign (pv 1) (C8.pe_gc rfl v_SMALL) (by rfl)))) pa_nil))) 
        (pss_one (ps_ret pe_bl)) pss_nil)
      (pss_one (ps_ret (pe_callB (id := "all") (cr_all rfl) (by rfl) T.all (by decide +kernel) (pa_cons (pe_lc (own := [("k", 2)]) (g := gName 2) rfl sc.nd (pi_range1 (by rfl) T.range (pa_cons (pe_op op_sub (pe_callB call_len_str (by rfl) T.len PySem.boot_len (pa_cons (pv 0) pa_nil)) pe_int) pa_nil)) (blkOk_by (own := [("k", 2)]) (by kernel_rfl)) (fun _ _ _ _ _ => (pg_name (i := 2) sc.nd rfl (Or.inl rfl))) (fun _ _ _ _ _ => pts_nil) (fun _ _ _ _ _ => (pe_cmpR op_lt_str (pe_ix ix_str (pv 0) (pv 2) (fun _ _ => rfl)) (pe_ix ix_str (pv 0) (pe_op op_add (pv 2) pe_int) (fun _ _ => rfl)) (nomark _)))) pa_nil)))))), ?_⟩
    cases hs : d.isa "str" with
    | false =>
      refine ⟨_, rfl, _, _, _, _, _, rfl, .ty _, r.ty, kit_lit (by decide) hs, _, rfl, iteT (iteT ?_)⟩
      have e : d.alOk = false := by cases d <;> first | rfl | (simp [D.isa, D.tyn] at hs)
      rw [e] at k
      exact k _ (Same.refl _)
    | true =>
      obtain ⟨x, rfl⟩ : ∃ x, d = .str x := by cases d <;> first | exact ⟨_, rfl⟩ | (simp [D.isa, D.tyn] at hs)
      cases r
      refine ⟨_, rfl, _, _, _, _, _, rfl, .ty _, .base (.str x), kit_lit (d := .str x) (by decide) hs, _, rfl, iteF ?_⟩
      have hx := hx x rfl
      have hz : x.length ≤ sizeLine := Nat.le_trans hx (by decide)
      have hl : x.length = x.cps.toList.length := by simp [Str.length]
      have no : ¬ (1 ≤ x.cps.toList.length ∧ x.cps.toList.length ≤ 3) → Vl.alOk x = false := fun h => by
        unfold Vl.alOk
        by_cases h1 : 1 ≤ x.cps.toList.length
        · rw [show decide (x.cps.toList.length ≤ 3) = false from decide_eq_false (fun h2 => h ⟨h1, h2⟩)]
          simp
        · rw [decide_eq_false h1]
          rfl
      refine ⟨_, rfl, _, rfl, hz, _, _, rfl, rfl, _, rfl, ?_⟩
      refine ite2 (fun h1 => ?_) (fun h1 => ?_)
      · refine ⟨_, _, rfl, rfl, _, rfl, ?_⟩
        refine ite2 (fun h2 => ?_) (fun h2 => ?_)
        · have h2 : ¬ (x.length : Int) ≤ 3 := by simpa using h2
          have k := k _ (Same.refl _)
          rw [show (D.str x).alOk = false from no (by omega)] at k
          exact k
        · have h2 : (x.length : Int) ≤ 3 := by simpa using h2
          have h1 : (1 : Int) ≤ (x.length : Int) := by simpa using h1
          have hn : x.cps.size = x.cps.toList.length := by simp
          refine ⟨_, rfl, x, rfl, fun L hL => lc_F (j := 1) (Xp := fun i v => ∃ c, x.cps[i]? = some c ∧ v = .str ⟨#[c]⟩) (fun i => .bl (!decide (x.cps.toList.getD i 0 ∈ SMALLS.cps.toList))) walk_str (fun i H v H' _ y => y) hL (by omega) (fun _ _ => trivial) (fun _ => rfl) (fun i v H2 hi hv s2 Kt ht => ?_) (fun ys H2 s2 e2 r2 => ?_)⟩
          · obtain ⟨c, hc, rfl⟩ := hv
            refine ⟨_, rfl, c, SMALLS, rfl, rfl, ht _ _ (Same.refl _) ?_⟩
            have e : x.cps.toList.getD i 0 = c := by
              rw [List.getD_eq_getElem?_getD, Array.getElem?_toList, hc]
              rfl
            rw [e]
            exact .bl _
          · have ey := r2.bls_eq (n := 0)
            subst ey
            have a1 := al_any SMALLS.cps.toList x.cps.toList (by omega) (by omega)
            refine ⟨_, _, rfl, SqL.of e2, _, rfl, ?_⟩
            rw [hn]
            refine ite2 (fun h3 => ?_) (fun h3 => ?_)
            · have e : Vl.alOk x = false := by
                unfold Vl.alOk
                rw [a1, h3]
                simp
              have k := k H2 s2
              rw [show (D.str x).alOk = false from e] at k
              exact k
            · have h3 := Bool.eq_false_iff.mpr h3
              have e : Vl.alOk x = ((List.range (x.cps.toList.length - 1)).map fun i => decide (x.cps.toList.getD i 0 < x.cps.toList.getD (i + 1) 0)).all id := by
                unfold Vl.alOk
                rw [a1, h3, decide_eq_true (show 1 ≤ x.cps.toList.length by omega), decide_eq_true (show x.cps.toList.length ≤ 3 by omega), al_asc _ (by omega) (by omega)]
                rfl
              refine ⟨_, rfl, x, rfl, hz, _, _, rfl, rfl, _, rfl, by omega, by omega, fun L2 hL2 => lc_F (j := 2) (Xp := fun i v => v = .int (0 + (i : Int))) (fun i => .bl (decide (x.cps.toList.getD i 0 < x.cps.toList.getD (i + 1) 0))) (walk_range (lo := 0)) (fun i H v H' _ y => ⟨y.1, y.2⟩) hL2 (by omega) (fun _ _ => trivial) (fun _ => rfl) (fun i v H3 hi hv s3 Kt ht => ?_) (fun ys H3 s3 e3 r3 => ?_)⟩
              · subst hv
                obtain ⟨a, ha⟩ : ∃ a, x.cps.toList[i]? = some a := ⟨_, List.getElem?_eq_getElem (by omega)⟩
                obtain ⟨b, hb⟩ : ∃ b, x.cps.toList[i + 1]? = some b := ⟨_, List.getElem?_eq_getElem (by omega)⟩
                have ia : atI x.cps.toList (0 + (i : Int)) = some a := by rw [Int.zero_add]; exact atI_nat ha
                have ib : atI x.cps.toList (0 + (i : Int) + 1) = some b := by rw [show (0 + (i : Int) + 1) = ((i + 1 : Nat) : Int) by omega]; exact atI_nat hb
                refine ⟨_, rfl, _, rfl, _, _, a, rfl, rfl, hz, ia, _, rfl, _, rfl, _, _, rfl, rfl, _, _, b, rfl, rfl, hz, ib, _, _, rfl, rfl, ht _ _ (Same.refl _) ?_⟩
                rw [List.getD_eq_getElem?_getD, List.getD_eq_getElem?_getD, ha, hb]
                show Rp _ _ (V.bl (decide (([a] : List Nat) < [b]))) _
                rw [lt_sign]
                exact .bl _
              · have ey := r3.bls_eq (n := 0)
                subst ey
                refine ⟨_, _, rfl, SqL.of e3, ?_⟩
                have k := k H3 (s2.trans s3)
                rw [show (D.str x).alOk = _ from e] at k
                rw [show ((x.length : Int) - 1).toNat = x.cps.toList.length - 1 by omega]
                exact k
      · have h1 : ¬ (1 : Int) ≤ (x.length : Int) := by simpa using h1
        have k := k _ (Same.refl _)
        rw [show (D.str x).alOk = false from no (by omega)] at k
        exact ⟨_, rfl, iteT k⟩
end

abbrev sChkAl : Stmt := top 17
abbrev sFault : Stmt := top 18
abbrev sChkText : Stmt := top 19
/-- no def that lets an exception out asks about the stack -/
abbrev ZT : Around → Prop := fun _ => True
/-- an error e is wished, its field v, nothing else changed -/
def Ex (ad : Ad) (e : Er) (v : V) (H : Hp) (E : XK) : Prop := ∀ (dd : Addr) (H' : Hp), Same H H' → H' dd = none → E (.ref (e.cls ad)) (some dd) (upd H' dd (.xd [(e.fld, v)]))
def spChkAl (ad : Ad) : Sp := fun vs H Q E => ∃ (S : List Addr) (v : V) (d : D), vs = [v] ∧ Rp S H v d ∧ (∀ x, d = .str x → x.length ≤ 1000) ∧ (d.alOk = true → ∀ H', Same H H' → Q .non H') ∧ (d.alOk = false → Ex ad .alphabet v H E)
/-- the fault of a text over the letters al, at most m -/
def D.fault (al : Str) (m : Int) : D → Option Int
  | .str x => if m < (x.length : Int) then some (-1) else Option.map (fun n : Nat => (n : Int)) (x.cps.toList.findIdx? fun c => !decide (c ∈ al.cps.toList))
  | _ => some (-1)
theorem fault_str (al : Str) (m : Int) (x : Str) : (D.str x).fault al m = if m < (x.length : Int) then some (-1) else Option.map (fun n : Nat => (n : Int)) (x.cps.toList.findIdx? fun c => !decide (c ∈ al.cps.toList)) := rfl
def optV : Option Int → V
  | some i => .int i
  | none => .non
def spFault : Sp := fun vs H Q _ => ∃ (S : List Addr) (al : Str) (v : V) (d : D) (m : Int), vs = [.str al, v, .int m] ∧ Rp S H v d ∧ (∀ x, d = .str x → x.length ≤ 1000) ∧ ∀ H', Same H H' → Q (optV (d.fault al m)) H'
def spChkText (ad : Ad) : Sp := fun vs H Q E => ∃ (S : List Addr) (al : Str) (v : V) (d : D), vs = [.str al, v] ∧ Rp S H v d ∧ (∀ x, d = .str x → x.length ≤ 1000) ∧ (d.fault al 40 = none → ∀ H', Same H H' → Q .non H') ∧ (∀ i, d.fault al 40 = some i → Ex ad .text (.int i) H E)
section
open PyProof.Rows
variable {P : Program} {w : World} {K : PySem.W.Frag} {mg : Str → Option Value} {base : Heap} {ad : Ad}
theorem scChkAl : FnScope ["thing"] ["thing"] (C8.fnScope sChkAl) := C8.fnScope_by (by decide +kernel)
theorem ok_chkal {f : Addr} {fd : FuncData} (F : C8.Def K mg "check_alphabet" sChkAl f fd) (b : Binds K fd ["thing"] []) (T : Txt mg) (O : Own K mg ad) (SU : Sup P w K mg ad .alphabet) (c_is_alphabet : C8.Cal P w K mg base 1 "is_alphabet" spIsAl []) : CalZ ZT P w K mg base 2 "check_alphabet" (spChkAl ad) := by
  refine calZ (fun _ _ _ => trivial) F b scChkAl (fun vs H Q E h => ?_) (fun cdv A outer s H vs Q E hz hr h => ?_)
  · obtain ⟨S, v, d, rfl, _⟩ := h
    rfl
  · obtain ⟨S, v, d, rfl, r, hx, k1, k2⟩ := h
    have sc := scChkAl
    obtain ⟨D0, fI, arg, ok, ST, hok⟩ := SU.ex
    refine ⟨_, -- check_alphabet: 0 thing

      (pss_one (ps_if (pt_not (pt_val (C8.pe_c c_is_alphabet hr (by decide) rfl (pa_cons (pv 0) pa_nil)))) 
        (pss_one (ps_raiseSup (okV := Er.okV .alphabet) rfl takesG ST hok hr O.g_BadAlphabet (pa_cons (pv 0) pa_nil))) pss_nil)), ?_⟩
    refine ⟨_, rfl, S, v, d, rfl, r, hx, fun H1 s1 => ⟨_, rfl, ?_⟩⟩
    cases hd : d.alOk with
    | true => exact iteF (k1 hd H1 s1)
    | false => exact iteT ⟨_, rfl, v, rfl, trivial, fun dd hdd => k2 hd dd H1 s1 hdd⟩
theorem scFault : FnScope ["alphabet", "thing", "most", "at", "letter"] ["alphabet", "thing", "most"] (C8.fnScope sFault) := C8.fnScope_by (by decide +kernel)
theorem ok_fault {f : Addr} {fd : FuncData} (F : C8.Def K mg "text_fault" sFault f fd) (b : Binds K fd ["alphabet", "thing", "most"] []) (T : Txt mg) : C8.Cal P w K mg base 1 "text_fault" spFault [] := by
  refine C8.cal0 F b .nil scFault (fun vs H Q E h => ?_) (fun cdv A outer s H vs Q E hr h => ?_)
  · obtain ⟨S, al, v, d, m, rfl, _⟩ := h
    rfl
  · obtain ⟨S, al, v, d, m, rfl, r, hx, k⟩ := h
    have sc := scFault
    refine ⟨_, -- text_fault: 0 alphabet 1 thing 2 most 3 at 4 letter

      (pss_cons (ps_if (PW.pt (pw_or (pt_not (pt_val (pe_callB call_isi (by rfl) T.isinstance (by decide +kernel) (pa_cons (pv 1) (pa_cons (pe_bltn (v := .ty "str") (u := .type "str") rfl T.str (by decide +kernel) rfl) pa_nil))))) (pw_or1 (pt_cmpR op_gt (pe_callB call_len_str (by rfl) T.len PySem.boot_len (pa_cons (pv 1) pa_nil)) (pv 2) (nomark _))))) 
        (pss_one (ps_ret (pe_un un_neg pe_int))) pss_nil)
      (pss_cons (ps_for PassesOwn.never rfl (pi_enumQ (by rfl) T.enumerate (pa_cons (pv 1) pa_nil)) (pg_tup rfl (pgs_cons (pg_name (i := 3) sc.nd rfl (Or.inl rfl)) (pgs_cons (pg_name (i := 4) sc.nd rfl (Or.inl rfl)) pgs_nil))) 
        (pss_one (ps_if (pt_cmpR op_notIn_sign (pv 4) (pv 0) (by rfl)) 
          (pss_one (ps_ret (pv 3))) pss_nil)))
      (pss_one (ps_ret pe_non)))), ?_⟩
    cases hs : d.isa "str" with
    | false =>
      refine ⟨_, rfl, _, _, _, _, _, rfl, .ty _, r.ty, kit_lit (by decide) hs, _, rfl, iteT (iteT ?_)⟩
      have e : d.fault al m = some (-1) := by cases d <;> first | rfl | (simp [D.isa, D.tyn] at hs)
      rw [e] at k
      exact ⟨_, rfl, k _ (Same.refl _)⟩
    | true =>
      obtain ⟨x, rfl⟩ : ∃ x, d = .str x := by cases d <;> first | exact ⟨_, rfl⟩ | (simp [D.isa, D.tyn] at hs)
      cases r
      have hx := hx x rfl
      have hz : x.length ≤ sizeLine := Nat.le_trans hx (by decide)
      refine ⟨_, rfl, _, _, _, _, _, rfl, .ty _, .base (.str x), kit_lit (d := .str x) (by decide) hs, _, rfl, iteF ?_⟩
      refine ⟨_, rfl, x, rfl, hz, _, rfl, _, _, rfl, rfl, _, rfl, ?_⟩
      refine ite2 (fun h1 => ?_) (fun h1 => ?_)
      · have h1 : m < (x.length : Int) := by simpa using h1
        have k := k H (Same.refl _)
        rw [show (D.str x).fault al m = some (-1) from if_pos h1] at k
        exact ⟨_, rfl, k⟩
      · have h1 : ¬ m < (x.length : Int) := by simpa using h1
        refine ⟨_, rfl, .inr (.inr ⟨x, rfl, ?_⟩)⟩
        refine for_it walk_enumS (fun i σ H' => Iv (Same H H' ∧ (∀ k < i, ∃ c, x.cps.toList[k]? = some c ∧ c ∈ al.cps.toList) ∧ ∃ a b, σ = [some (.str al), some (.str x), some (.int m), a, b])) (.of ⟨Same.refl _, fun k hk => absurd hk (Nat.not_lt_zero _), _, _, rfl⟩) (fun _ _ _ _ _ => trivial) (fun i y σ H1 H2 hi hp hy => ?_) (fun σ H1 hp => ?_)
        · obtain ⟨s1, hb, a, b, rfl⟩ := hp.get
          obtain ⟨p, y1, y2, rfl, hp0, rfl, e1, e2⟩ := hy
          cases e1
          obtain ⟨c, hc⟩ : ∃ c, x.cps.toList[i]? = some c := ⟨_, List.getElem?_eq_getElem (by simpa using hi)⟩
          have e2 : (x.cps[i]?).map (fun c => V.str ⟨#[c]⟩) = some y2 := e2
          rw [← Array.getElem?_toList, hc] at e2
          cases e2
          refine gTup2 ⟨_, rfl, _, rfl, c, al, rfl, rfl, _, rfl, ?_⟩
          have s2 := s1.trans (Same.new (o := .tup [.int (i : Int), .str ⟨#[c]⟩]) hp0)
          refine ite2 (fun h2 => ?_) (fun h2 => ?_)
          · have e : (D.str x).fault al m = some (i : Int) := by
              rw [fault_str, if_neg h1, List.findIdx?_eq_some_iff_getElem.mpr ⟨by simpa using hi, ?_, ?_⟩]
              · rfl
              · have e3 : x.cps.toList[i]'(by simpa using hi) = c := Option.some.inj ((List.getElem?_eq_getElem _).symm.trans hc)
                rw [e3]
                exact h2
              · intro j hj
                obtain ⟨c', e', hm⟩ := hb j hj
                have e3 : x.cps.toList[j]'(by have := (show i < x.cps.toList.length by simpa using hi); omega) = c' := Option.some.inj ((List.getElem?_eq_getElem _).symm.trans e')
                rw [e3]
                simpa using hm
            have k := k _ s2
            rw [e] at k
            exact ⟨_, rfl, k⟩
          · refine .of ⟨s2, fun j hj => ?_, _, _, rfl⟩
            rcases Nat.lt_succ_iff_lt_or_eq.mp hj with hj | rfl
            · exact hb j hj
            · exact ⟨c, hc, by simpa using h2⟩
        · obtain ⟨s1, hb, a, b, rfl⟩ := hp.get
          have e : (D.str x).fault al m = none := by
            rw [fault_str, if_neg h1, List.findIdx?_eq_none_iff.mpr]
            · rfl
            · intro c hc
              obtain ⟨k, hk, e⟩ := List.mem_iff_getElem.mp hc
              obtain ⟨c', e', hm⟩ := hb k (by simpa using hk)
              rw [List.getElem?_eq_getElem hk] at e'
              cases e'
              rw [← e]
              simpa using hm
          have k := k _ s1
          rw [e] at k
          exact k
theorem scChkText : FnScope ["alphabet", "thing", "fault"] ["alphabet", "thing"] (C8.fnScope sChkText) := C8.fnScope_by (by decide +kernel)
theorem fault_small {al : Str} {d : D} {i : Int} (hx : ∀ x, d = .str x → x.length ≤ 1000) (h : d.fault al 40 = some i) : -1 ≤ i ∧ i ≤ 1000 := by
  cases d with
  | str x =>
    have hx := hx x rfl
    rw [fault_str] at h
    by_cases h40 : (40 : Int) < (x.length : Int)
    · rw [if_pos h40] at h
      cases h
      omega
    · rw [if_neg h40] at h
      cases hf : x.cps.toList.findIdx? fun c => !decide (c ∈ al.cps.toList) with
      | none => rw [hf] at h; cases h
      | some n =>
        rw [hf] at h
        have h : (n : Int) = i := Option.some.inj h
        obtain ⟨h1, _⟩ := List.findIdx?_eq_some_iff_getElem.mp hf
        have e : x.length = x.cps.toList.length := by simp [Str.length]
        omega
  | _ => cases (show some (-1 : Int) = some i from h); omega
theorem small_log {i : Int} (h : -1 ≤ i ∧ i ≤ 1000) : i.natAbs.log2 < 1920 := by
  have h1 : i.natAbs ≤ 1000 := by omega
  by_cases h0 : i.natAbs = 0
  · rw [h0]; decide
  · exact Nat.lt_trans ((Nat.log2_lt h0).mpr (Nat.lt_of_le_of_lt h1 (by decide : 1000 < 2 ^ 10))) (by decide)
theorem ok_chktext {f : Addr} {fd : FuncData} (F : C8.Def K mg "check_text" sChkText f fd) (b : Binds K fd ["alphabet", "thing"] []) (T : Txt mg) (O : Own K mg ad) (SU : Sup P w K mg ad .text) (v_TEXT_LETTERS : ∃ u, mg "TEXT_LETTERS" = some u ∧ RelV (.int 40) u) (c_text_fault : C8.Cal P w K mg base 1 "text_fault" spFault []) : CalZ ZT P w K mg base 2 "check_text" (spChkText ad) := by
  refine calZ (fun _ _ _ => trivial) F b scChkText (fun vs H Q E h => ?_) (fun cdv A outer s H vs Q E hz hr h => ?_)
  · obtain ⟨S, al, v, d, rfl, _⟩ := h
    rfl
  · obtain ⟨S, al, v, d, rfl, r, hx, k1, k2⟩ := h
    have sc := scChkText
    obtain ⟨D0, fI, arg, ok, ST, hok⟩ := SU.ex
    refine ⟨_, -- check_text: 0 alphabet 1 thing 2 fault

      (pss_cons (ps_set (i := 2) sc.nd rfl (Or.inl rfl) (C8.pe_c c_text_fault hr (by decide) rfl (pa_cons (pv 0) (pa_cons (pv 1) (pa_cons (C8.pe_gc rfl v_TEXT_LETTERS) pa_nil)))))
      (pss_one (ps_if (pt_cmp (pc_notN (pv 2))) 
        (pss_one (ps_raiseSup (okV := Er.okV .text) rfl takesG ST hok hr O.g_BadText (pa_cons (pv 2) pa_nil))) pss_nil))), ?_⟩
    refine ⟨_, rfl, _, rfl, S, al, v, d, 40, rfl, r, hx, fun H1 s1 => ?_⟩
    cases hd : d.fault al 40 with
    | none => exact ⟨_, rfl, _, rfl, iteF (k1 hd H1 s1)⟩
    | some i =>
      refine ⟨_, rfl, _, rfl, iteT ⟨_, rfl, .int i, rfl, ⟨i, rfl, small_log (fault_small hx hd)⟩, fun dd hdd => k2 i hd dd H1 s1 hdd⟩⟩
end

/-! ### checked_moves, checked_good -/
/-- a row of k rooms below n -/
def D.rowOk (k n : Nat) (d : D) : Bool := match d.seq? with
  | some ds => decide (ds.length = k) && ds.all fun e => e.inr 0 ((n : Int) - 1)
  | none => false
/-- where moves are wrong -/
def D.mvFault (k : Nat) (d : D) : Option Int := match d.seq? with
  | some ds => if 1 ≤ ds.length ∧ ds.length ≤ 60 then Option.map (fun n : Nat => (n : Int)) (ds.findIdx? fun r => !r.rowOk k ds.length) else some (-1)
  | none => some (-1)
def D.row (d : D) : D := .tup (d.seq?.getD [])
def D.norm (d : D) : D := .tup ((d.seq?.getD []).map D.row)
/-- not too long -/
def D.fit (d : D) : Prop := ∀ ds, d.seq? = some ds → ds.length ≤ 1000 ∧ ∀ r ∈ ds, ∀ rs, r.seq? = some rs → rs.length ≤ 1000
theorem listed_seq (d : D) : (d.isa "tuple" || d.isa "list") = d.seq?.isSome := by cases d <;> rfl
theorem mv_none {k : Nat} {d : D} (h : d.seq? = none) : d.mvFault k = some (-1) := by
  unfold D.mvFault
  rw [h]
theorem mv_len {k : Nat} {d : D} {ds : List D} (h : d.seq? = some ds) (hn : ¬ (1 ≤ ds.length ∧ ds.length ≤ 60)) : d.mvFault k = some (-1) := by
  unfold D.mvFault
  rw [h]
  exact if_neg hn
theorem find_at {α : Type} {p : α → Bool} {l : List α} {i : Nat} {e : α} (hb : ∀ k < i, ∃ y, l[k]? = some y ∧ p y = false) (he : l[i]? = some e) (hp : p e = true) : Option.map (fun n : Nat => (n : Int)) (l.findIdx? p) = some (i : Int) := by
  obtain ⟨hi, e1⟩ := List.getElem?_eq_some_iff.mp he
  rw [List.findIdx?_eq_some_iff_getElem.mpr ⟨hi, by rw [e1]; exact hp, fun j hj => ?_⟩]
  · rfl
  · obtain ⟨y, h1, h2⟩ := hb j hj
    obtain ⟨_, e2⟩ := List.getElem?_eq_some_iff.mp h1
    rw [e2, h2]
    decide
theorem find_no {α : Type} {p : α → Bool} {l : List α} (hb : ∀ k < l.length, ∃ y, l[k]? = some y ∧ p y = false) : Option.map (fun n : Nat => (n : Int)) (l.findIdx? p) = none := by
  rw [List.findIdx?_eq_none_iff.mpr]
  · rfl
  · intro c hc
    obtain ⟨k, hk, e⟩ := List.mem_iff_getElem.mp hc
    obtain ⟨y, h1, h2⟩ := hb k hk
    obtain ⟨_, e2⟩ := List.getElem?_eq_some_iff.mp h1
    rw [← e, e2]
    exact h2
theorem mv_at {k i : Nat} {d e : D} {ds : List D} (h : d.seq? = some ds) (hn : 1 ≤ ds.length ∧ ds.length ≤ 60) (hb : ∀ j < i, ∃ y, ds[j]? = some y ∧ y.rowOk k ds.length = true) (he : ds[i]? = some e) (hp : e.rowOk k ds.length = false) : d.mvFault k = some (i : Int) := by
  unfold D.mvFault
  rw [h]
  show (if 1 ≤ ds.length ∧ ds.length ≤ 60 then _ else _) = _
  rw [if_pos hn]
  exact find_at (fun j hj => by obtain ⟨y, h1, h2⟩ := hb j hj; exact ⟨y, h1, by rw [h2]; rfl⟩) he (by rw [hp]; rfl)
theorem mv_ok {k : Nat} {d : D} {ds : List D} (h : d.seq? = some ds) (hn : 1 ≤ ds.length ∧ ds.length ≤ 60) (hb : ∀ j < ds.length, ∃ y, ds[j]? = some y ∧ y.rowOk k ds.length = true) : d.mvFault k = none := by
  unfold D.mvFault
  rw [h]
  show (if 1 ≤ ds.length ∧ ds.length ≤ 60 then _ else _) = _
  rw [if_pos hn]
  exact find_no (fun j hj => by obtain ⟨y, h1, h2⟩ := hb j hj; exact ⟨y, h1, by rw [h2]; rfl⟩)
theorem row_none {k n : Nat} {d : D} (h : d.seq? = none) : d.rowOk k n = false := by
  unfold D.rowOk
  rw [h]
theorem row_some {k n : Nat} {d : D} {ds : List D} (h : d.seq? = some ds) : d.rowOk k n = (decide (ds.length = k) && ds.all fun e => e.inr 0 ((n : Int) - 1)) := by
  unfold D.rowOk
  rw [h]
theorem map_range {α β : Type} (l : List α) (z : α) (p : α → β) : (List.range l.length).map (fun i => p (l.getD i z)) = l.map p := by
  refine List.ext_getElem (by simp) fun i h1 h2 => ?_
  have hi : i < l.length := by simpa using h1
  simp [List.getD_eq_getElem?_getD, List.getElem?_eq_getElem hi]
/-- ints stand for themselves anywhere -/
theorem Rps.inrs {lo hi : Int} {S T : List Addr} {H H' : Hp} : ∀ {vs : List V} {ds : List D}, Rps S H vs ds → (ds.all fun e => e.inr lo hi) = true → Rps T H' vs ds
  | _, _, .nil, _ => .nil
  | _, d :: ds, .cons r t, h => by
    rw [List.all_cons, Bool.and_eq_true] at h
    refine .cons ?_ (Rps.inrs t h.2)
    cases r with
    | int i => exact .int i
    | _ => exact absurd h.1 (by simp [D.inr])
theorem all_range {α : Type} (l : List α) (z : α) (p : α → Bool) : ((List.range l.length).map fun i => p (l.getD i z)).all id = l.all p := by
  rw [Bool.eq_iff_iff, List.all_eq_true, List.all_eq_true]
  constructor
  · intro h x hx
    obtain ⟨k, hk, e⟩ := List.mem_iff_getElem.mp hx
    have := h (p (l.getD k z)) (List.mem_map.mpr ⟨k, List.mem_range.mpr hk, rfl⟩)
    rw [List.getD_eq_getElem?_getD, List.getElem?_eq_getElem hk] at this
    rw [← e]
    exact this
  · intro h x hx
    obtain ⟨k, hk, rfl⟩ := List.mem_map.mp hx
    have hk := List.mem_range.mp hk
    show p (l.getD k z) = true
    rw [List.getD_eq_getElem?_getD, List.getElem?_eq_getElem hk]
    exact h _ (List.getElem_mem hk)
abbrev sMoves : Stmt := top 27
def spMoves (ad : Ad) : Sp := fun vs H Q E => ∃ (S U : List Addr) (al : Str) (v : V) (d : D), vs = [.str al, v] ∧ Rp S H v d ∧ d.fit ∧ al.length ≤ 1000 ∧ (∀ a ∈ U, ∃ xs, H a = some (.lst xs)) ∧
  (d.mvFault al.length = none → ∀ v' H', Same H H' → Rp U H' v' d.norm → Q v' H') ∧ (∀ i, d.mvFault al.length = some i → Ex ad .moves (.int i) H E)
section
open PyProof.Rows
variable {P : Program} {w : World} {K : PySem.W.Frag} {mg : Str → Option Value} {base : Heap} {ad : Ad}
theorem scMoves : FnScope ["alphabet", "moves", "at", "row", "target"] ["alphabet", "moves"] (C8.fnScope sMoves) := C8.fnScope_by (by decide +kernel)
theorem ok_moves {f : Addr} {fd : FuncData} (F : C8.Def K mg "checked_moves" sMoves f fd) (b : Binds K fd ["alphabet", "moves"] []) (T : Txt mg) (O : Own K mg ad) (SU : Sup P w K mg ad .moves) (v_MOST_ROOMS : ∃ u, mg "MOST_ROOMS" = some u ∧ RelV (.int 60) u)
    (c_is_listed : C8.Cal P w K mg base 1 "is_listed" spListed []) (c_is_integer : C8.Cal P w K mg base 1 "is_integer" spInteger []) : CalZ ZT P w K mg base 2 "checked_moves" (spMoves ad) := by
  refine calZ (fun _ _ _ => trivial) F b scMoves (fun vs H Q E h => ?_) (fun cdv A outer s H vs Q E hz hr h => ?_)
  · obtain ⟨S, U, al, v, d, rfl, _⟩ := h
    rfl
  · obtain ⟨S, U, al, v, d, rfl, r, fit, hal, hU, k1, k2⟩ := h
    have sc := scMoves
    obtain ⟨D0, fI, arg, ok, ST, hok⟩ := SU.ex
    refine ⟨_, -- checked_moves: 0 alphabet 1 moves* 2 at 3 row 4 target

      (pss_cons (ps_if (PW.pt (pw_or (pt_not (pt_val (C8.pe_c c_is_listed hr (by decide) rfl (pa_cons (pv 1) pa_nil)))) (pw_or1 (pt_not (pt_chain op_le op_le pe_int (pe_callB (call_lenQ (K := K) rfl) (by rfl) T.len PySem.boot_len (pa_cons (pv 1) pa_nil)) (C8.pe_gc rfl v_MOST_ROOMS)))))) 
        (pss_one (ps_raiseSup (okV := Er.okV .moves) rfl takesG ST hok hr O.g_BadMoves (pa_cons (pe_un un_neg pe_int) pa_nil))) pss_nil)
      (pss_cons (ps_for passesG rfl (pi_enumW (by rfl) T.enumerate (pa_cons (pv 1) pa_nil)) (pg_tup rfl (pgs_cons (pg_name (i := 2) sc.nd rfl (Or.inl rfl)) (pgs_cons (pg_name (i := 3) sc.nd rfl (Or.inl rfl)) pgs_nil))) 
        (pss_cons (ps_if (PW.pt (pw_or (pt_not (pt_val (C8.pe_c c_is_listed hr (by decide) rfl (pa_cons (pv 3) pa_nil)))) (pw_or1 (pt_cmpR op_ne (pe_callB (call_lenQ (K := K) rfl) (by rfl) T.len PySem.boot_len (pa_cons (pv 3) pa_nil)) (pe_callB call_len_str (by rfl) T.len PySem.boot_len (pa_cons (pv 0) pa_nil)) (nomark _))))) 
          (pss_one (ps_raiseSup (okV := Er.okV .moves) rfl takesG ST hok hr O.g_BadMoves (pa_cons (pv 2) pa_nil))) pss_nil)
        (pss_one (ps_if (pt_not (pt_val (pe_callB (id := "all") (cr_all rfl) (by rfl) T.all (by decide +kernel) (pa_cons (pe_lc (own := [("target", 4)]) (g := gName 4) rfl sc.nd (pi_seqW (pv 3)) (blkOk_by (own := [("target", 4)]) (by kernel_rfl)) (fun _ _ _ _ _ => (pg_name (i := 4) sc.nd rfl (Or.inl rfl))) (fun _ _ _ _ _ => pts_nil) (fun _ _ _ _ _ => (C8.pe_c c_is_integer hr (by decide) rfl (pa_cons (pv 4) (pa_cons pe_int (pa_cons (pe_op op_sub (pe_callB (call_lenQ (K := K) rfl) (by rfl) T.len PySem.boot_len (pa_cons (pv 1) pa_nil)) pe_int) pa_nil)))))) pa_nil)))) 
          (pss_one (ps_raiseSup (okV := Er.okV .moves) rfl takesG ST hok hr O.g_BadMoves (pa_cons (pv 2) pa_nil))) pss_nil))))
      (pss_one (ps_ret (pe_callTy (T := "tuple") (call_tupQ (K := K) rfl) (by rfl) T.tuple (by decide +kernel) (pa_cons (pe_lc (own := [("row", 3)]) (g := gName 3) rfl sc.nd (pi_seqW (pv 1)) (blkOk_by (own := [("row", 3)]) (by kernel_rfl)) (fun _ _ _ _ _ => (pg_name (i := 3) sc.nd rfl (Or.inl rfl))) (fun _ _ _ _ _ => pts_nil) (fun _ _ _ _ _ => (pe_callTy (T := "tuple") (call_tupQ (K := K) rfl) (by rfl) T.tuple (by decide +kernel) (pa_cons (pv 3) pa_nil)))) pa_nil)))))), ?_⟩
    refine ⟨_, rfl, S, v, d, rfl, r, fun H1 s1 => ⟨_, rfl, ?_⟩⟩
    rw [listed_seq]
    have bad : ∀ (H1 : Hp), Same H H1 → d.mvFault al.length = some (-1) → tMkSup (Er.cls ad .moves) (Er.fld .moves) (Er.okV .moves) (tCons (tUn (rU fun i => V.int (-i)) (tC (V.int 1))) tNil) (L2.start ["alphabet", "moves", "at", "row", "target"] [V.str al, v]) H1 fun cls d H' => E cls d H' := fun H1 s1 hf =>
      ⟨1, rfl, _, rfl, ⟨-1, rfl, by decide⟩, fun dd hdd => k2 (-1) hf dd H1 s1 hdd⟩
    cases hd : d.seq? with
    | none => exact iteT (iteT (bad H1 s1 (mv_none hd)))
    | some ds =>
      obtain ⟨a0, xs, rfl, hq, rs⟩ := r.seq (K := K) hd
      have hfit := fit ds hd
      have hlen := rs.len
      refine iteF ⟨_, rfl, a0, xs, rfl, hq.same s1, _, _, rfl, rfl, _, rfl, ?_⟩
      by_cases hn : 1 ≤ ds.length ∧ ds.length ≤ 60
      · rw [decide_eq_true (show (1 : Int) ≤ (xs.length : Int) by omega)]
        refine iteT ⟨_, _, rfl, rfl, _, rfl, ?_⟩
        rw [decide_eq_true (show (xs.length : Int) ≤ 60 by omega)]
        refine iteF ⟨_, rfl, a0, xs, rfl, hq.same s1, fun J G w hG => ?_⟩
        refine for_it w (fun i σ H' => Iv (Same H1 H' ∧ (∀ k < i, ∃ e, ds[k]? = some e ∧ e.rowOk al.length ds.length = true) ∧ ∃ a b, σ = [some (.str al), some (.ref a0), a, b, none])) (.of ⟨Same.refl _, fun k hk => absurd hk (Nat.not_lt_zero _), _, _, rfl⟩) (fun i σ H2 _ hp => hG H2 hp.get.1) (fun i y σ H2 H3 hi hp hy => ?_) (fun σ H2 hp => ?_)
        · obtain ⟨s2', hb, ea, eb, rfl⟩ := hp.get
          have s2 := s1.trans s2'
          obtain ⟨p, y1, y2, rfl, hp0, rfl, e1, e2⟩ := hy
          cases e1
          obtain ⟨e, he, re⟩ := rs.item e2
          have s3 : Same H (upd H2 p (.tup [.int (i : Int), y2])) := s2.trans (Same.new hp0)
          refine gTup2 ⟨_, rfl, S, y2, e, rfl, re.same s3, fun H4 s4 => ⟨_, rfl, ?_⟩⟩
          rw [listed_seq]
          have s5 : Same H H4 := s3.trans s4
          have s5' : Same H1 H4 := (s2'.trans (Same.new hp0)).trans s4
          have hil : (i : Int) ≤ 1000 := by have := hfit.1; omega
          have bad2 : ∀ (H1 : Hp) (σ : L2.St), Same H H1 → σ[2]? = some (some (.int (i : Int))) → e.rowOk al.length ds.length = false → tMkSup (Er.cls ad .moves) (Er.fld .moves) (Er.okV .moves) (tCons (tVar 2) tNil) σ H1 fun cls d H' => E cls d H' := fun H1 σ s1 hσ hf =>
            ⟨_, hσ, _, rfl, ⟨i, rfl, small_log (by omega)⟩, fun dd hdd => k2 i (mv_at hd hn hb he hf) dd H1 s1 hdd⟩
          cases hes : e.seq? with
          | none => exact iteT (iteT (bad2 H4 _ s5 rfl (row_none hes)))
          | some es =>
            obtain ⟨a1, zs, rfl, hq1, rs1⟩ := re.seq (K := K) hes
            have hze := rs1.len
            have hef := hfit.2 e (List.mem_of_getElem? he) es hes
            refine iteF ⟨_, rfl, a1, zs, rfl, hq1.same s5, _, rfl, _, rfl, Nat.le_trans hal (by decide), rfl, _, rfl, ?_⟩
            by_cases hl : es.length = al.length
            · rw [show V.int (zs.length : Int) = V.int (al.length : Int) by rw [hze, hl], decide_eq_true rfl]
              refine iteF ?_
              refine ⟨_, rfl, a1, zs, rfl, hq1.same s5, fun J2 G2 w2 hG2 L hL => lc_F (j := 4) (Xp := fun i v => zs[i]? = some v) (fun j => .bl ((es.getD j .non).inr 0 ((ds.length : Int) - 1))) w2 (fun i H v H' _ y => y) hL (by omega) (fun H s => hG2 H s) (fun _ => rfl) (fun j v H5 hj hv s6 Kt ht => ?_) (fun ys H5 s6 e6 r6 => ?_)⟩
              · obtain ⟨ej, hej, rej⟩ := rs1.item hv
                refine ⟨_, rfl, _, rfl, a0, xs, rfl, hq.same (s5.trans s6), _, _, rfl, rfl, S, v, ej, _, _, rfl, rej.same (s5.trans s6), ht _ _ (Same.refl _) ?_⟩
                rw [List.getD_eq_getElem?_getD, hej, hlen]
                exact .bl _
              · have ey := r6.bls_eq (n := 0)
                subst ey
                refine ⟨_, _, rfl, SqL.of e6, _, rfl, ?_⟩
                rw [hze, all_range es .non fun y => y.inr 0 ((ds.length : Int) - 1)]
                have s7 := s5.trans s6
                cases hall : es.all fun y => y.inr 0 ((ds.length : Int) - 1) with
                | false =>
                  have hro : e.rowOk al.length ds.length = false := by rw [row_some hes, decide_eq_true hl, hall]; rfl
                  exact iteT (bad2 H5 _ s7 rfl hro)
                | true =>
                  have hro : e.rowOk al.length ds.length = true := by rw [row_some hes, decide_eq_true hl, hall]; rfl
                  refine iteF (.of ⟨s5'.trans s6, fun j hj => ?_, _, _, rfl⟩)
                  rcases Nat.lt_succ_iff_lt_or_eq.mp hj with hj | rfl
                  · exact hb j hj
                  · exact ⟨e, he, hro⟩
            · rw [decide_eq_false (show ¬ V.int (zs.length : Int) = V.int (al.length : Int) from fun z => hl (by have := V.int.inj z; omega))]
              exact iteT (bad2 H4 _ s5 rfl (by rw [row_some hes, decide_eq_false hl]; rfl))
        · obtain ⟨s2', hb, ea, eb, rfl⟩ := hp.get
          have s2 := s1.trans s2'
          rw [hlen] at hb
          have hok := mv_ok hd hn hb
          refine ⟨_, rfl, a0, xs, rfl, hq.same s2, fun J2 G2 w2 hG2 L hL => lc_FS (j := 3) (Xp := fun i v => xs[i]? = some v) U (fun j => D.row (ds.getD j .non)) w2 (fun i H v H' _ y => y) (fun a ha => by obtain ⟨ys, e⟩ := hU a ha; exact ⟨_, s2 _ _ e⟩) hL (by omega) (fun H s => hG2 H s) (fun _ => rfl) (fun j v H5 hj hv s6 hex Kt ht => ?_) (fun ys H5 s6 e6 r6 => ?_)⟩
          · obtain ⟨e, he, re⟩ := rs.item hv
            obtain ⟨e', he', hro⟩ := hb j (by omega)
            rw [he] at he'
            cases he'
            have s7 := s2.trans s6
            cases hes : e.seq? with
            | none => rw [row_none hes] at hro; cases hro
            | some es =>
              rw [row_some hes, Bool.and_eq_true] at hro
              have er : e.row = .tup es := by unfold D.row; rw [hes]; rfl
              have ht' : ∀ y H', Same H5 H' → Rp (L :: U) H' y e.row → Kt y H' := fun y H' s r => ht y H' s (by rw [List.getD_eq_getElem?_getD, he]; exact r)
              rw [er] at ht'
              cases re with
              | @lst a1 zs _ n1 ha rs1 =>
                cases hes
                exact ⟨_, rfl, a1, zs, rfl, .inl ⟨SqL.of (s7 _ _ ha), fun l hl => ht' _ _ (Same.new hl) (.tup (fun hm => by obtain ⟨o, e⟩ := hex l hm; rw [hl] at e; cases e) upd_same (rs1.inrs hro.2))⟩⟩
              | @tup a1 zs _ n1 ha rs1 =>
                cases hes
                refine ⟨_, rfl, a1, zs, rfl, .inr ⟨.inl (.inl (s7 _ _ ha)), ht' _ _ (Same.refl _) (.tup (fun hm => ?_) (s7 _ _ ha) (rs1.inrs hro.2))⟩⟩
                rcases List.mem_cons.mp hm with rfl | hm
                · have z := s2 _ _ ha
                  rw [hL] at z
                  cases z
                · obtain ⟨ys, e⟩ := hU a1 hm
                  rw [ha] at e
                  cases e
              | _ => cases hes
          · rw [hlen, map_range ds .non D.row] at r6
            have s7 := s2.trans s6
            refine ⟨_, _, rfl, .inl ⟨SqL.of e6, fun l hl => k1 hok _ _ (s7.trans (Same.new hl)) ?_⟩⟩
            have en : d.norm = .tup (ds.map D.row) := by unfold D.norm; rw [hd]; rfl
            rw [en]
            refine .tup (fun hm => ?_) upd_same (r6.same (Same.new hl))
            obtain ⟨ys, e⟩ := hU l hm
            have z := s7 _ _ e
            rw [hl] at z
            cases z
      · have hbad := bad H1 s1 (mv_len hd hn)
        refine ite2 (fun h1 => ?_) (fun h1 => ?_)
        · have h1 : (1 : Int) ≤ (xs.length : Int) := by simpa using h1
          refine ⟨_, _, rfl, rfl, _, rfl, ?_⟩
          rw [decide_eq_false (show ¬ ((xs.length : Int) ≤ 60) by omega)]
          exact iteT hbad
        · exact ⟨_, rfl, iteT hbad⟩
end

def D.ltI : D → D → Bool
  | .int a, .int b => decide (a < b)
  | _, _ => false
def gdOk (n : Nat) (ds : List D) (i : Nat) : Bool := (ds.getD i .non).inr 0 ((n : Int) - 1) && (decide (i = 0) || (ds.getD (i - 1) .non).ltI (ds.getD i .non))
/-- where good rooms are wrong -/
def D.gdFault (n : Nat) (d : D) : Option Int := match d.seq? with
  | some ds => Option.map (fun n : Nat => (n : Int)) ((List.range ds.length).findIdx? fun i => !gdOk n ds i)
  | none => some (-1)
theorem gd_none {n : Nat} {d : D} (h : d.seq? = none) : d.gdFault n = some (-1) := by
  unfold D.gdFault
  rw [h]
theorem gd_at {n i : Nat} {d : D} {ds : List D} (h : d.seq? = some ds) (hi : i < ds.length) (hb : ∀ j < i, gdOk n ds j = true) (hp : gdOk n ds i = false) : d.gdFault n = some (i : Int) := by
  unfold D.gdFault
  rw [h]
  exact find_at (fun j hj => ⟨j, by rw [List.getElem?_range (by omega)], by rw [hb j hj]; rfl⟩) (List.getElem?_range hi) (by rw [hp]; rfl)
theorem gd_ok {n : Nat} {d : D} {ds : List D} (h : d.seq? = some ds) (hb : ∀ j < ds.length, gdOk n ds j = true) : d.gdFault n = none := by
  unfold D.gdFault
  rw [h]
  exact find_no (fun j hj => by rw [List.length_range] at hj; exact ⟨j, by rw [List.getElem?_range hj], by rw [hb j hj]; rfl⟩)
abbrev sGood : Stmt := top 28
def spGood (ad : Ad) : Sp := fun vs H Q E => ∃ (S S0 U : List Addr) (v0 v : V) (d d0 : D) (ms : List D), vs = [v0, v] ∧ Rp S0 H v0 d0 ∧ d0.seq? = some ms ∧ ms.length ≤ 1000 ∧ Rp S H v d ∧ d.fit ∧ (∀ a ∈ U, ∃ xs, H a = some (.lst xs)) ∧
  (d.gdFault ms.length = none → ∀ v' H', Same H H' → Rp U H' v' d.row → Q v' H') ∧ (∀ i, d.gdFault ms.length = some i → Ex ad .good (.int i) H E)
section
open PyProof.Rows
variable {P : Program} {w : World} {K : PySem.W.Frag} {mg : Str → Option Value} {base : Heap} {ad : Ad}
theorem scGood : FnScope ["moves", "good", "at", "room"] ["moves", "good"] (C8.fnScope sGood) := C8.fnScope_by (by decide +kernel)
theorem ok_good {f : Addr} {fd : FuncData} (F : C8.Def K mg "checked_good" sGood f fd) (b : Binds K fd ["moves", "good"] []) (T : Txt mg) (O : Own K mg ad) (SU : Sup P w K mg ad .good)
    (c_is_listed : C8.Cal P w K mg base 1 "is_listed" spListed []) (c_is_integer : C8.Cal P w K mg base 1 "is_integer" spInteger []) : CalZ ZT P w K mg base 2 "checked_good" (spGood ad) := by
  refine calZ (fun _ _ _ => trivial) F b scGood (fun vs H Q E h => ?_) (fun cdv A outer s H vs Q E hz hr h => ?_)
  · obtain ⟨S, S0, U, v0, v, d, d0, ms, rfl, _⟩ := h
    rfl
  · obtain ⟨S, S0, U, v0, v, d, d0, ms, rfl, r0, hd0, hms, r, fit, hU, k1, k2⟩ := h
    have sc := scGood
    obtain ⟨D0, fI, arg, ok, ST, hok⟩ := SU.ex
    refine ⟨_, -- checked_good: 0 moves 1 good 2 at 3 room

      (pss_cons (ps_if (pt_not (pt_val (C8.pe_c c_is_listed hr (by decide) rfl (pa_cons (pv 1) pa_nil)))) 
        (pss_one (ps_raiseSup (okV := Er.okV .good) rfl takesG ST hok hr O.g_BadGood (pa_cons (pe_un un_neg pe_int) pa_nil))) pss_nil)
      (pss_cons (ps_for passesG rfl (pi_enumW (by rfl) T.enumerate (pa_cons (pv 1) pa_nil)) (pg_tup rfl (pgs_cons (pg_name (i := 2) sc.nd rfl (Or.inl rfl)) (pgs_cons (pg_name (i := 3) sc.nd rfl (Or.inl rfl)) pgs_nil))) 
        (pss_cons (ps_if (pt_not (pt_val (C8.pe_c c_is_integer hr (by decide) rfl (pa_cons (pv 3) (pa_cons pe_int (pa_cons (pe_op op_sub (pe_callB (call_lenQ (K := K) rfl) (by rfl) T.len PySem.boot_len (pa_cons (pv 0) pa_nil)) pe_int) pa_nil)))))) 
          (pss_one (ps_raiseSup (okV := Er.okV .good) rfl takesG ST hok hr O.g_BadGood (pa_cons (pv 2) pa_nil))) pss_nil)
        (pss_one (ps_if (PW.pt (pw_and (pt_cmpR op_gt (pv 2) pe_int (nomark _)) (pw_and1 (pt_not (pt_cmpR op_lt (pe_ix (ixQ (K := K) rfl) (pv 1) (pe_op op_sub (pv 2) pe_int) (fun _ _ => rfl)) (pv 3) (nomark _)))))) 
          (pss_one (ps_raiseSup (okV := Er.okV .good) rfl takesG ST hok hr O.g_BadGood (pa_cons (pv 2) pa_nil))) pss_nil))))
      (pss_one (ps_ret (pe_callTy (T := "tuple") (call_tupQ (K := K) rfl) (by rfl) T.tuple (by decide +kernel) (pa_cons (pv 1) pa_nil)))))), ?_⟩
    refine ⟨_, rfl, S, v, d, rfl, r, fun H1 s1 => ⟨_, rfl, ?_⟩⟩
    rw [listed_seq]
    obtain ⟨am, xm, rfl, hqm, rm⟩ := r0.seq (K := K) hd0
    have hlm := rm.len
    cases hd : d.seq? with
    | none => exact iteT ⟨1, rfl, _, rfl, ⟨-1, rfl, by decide⟩, fun dd hdd => k2 (-1) (gd_none hd) dd H1 s1 hdd⟩
    | some ds =>
      obtain ⟨a0, xs, rfl, hq, rs⟩ := r.seq (K := K) hd
      have hfit := fit ds hd
      have hlen := rs.len
      refine iteF ⟨_, rfl, a0, xs, rfl, hq.same s1, fun J G w hG => ?_⟩
      refine for_it w (fun i σ H' => Iv (Same H1 H' ∧ (∀ k < i, gdOk ms.length ds k = true) ∧ ∃ a b, σ = [some (.ref am), some (.ref a0), a, b])) (.of ⟨Same.refl _, fun k hk => absurd hk (Nat.not_lt_zero _), _, _, rfl⟩) (fun i σ H2 _ hp => hG H2 hp.get.1) (fun i y σ H2 H3 hi hp hy => ?_) (fun σ H2 hp => ?_)
      · obtain ⟨s2', hb, ea, eb, rfl⟩ := hp.get
        have s2 := s1.trans s2'
        obtain ⟨p, y1, y2, rfl, hp0, rfl, e1, e2⟩ := hy
        cases e1
        obtain ⟨e, he, re⟩ := rs.item e2
        have hie : ds.getD i .non = e := by rw [List.getD_eq_getElem?_getD, he]; rfl
        have hid : i < ds.length := by omega
        have s3 : Same H (upd H2 p (.tup [.int (i : Int), y2])) := s2.trans (Same.new hp0)
        have s3' : Same H1 (upd H2 p (.tup [.int (i : Int), y2])) := s2'.trans (Same.new hp0)
        have hil : (i : Int) ≤ 1000 := by have := hfit.1; omega
        have bad2 : ∀ (H1 : Hp) (σ : L2.St), Same H H1 → σ[2]? = some (some (.int (i : Int))) → gdOk ms.length ds i = false → tMkSup (Er.cls ad .good) (Er.fld .good) (Er.okV .good) (tCons (tVar 2) tNil) σ H1 fun cls d H' => E cls d H' := fun H1 σ s1 hσ hf =>
          ⟨_, hσ, _, rfl, ⟨i, rfl, small_log (by omega)⟩, fun dd hdd => k2 i (gd_at hd hid hb hf) dd H1 s1 hdd⟩
        refine gTup2 ⟨_, rfl, _, rfl, am, xm, rfl, hqm.same s3, _, _, rfl, rfl, S, y2, e, _, _, rfl, re.same s3, _, rfl, ?_⟩
        rw [hlm]
        cases hin : e.inr 0 ((ms.length : Int) - 1) with
        | false => exact iteT (bad2 _ _ s3 rfl (by unfold gdOk; rw [hie, hin]; rfl))
        | true =>
          refine iteF ⟨_, rfl, _, _, rfl, rfl, _, rfl, ?_⟩
          obtain ⟨z, rfl⟩ : ∃ z, e = .int z := by cases e <;> first | exact ⟨_, rfl⟩ | (simp [D.inr] at hin)
          cases re
          by_cases h0 : i = 0
          · subst h0
            refine iteF (iteF (.of ⟨s3', fun j hj => ?_, _, _, rfl⟩))
            obtain rfl : j = 0 := by omega
            unfold gdOk
            rw [hie, hin]
            rfl
          · rw [decide_eq_true (show (0 : Int) < (i : Int) by omega)]
            have hprev := hb (i - 1) (by omega)
            unfold gdOk at hprev
            rw [Bool.and_eq_true] at hprev
            obtain ⟨z', hz'⟩ : ∃ z, ds.getD (i - 1) .non = .int z := by
              have h1 := hprev.1
              cases hq : ds.getD (i - 1) .non <;> first | exact ⟨_, rfl⟩ | (rw [hq] at h1; simp [D.inr] at h1)
            have hx : ds[i - 1]? = some (.int z') := by
              rw [List.getD_eq_getElem?_getD] at hz'
              rw [List.getElem?_eq_getElem (show i - 1 < ds.length by omega)] at hz' ⊢
              exact congrArg some hz'
            obtain ⟨u, hu, ru⟩ := rs.get hx
            cases ru
            have ha : atI xs ((i : Int) - 1) = some (V.int z') := by rw [show (i : Int) - 1 = ((i - 1 : Nat) : Int) by omega]; exact atI_nat hu
            refine iteT ⟨_, rfl, _, rfl, _, _, rfl, rfl, a0, xs, _, _, rfl, rfl, hq.same s3, ha, _, rfl, _, _, rfl, rfl, _, rfl, ?_⟩
            have ho : gdOk ms.length ds i = decide (z' < z) := by
              unfold gdOk
              rw [hie, hin, hz', decide_eq_false h0]
              rfl
            by_cases hlt : z' < z
            · rw [decide_eq_true hlt] at ho ⊢
              refine iteF (.of ⟨s3', fun j hj => ?_, _, _, rfl⟩)
              rcases Nat.lt_succ_iff_lt_or_eq.mp hj with hj | rfl
              · exact hb j hj
              · exact ho
            · rw [decide_eq_false hlt] at ho ⊢
              exact iteT (bad2 _ _ s3 rfl ho)
      · obtain ⟨s2', hb, ea, eb, rfl⟩ := hp.get
        rw [hlen] at hb
        have hok := gd_ok hd hb
        have s2 := s1.trans s2'
        have hall : (ds.all fun e => e.inr 0 ((ms.length : Int) - 1)) = true := by
          rw [List.all_eq_true]
          intro e he
          obtain ⟨k, hk, rfl⟩ := List.mem_iff_getElem.mp he
          have h1 := hb k hk
          unfold gdOk at h1
          rw [Bool.and_eq_true, List.getD_eq_getElem?_getD, List.getElem?_eq_getElem hk] at h1
          exact h1.1
        have er : d.row = .tup ds := by unfold D.row; rw [hd]; rfl
        rw [er] at k1
        cases r with
        | @lst a1 zs _ n1 ha rs1 =>
          cases hd
          refine ⟨_, rfl, _, zs, rfl, .inl ⟨SqL.of (s2 _ _ ha), fun l hl => k1 hok _ _ (s2.trans (Same.new hl)) (.tup (fun hm => ?_) upd_same (rs1.inrs hall))⟩⟩
          obtain ⟨ys, e⟩ := hU l hm
          have z := s2 _ _ e
          rw [hl] at z
          cases z
        | @tup a1 zs _ n1 ha rs1 =>
          cases hd
          refine ⟨_, rfl, _, zs, rfl, .inr ⟨.inl (.inl (s2 _ _ ha)), k1 hok _ _ s2 (.tup (fun hm => ?_) (s2 _ _ ha) (rs1.inrs hall))⟩⟩
          obtain ⟨ys, e⟩ := hU a0 hm
          rw [ha] at e
          cases e
        | dct n1 ha => cases hd
end

/-! ### Reader.__init__ -/
/-- what the written part says of Reader -/
structure RdC (K : PySem.W.Frag) (C : Addr) : Prop where
  cl : Cls K C
  n1 : NoAttr K C "alphabet"
  n2 : NoAttr K C "moves"
  n3 : NoAttr K C "good"
abbrev sInit : Stmt := sub 29 0
/-- an error e, all but the object x kept -/
def Exk (ad : Ad) (e : Er) (v : V) (x : Addr) (H : Hp) (E : XK) : Prop := ∀ (dd : Addr) (H' : Hp), Keep [x] H H' → H' dd = none → E (.ref (e.cls ad)) (some dd) (upd H' dd (.xd [(e.fld, v)]))
def rdF (va vm vg : V) : List (Str × V) := [("alphabet", va), ("moves", vm), ("good", vg)]
/-- making a Reader of da, dm, dg: what is made (apart from U), or which error -/
def spInit (K : PySem.W.Frag) (ad : Ad) : Sp := fun vs H Q E => ∃ (S U : List Addr) (x dx : Addr) (va vm vg : V) (da dm dg : D), vs = [.ref x, va, vm, vg] ∧ H x = some (.ins ad.Reader dx []) ∧ x ∉ U ∧ Rp S H va da ∧ Rp S H vm dm ∧ Rp S H vg dg ∧
  (∀ z, da = .str z → z.length ≤ 1000) ∧ dm.fit ∧ dg.fit ∧ (∀ a ∈ U, ∃ xs, H a = some (.lst xs)) ∧
  (da.alOk = false → Exk ad .alphabet va x H E) ∧
  (∀ al, da = .str al → alOk al = true → ∀ i, dm.mvFault al.length = some i → Exk ad .moves (.int i) x H E) ∧
  (∀ al ms, da = .str al → alOk al = true → dm.mvFault al.length = none → dm.seq? = some ms →
    (∀ i, dg.gdFault ms.length = some i → Exk ad .good (.int i) x H E) ∧
    (dg.gdFault ms.length = none → ∀ vm' vg' H', Keep [x] H H' → H' x = some (.ins ad.Reader dx (rdF va vm' vg')) → Rp U H' vm' dm.norm → Rp U H' vg' dg.row → Q .non H'))
section
open PyProof.Rows
variable {P : Program} {w : World} {K : PySem.W.Frag} {mg : Str → Option Value} {base : Heap} {ad : Ad}
theorem scInit : FnScope ["self", "alphabet", "moves", "good"] ["self", "alphabet", "moves", "good"] (C8.fnScope sInit) := C8.fnScope_by (by decide +kernel)
theorem ok_init {f : Addr} {fd : FuncData} (M : Mk K ad.Reader f) (R : RdC K ad.Reader) (F : C8.Fun K "__init__" "Reader.__init__" sInit f fd) (b : Binds K fd ["self", "alphabet", "moves", "good"] []) (T : Txt mg) (O : Own K mg ad)
    (c_check_alphabet : CalZ ZT P w K mg base 2 "check_alphabet" (spChkAl ad)) (c_checked_moves : CalZ ZT P w K mg base 2 "checked_moves" (spMoves ad)) (c_checked_good : CalZ ZT P w K mg base 2 "checked_good" (spGood ad)) : MakZ P w K mg base 3 "Reader" ad.Reader (spInit K ad) := by
  refine makZ M O.g_Reader F b scInit (fun vs H Q E h => ?_) (fun cdv A outer s H vs Q E hr h => ?_)
  · obtain ⟨S, U, x, dx, va, vm, vg, da, dm, dg, rfl, _⟩ := h
    rfl
  · obtain ⟨S, U, x, dx, va, vm, vg, da, dm, dg, rfl, hx, hxU, ra, rm, rg, hz, fm, fg, hU, k1, k2, k3⟩ := h
    have sc := scInit
    have pw := passW (takesG (P := P) (w := w) (K := K) (mg := mg) (base := base) (N := ["self", "alphabet", "moves", "good"]) (qual := "Reader.__init__") (scope := C8.fnScope sInit) (f := f) (cd := cdv) (A := A) (outer := outer) (s := s) (H := H) (E := E))
    refine ⟨_, -- Reader.__init__: 0 self 1 alphabet 2 moves 3 good

      (pss_cons (ps_expr (pe_z (E := WE (fun cls d _ H => E cls d H)) c_check_alphabet trivial hr (by decide) rfl pw (pa_cons (pv 1) pa_nil)))
      (pss_cons (ps_fld (pv 0) (pv 1) rfl)
      (pss_cons (ps_fld (pv 0) (pe_z (E := WE (fun cls d _ H => E cls d H)) c_checked_moves trivial hr (by decide) rfl pw (pa_cons (pv 1) (pa_cons (pv 2) pa_nil))) rfl)
      (pss_one (ps_fld (pv 0) (pe_z (E := WE (fun cls d _ H => E cls d H)) c_checked_good trivial hr (by decide) rfl pw (pa_cons (pe_fldK (K := K) rfl (pv 0)) (pa_cons (pv 3) pa_nil))) rfl))))), ?_⟩
    refine ⟨_, rfl, S, va, da, rfl, ra, hz, fun hal H1 s1 => ?_, fun hal dd H' s hdd => k1 hal dd H' (Keep.same s) hdd⟩
    obtain ⟨al, rfl⟩ : ∃ al, da = .str al := by cases da <;> first | exact ⟨_, rfl⟩ | (cases (show false = true from hal))
    cases ra
    have hal : alOk al = true := hal
    have hza := hz al rfl
    have e1 := s1 _ _ hx
    refine ⟨_, rfl, _, rfl, x, ad.Reader, dx, _, rfl, e1, R.cl, R.n1, by show 0 < 1000; decide, ?_⟩
    have h2 : Keep [x] H (upd H1 x (.ins ad.Reader dx (putF "alphabet" (.str al) []))) := (Keep.same s1).trans (Keep.at1 (by simp))
    generalize hH2 : upd H1 x (.ins ad.Reader dx (putF "alphabet" (.str al) [])) = H2 at h2
    have e2 : H2 x = some (.ins ad.Reader dx (putF "alphabet" (.str al) [])) := by rw [← hH2]; exact upd_same
    clear hH2
    have kx : ∀ {H' : Hp} {T : List Addr}, Keep [x] H H' → Keep (x :: T) H H' := fun k b o hb e => k b o (fun hm => hb (List.mem_cons.mpr (.inl (List.mem_singleton.mp hm)))) e
    have rm2 := (rm.off hx).keep (kx h2)
    have lst : ∀ {H' : Hp}, Keep [x] H H' → ∀ a ∈ U, ∃ xs, H' a = some (.lst xs) := fun k a ha => by
      obtain ⟨xs, e⟩ := hU a ha
      exact ⟨xs, k a _ (fun hm => hxU (by rw [← List.mem_singleton.mp hm]; exact ha)) e⟩
    refine ⟨_, rfl, _, rfl, x :: S, U, al, vm, dm, rfl, rm2, fm, hza, lst h2, fun hmv vm' H3 s3 r3 => ?_, fun i hi dd H' s hdd => k2 al rfl hal i hi dd H' (h2.trans (Keep.same s)) hdd⟩
    have h3 := h2.trans (Keep.same s3)
    have e3 := s3 _ _ e2
    refine ⟨_, rfl, x, ad.Reader, dx, _, rfl, e3, R.cl, R.n2, by show 1 < 1000; decide, ?_⟩
    obtain ⟨ms, hms⟩ : ∃ ms, dm.seq? = some ms := by
      cases hq : dm.seq? with
      | some ms => exact ⟨ms, rfl⟩
      | none => rw [mv_none hq] at hmv; cases hmv
    obtain ⟨k4, k5⟩ := k3 al ms rfl hal hmv hms
    have r3' := r3.off e3
    have h4 : Keep [x] H (upd H3 x (.ins ad.Reader dx (putF "moves" vm' (putF "alphabet" (.str al) [])))) := h3.trans (Keep.at1 (by simp))
    have k34 : Keep (x :: U) H3 (upd H3 x (.ins ad.Reader dx (putF "moves" vm' (putF "alphabet" (.str al) [])))) := Keep.at1 (by simp)
    generalize hH4 : upd H3 x (.ins ad.Reader dx (putF "moves" vm' (putF "alphabet" (.str al) []))) = H4 at h4 k34
    have e4 : H4 x = some (.ins ad.Reader dx (putF "moves" vm' (putF "alphabet" (.str al) []))) := by rw [← hH4]; exact upd_same
    clear hH4
    have r4 := r3'.keep k34
    have en : dm.norm.seq? = some (ms.map D.row) := by unfold D.norm; rw [hms]; rfl
    have hml : (ms.map D.row).length = ms.length := by simp
    refine ⟨_, rfl, x, ad.Reader, dx, _, vm', rfl, e4, R.cl, R.n2, ?_, _, rfl, x :: S, x :: U, U, vm', vg, dg, dm.norm, ms.map D.row, rfl, r4, en, by rw [hml]; exact (fm ms hms).1, (rg.off hx).keep (kx h4), fg, lst h4, ?_⟩
    · rw [lookup_putF, if_pos rfl]
    rw [hml]
    refine ⟨fun hgd vg' H5 s5 r5 => ?_, fun i hi dd H' s hdd => k4 i hi dd H' (h4.trans (Keep.same s)) hdd⟩
    have e5 := s5 _ _ e4
    refine ⟨_, rfl, x, ad.Reader, dx, _, rfl, e5, R.cl, R.n3, by show 2 < 1000; decide, ?_⟩
    refine k5 hgd vm' vg' _ ((h4.trans (Keep.same s5)).trans (Keep.at1 (by simp))) upd_same ?_ ?_
    · exact ((r4.same s5).keep (Keep.at1 (by simp))).less fun a ha => List.mem_cons_of_mem _ ha
    · exact ((r5.off e5).keep (Keep.at1 (by simp))).less fun a ha => List.mem_cons_of_mem _ ha
end

/-! ### a reader as it stands; room_of, _law_room -/
structure RdAt (ad : Ad) (U : List Addr) (H : Hp) (x : Addr) (al : Str) (mv : List (List Int)) (g : List Int) : Prop where
  ex : ∃ dx vm vg, H x = some (.ins ad.Reader dx (rdF (.str al) vm vg)) ∧ Rp U H vm (mvT mv) ∧ Rp U H vg (rowT g)
  mach : Mach al.length mv g
theorem RdAt.keep {ad : Ad} {U : List Addr} {H H' : Hp} {x : Addr} {al : Str} {mv : List (List Int)} {g : List Int} (r : RdAt ad U H x al mv g) (k : Keep U H H') (hx : x ∉ U) : RdAt ad U H' x al mv g := by
  obtain ⟨⟨dx, vm, vg, e, rm, rg⟩, M⟩ := r
  exact ⟨⟨dx, vm, vg, k _ _ hx e, rm.keep k, rg.keep k⟩, M⟩
theorem RdAt.same {ad : Ad} {U : List Addr} {H H' : Hp} {x : Addr} {al : Str} {mv : List (List Int)} {g : List Int} (r : RdAt ad U H x al mv g) (s : Same H H') : RdAt ad U H' x al mv g := by
  obtain ⟨⟨dx, vm, vg, e, rm, rg⟩, M⟩ := r
  exact ⟨⟨dx, vm, vg, s _ _ e, rm.same s, rg.same s⟩, M⟩
abbrev sRoomOf : Stmt := top 30
abbrev sLawRoom : Stmt := top 41
def spRoomOf (ad : Ad) : Sp := fun vs H Q _ => ∃ (U : List Addr) (x : Addr) (al t : Str) (mv : List (List Int)) (g : List Int), vs = [.ref x, .str t] ∧ RdAt ad U H x al mv g ∧ Over al t ∧ al.length ≤ 1000 ∧ Q (.int (roomF al mv t.cps.toList)) H
def spLawRoom : Sp := fun vs H Q _ => ∃ (U : List Addr) (v : V) (al t : Str) (mv : List (List Int)) (g : List Int), vs = [.str al, v, .str t] ∧ Rp U H v (mvT mv) ∧ Mach al.length mv g ∧ Over al t ∧ al.length ≤ 1000 ∧ Q (.int (roomF al mv t.cps.toList)) H
/-- moves[p][k] -/
theorem cell_at {K : PySem.W.Frag} {U : List Addr} {H : Hp} {v : V} {mv : List (List Int)} {p : Int} {r : List Int} {k : Nat} {z : Int} (r0 : Rp U H v (mvT mv)) (h0 : 0 ≤ p) (hr : mv[p.toNat]? = some r) (hz : r[k]? = some z) :
    ∃ a xs b ys, v = .ref a ∧ SqQ K H a xs ∧ atI xs p = some (.ref b) ∧ SqQ K H b ys ∧ atI ys (k : Int) = some (.int z) := by
  obtain ⟨a, xs, rfl, _, ha, rs⟩ := r0.tupItem
  obtain ⟨u, hu, ru⟩ := rs.get (i := p.toNat) (d := rowT r) (by rw [List.getElem?_map, hr]; rfl)
  obtain ⟨b, ys, rfl, _, hb, rs2⟩ := ru.tupItem
  obtain ⟨y, hy, ry⟩ := rs2.get (i := k) (d := .int z) (by rw [List.getElem?_map, hz]; rfl)
  cases ry
  refine ⟨a, xs, b, ys, rfl, .inr (.inl (.inl ha)), ?_, .inr (.inl (.inl hb)), atI_nat hy⟩
  rw [show p = ((p.toNat : Nat) : Int) by omega]
  exact atI_nat hu
section
open PyProof.Rows
variable {P : Program} {w : World} {K : PySem.W.Frag} {mg : Str → Option Value} {base : Heap} {ad : Ad}
theorem scRoomOf : FnScope ["reader", "text", "place", "letter"] ["reader", "text"] (C8.fnScope sRoomOf) := C8.fnScope_by (by decide +kernel)
theorem ok_roomof {f : Addr} {fd : FuncData} (F : C8.Def K mg "room_of" sRoomOf f fd) (b : Binds K fd ["reader", "text"] []) (T : Txt mg) (R : RdC K ad.Reader) : C8.Cal P w K mg base 1 "room_of" (spRoomOf ad) [] := by
  refine C8.cal0 F b .nil scRoomOf (fun vs H Q E h => ?_) (fun cdv A outer s H vs Q E hr h => ?_)
  · obtain ⟨U, x, al, t, mv, g, rfl, _⟩ := h
    rfl
  · obtain ⟨U, x, al, t, mv, g, rfl, hx, ho, hal, k⟩ := h
    have sc := scRoomOf
    obtain ⟨⟨dx, vm, vg, ex, rm, rg⟩, M⟩ := hx
    refine ⟨_, -- room_of: 0 reader 1 text 2 place 3 letter

      (pss_cons (ps_set (i := 2) sc.nd rfl (Or.inl rfl) pe_int)
      (pss_cons (ps_for PassesOwn.never rfl (pi_str (pv 1)) (pg_name (i := 3) sc.nd rfl (Or.inl rfl)) 
        (pss_one (ps_set (i := 2) sc.nd rfl (Or.inl rfl) (pe_ix (ixQ (K := K) rfl) (pe_ix (ixQ (K := K) rfl) (pe_fldK (K := K) rfl (pv 0)) (pv 2) (fun _ _ => rfl)) (pe_bm PySem.F.plainAttrs_str PySem.F.slot_str_index PySem.F.type_str_index mt_sindex (pe_fldK (K := K) rfl (pv 0)) (pa_cons (pv 3) pa_nil)) (fun _ _ => rfl)))))
      (pss_one (ps_ret (pv 2))))), ?_⟩
    refine ⟨_, rfl, t, rfl, ?_⟩
    refine for_it walk_str (fun i σ H' => Iv (H' = H ∧ (0 ≤ roomF al mv (t.cps.toList.take i) ∧ roomF al mv (t.cps.toList.take i) < (mv.length : Int)) ∧ ∃ b, σ = [some (.ref x), some (.str t), some (.int (roomF al mv (t.cps.toList.take i))), b])) (.of ⟨rfl, ⟨Int.le_refl 0, by have := M.pos; show (0 : Int) < _; omega⟩, _, rfl⟩) (fun _ _ _ _ _ => trivial) (fun i y σ H2 H3 hi hp hy => ?_) (fun σ H2 hp => ?_)
    · obtain ⟨rfl, ⟨h0, h1⟩, eb, rfl⟩ := hp.get
      obtain ⟨rfl, c, hc, rfl⟩ := hy
      rw [← Array.getElem?_toList] at hc
      have hm : c ∈ al.cps.toList := ho c (List.mem_of_getElem? hc)
      obtain ⟨rest, hocc, _⟩ := sIdx_at hm
      obtain ⟨r, hr1, hr2, hr3⟩ := step_in M h0 h1 hm
      obtain ⟨a, xs, b2, ys, rfl, hq, ha, hq2, hb⟩ := cell_at (K := K) rm h0 hr1 hr2
      refine ⟨_, rfl, x, ad.Reader, dx, _, _, rfl, ex, R.cl, R.n2, rfl, _, rfl, a, xs, _, _, rfl, rfl, hq, ha, ?_⟩
      refine ⟨_, rfl, x, ad.Reader, dx, _, _, rfl, ex, R.cl, R.n1, rfl, rfl, _, rfl, al, _, _, rest, rfl, rfl, hocc, ?_⟩
      refine ⟨b2, ys, _, _, rfl, rfl, hq2, hb, .of ?_⟩
      rw [take_snoc hc, roomF_snoc]
      exact ⟨rfl, hr3, _, rfl⟩
    · obtain ⟨rfl, _, eb, rfl⟩ := hp.get
      rw [show t.cps.size = t.cps.toList.length by simp, List.take_length]
      exact ⟨_, rfl, k⟩
theorem scLawRoom : FnScope ["alphabet", "moves", "text", "room", "letter"] ["alphabet", "moves", "text"] (C8.fnScope sLawRoom) := C8.fnScope_by (by decide +kernel)
theorem ok_lawroom {f : Addr} {fd : FuncData} (F : C8.Def K mg "_law_room" sLawRoom f fd) (b : Binds K fd ["alphabet", "moves", "text"] []) (T : Txt mg) : C8.Cal P w K mg base 1 "_law_room" spLawRoom [] := by
  refine C8.cal0 F b .nil scLawRoom (fun vs H Q E h => ?_) (fun cdv A outer s H vs Q E hr h => ?_)
  · obtain ⟨U, v, al, t, mv, g, rfl, _⟩ := h
    rfl
  · obtain ⟨U, v, al, t, mv, g, rfl, rm, M, ho, hal, k⟩ := h
    have sc := scLawRoom
    refine ⟨_, -- _law_room: 0 alphabet 1 moves 2 text 3 room 4 letter

      (pss_cons (ps_set (i := 3) sc.nd rfl (Or.inl rfl) pe_int)
      (pss_cons (ps_for PassesOwn.never rfl (pi_str (pv 2)) (pg_name (i := 4) sc.nd rfl (Or.inl rfl)) 
        (pss_one (ps_set (i := 3) sc.nd rfl (Or.inl rfl) (pe_ix (ixQ (K := K) rfl) (pe_ix (ixQ (K := K) rfl) (pv 1) (pv 3) (fun _ _ => rfl)) (pe_bm PySem.F.plainAttrs_str PySem.F.slot_str_index PySem.F.type_str_index mt_sindex (pv 0) (pa_cons (pv 4) pa_nil)) (fun _ _ => rfl)))))
      (pss_one (ps_ret (pv 3))))), ?_⟩
    refine ⟨_, rfl, t, rfl, ?_⟩
    refine for_it walk_str (fun i σ H' => Iv (H' = H ∧ (0 ≤ roomF al mv (t.cps.toList.take i) ∧ roomF al mv (t.cps.toList.take i) < (mv.length : Int)) ∧ ∃ b, σ = [some (.str al), some v, some (.str t), some (.int (roomF al mv (t.cps.toList.take i))), b])) (.of ⟨rfl, ⟨Int.le_refl 0, by have := M.pos; show (0 : Int) < _; omega⟩, _, rfl⟩) (fun _ _ _ _ _ => trivial) (fun i y σ H2 H3 hi hp hy => ?_) (fun σ H2 hp => ?_)
    · obtain ⟨rfl, ⟨h0, h1⟩, eb, rfl⟩ := hp.get
      obtain ⟨rfl, c, hc, rfl⟩ := hy
      rw [← Array.getElem?_toList] at hc
      have hm : c ∈ al.cps.toList := ho c (List.mem_of_getElem? hc)
      obtain ⟨rest, hocc, _⟩ := sIdx_at hm
      obtain ⟨r, hr1, hr2, hr3⟩ := step_in M h0 h1 hm
      obtain ⟨a, xs, b2, ys, rfl, hq, ha, hq2, hb⟩ := cell_at (K := K) rm h0 hr1 hr2
      refine ⟨_, rfl, _, rfl, a, xs, _, _, rfl, rfl, hq, ha, ?_⟩
      refine ⟨_, rfl, rfl, _, rfl, al, _, _, rest, rfl, rfl, hocc, ?_⟩
      refine ⟨b2, ys, _, _, rfl, rfl, hq2, hb, .of ?_⟩
      rw [take_snoc hc, roomF_snoc]
      exact ⟨rfl, hr3, _, rfl⟩
    · obtain ⟨rfl, _, eb, rfl⟩ := hp.get
      rw [show t.cps.size = t.cps.toList.length by simp, List.take_length]
      exact ⟨_, rfl, k⟩
end

/-! ### Reader's methods -/
abbrev sRoom : Stmt := sub 29 3
abbrev sContains : Stmt := sub 29 4
abbrev sLen : Stmt := sub 29 5
abbrev sEq : Stmt := sub 29 6
def spRoom (ad : Ad) : Sp := fun vs H Q E => ∃ (S U : List Addr) (x : Addr) (al : Str) (mv : List (List Int)) (g : List Int) (v : V) (d : D), vs = [.ref x, v] ∧ RdAt ad U H x al mv g ∧ al.length ≤ 1000 ∧ Rp S H v d ∧ (∀ x, d = .str x → x.length ≤ 1000) ∧
  (∀ t, d = .str t → d.fault al 40 = none → ∀ H', Same H H' → Q (.int (roomF al mv t.cps.toList)) H') ∧ (∀ i, d.fault al 40 = some i → Ex ad .text (.int i) H E)
def spContains (ad : Ad) : Sp := fun vs H Q E => ∃ (S U : List Addr) (x : Addr) (al : Str) (mv : List (List Int)) (g : List Int) (v : V) (d : D), vs = [.ref x, v] ∧ RdAt ad U H x al mv g ∧ al.length ≤ 1000 ∧ Rp S H v d ∧ (∀ x, d = .str x → x.length ≤ 1000) ∧
  (∀ t, d = .str t → d.fault al 40 = none → ∀ H', Same H H' → Q (.bl (decide (roomF al mv t.cps.toList ∈ g))) H') ∧ (∀ i, d.fault al 40 = some i → Ex ad .text (.int i) H E)
def spLen (ad : Ad) : Sp := fun vs H Q _ => ∃ (U : List Addr) (x : Addr) (al : Str) (mv : List (List Int)) (g : List Int), vs = [.ref x] ∧ RdAt ad U H x al mv g ∧ Q (.int mv.length) H
/-- with another reader; with a thing of another type -/
def spEqR (K : PySem.W.Frag) (ad : Ad) : Sp := fun vs H Q _ => ∃ (U : List Addr) (x : Addr) (al : Str) (mv : List (List Int)) (g : List Int) (y : V), vs = [.ref x, y] ∧ RdAt ad U H x al mv g ∧
  ((∃ (U2 : List Addr) (x2 : Addr) (al2 : Str) (mv2 : List (List Int)) (g2 : List Int), y = .ref x2 ∧ RdAt ad U2 H x2 al2 mv2 g2 ∧ Q (.bl (decide (al = al2 ∧ mv = mv2 ∧ g = g2))) H) ∨
    ∃ t, TyX K H y t ∧ PySem.W.kitOne K t (.ref ad.Reader) = some false ∧ Q (.bl false) H)
theorem fault_over {al t : Str} (h : (D.str t).fault al 40 = none) : Over al t := by
  rw [fault_str] at h
  by_cases h40 : (40 : Int) < (t.length : Int)
  · rw [if_pos h40] at h
    cases h
  · rw [if_neg h40] at h
    cases hf : t.cps.toList.findIdx? fun c => !decide (c ∈ al.cps.toList) with
    | some n => rw [hf] at h; cases h
    | none =>
      intro c hc
      have z := List.findIdx?_eq_none_iff.mp hf c hc
      simpa using z
theorem fault_str_of {al : Str} {d : D} (h : d.fault al 40 = none) : ∃ t, d = .str t := by
  cases d with
  | str t => exact ⟨t, rfl⟩
  | _ => cases h
/-- what isinstance asks of Reader's instances -/
structure RdI (K : PySem.W.Frag) (C : Addr) : Prop where
  ha : PySem.W.findIn K (.ref C) "__class__" = some (some (.builtin "object.__class__"))
  hn : PySem.W.specialIn K (.builtin "object.__class__") "__get__" = some (some (.builtin "getset_descriptor.__get__"))
  ht : PySem.W.takesIn K (.builtin "object.__class__") = some true
  hm : PySem.W.mroIn K C (.type "object") = some true
  self : PySem.W.kitOne K (.ref C) (.ref C) = some true
theorem RdAt.ty {K : PySem.W.Frag} {ad : Ad} {U : List Addr} {H : Hp} {x : Addr} {al : Str} {mv : List (List Int)} {g : List Int} (r : RdAt ad U H x al mv g) (R : RdC K ad.Reader) (I : RdI K ad.Reader) : TyX K H (.ref x) (.ref ad.Reader) := by
  obtain ⟨⟨dx, vm, vg, e, rm, rg⟩, M⟩ := r
  exact .base (.ins e R.cl I.ha I.hn I.ht I.hm)
section
open PyProof.Rows
variable {P : Program} {w : World} {K : PySem.W.Frag} {mg : Str → Option Value} {base : Heap} {ad : Ad}
theorem scRoom : FnScope ["self", "text"] ["self", "text"] (C8.fnScope sRoom) := C8.fnScope_by (by decide +kernel)
theorem ok_room {f : Addr} {fd : FuncData} (R : RdC K ad.Reader) (me : Meth K ad.Reader "room" f) (F : C8.Fun K "room" "Reader.room" sRoom f fd) (b : Binds K fd ["self", "text"] []) (T : Txt mg)
    (c_check_text : CalZ ZT P w K mg base 2 "check_text" (spChkText ad)) (c_room_of : C8.Cal P w K mg base 1 "room_of" (spRoomOf ad) []) : MetZ P w K mg base 3 ad.Reader "room" (spRoom ad) := by
  refine metZ R.cl me F b scRoom (fun vs H Q E h => ?_) (fun cdv A outer s H vs Q E hr h => ?_)
  · obtain ⟨S, U, x, al, mv, g, v, d, rfl, _⟩ := h
    rfl
  · obtain ⟨S, U, x, al, mv, g, v, d, rfl, hx, hal, rd, hz, k1, k2⟩ := h
    have sc := scRoom
    have pw := passW (takesG (P := P) (w := w) (K := K) (mg := mg) (base := base) (N := ["self", "text"]) (qual := "Reader.room") (scope := C8.fnScope sRoom) (f := f) (cd := cdv) (A := A) (outer := outer) (s := s) (H := H) (E := E))
    obtain ⟨dx, vm, vg, ex, rm, rg⟩ := hx.ex
    refine ⟨_, -- Reader.room: 0 self 1 text

      (pss_cons (ps_expr (pe_z (E := WE (fun cls d _ H => E cls d H)) c_check_text trivial hr (by decide) rfl pw (pa_cons (pe_fldK (K := K) rfl (pv 0)) (pa_cons (pv 1) pa_nil))))
      (pss_one (ps_ret (C8.pe_c c_room_of hr (by decide) rfl (pa_cons (pv 0) (pa_cons (pv 1) pa_nil)))))), ?_⟩
    refine ⟨_, rfl, x, ad.Reader, dx, _, _, rfl, ex, R.cl, R.n1, rfl, _, rfl, S, al, v, d, rfl, rd, hz, fun hf H1 s1 => ?_, fun i hi dd H' s hdd => k2 i hi dd H' s hdd⟩
    obtain ⟨t, rfl⟩ := fault_str_of hf
    cases rd
    exact ⟨_, rfl, _, rfl, U, x, al, t, mv, g, rfl, hx.same s1, fault_over hf, hal, k1 t rfl hf H1 s1⟩
theorem scContains : FnScope ["self", "text"] ["self", "text"] (C8.fnScope sContains) := C8.fnScope_by (by decide +kernel)
theorem ok_contains {f : Addr} {fd : FuncData} (R : RdC K ad.Reader) (me : Meth K ad.Reader "__contains__" f) (F : C8.Fun K "__contains__" "Reader.__contains__" sContains f fd) (b : Binds K fd ["self", "text"] []) (T : Txt mg)
    (c_check_text : CalZ ZT P w K mg base 2 "check_text" (spChkText ad)) (c_room_of : C8.Cal P w K mg base 1 "room_of" (spRoomOf ad) []) : MetZ P w K mg base 3 ad.Reader "__contains__" (spContains ad) := by
  refine metZ R.cl me F b scContains (fun vs H Q E h => ?_) (fun cdv A outer s H vs Q E hr h => ?_)
  · obtain ⟨S, U, x, al, mv, g, v, d, rfl, _⟩ := h
    rfl
  · obtain ⟨S, U, x, al, mv, g, v, d, rfl, hx, hal, rd, hz, k1, k2⟩ := h
    have sc := scContains
    have pw := passW (takesG (P := P) (w := w) (K := K) (mg := mg) (base := base) (N := ["self", "text"]) (qual := "Reader.__contains__") (scope := C8.fnScope sContains) (f := f) (cd := cdv) (A := A) (outer := outer) (s := s) (H := H) (E := E))
    obtain ⟨dx, vm, vg, ex, rm, rg⟩ := hx.ex
    refine ⟨_, -- Reader.__contains__: 0 self 1 text

      (pss_cons (ps_expr (pe_z (E := WE (fun cls d _ H => E cls d H)) c_check_text trivial hr (by decide) rfl pw (pa_cons (pe_fldK (K := K) rfl (pv 0)) (pa_cons (pv 1) pa_nil))))
      (pss_one (ps_ret (pe_cmpR (op_inQ (K := K) rfl) (C8.pe_c c_room_of hr (by decide) rfl (pa_cons (pv 0) (pa_cons (pv 1) pa_nil))) (pe_fldK (K := K) rfl (pv 0)) (by rfl))))), ?_⟩
    refine ⟨_, rfl, x, ad.Reader, dx, _, _, rfl, ex, R.cl, R.n1, rfl, _, rfl, S, al, v, d, rfl, rd, hz, fun hf H1 s1 => ?_, fun i hi dd H' s hdd => k2 i hi dd H' s hdd⟩
    obtain ⟨t, rfl⟩ := fault_str_of hf
    cases rd
    refine ⟨_, rfl, _, rfl, U, x, al, t, mv, g, rfl, hx.same s1, fault_over hf, hal, ?_⟩
    obtain ⟨ag, xg, rfl, _, hg, rsg⟩ := rg.tupItem
    have ey : xg = g.map V.int := rsg.ints_eq
    subst ey
    refine ⟨_, rfl, x, ad.Reader, dx, _, _, rfl, s1 _ _ ex, R.cl, R.n3, rfl, ag, _, rfl, .inr (.inl (.inl (s1 _ _ hg))), rfl, flat_ints g, ?_⟩
    have k := k1 t rfl hf H1 s1
    rw [← inV_ints] at k
    exact k
theorem scLen : FnScope ["self"] ["self"] (C8.fnScope sLen) := C8.fnScope_by (by decide +kernel)
theorem ok_len {f : Addr} {fd : FuncData} (R : RdC K ad.Reader) (me : Meth K ad.Reader "__len__" f) (F : C8.Fun K "__len__" "Reader.__len__" sLen f fd) (b : Binds K fd ["self"] []) (T : Txt mg) : C8.Met P w K mg base 1 ad.Reader "__len__" (spLen ad) [] := by
  refine C8.met0 R.cl me F b scLen (fun vs H Q E h => ?_) (fun cdv A outer s H vs Q E hr h => ?_)
  · obtain ⟨U, x, al, mv, g, rfl, _⟩ := h
    rfl
  · obtain ⟨U, x, al, mv, g, rfl, hx, k⟩ := h
    have sc := scLen
    obtain ⟨dx, vm, vg, ex, rm, rg⟩ := hx.ex
    refine ⟨_, -- Reader.__len__: 0 self

      (pss_one (ps_ret (pe_callB (call_lenQ (K := K) rfl) (by rfl) T.len PySem.boot_len (pa_cons (pe_fldK (K := K) rfl (pv 0)) pa_nil)))), ?_⟩
    obtain ⟨am, xm, rfl, _, hm, rsm⟩ := rm.tupItem
    have hl : (xm.length : Int) = (mv.length : Int) := by rw [rsm.len, List.length_map]
    refine ⟨_, rfl, x, ad.Reader, dx, _, _, rfl, ex, R.cl, R.n2, rfl, am, xm, rfl, .inr (.inl (.inl hm)), ?_⟩
    rw [hl]
    exact k
theorem scEq : FnScope ["self", "other"] ["self", "other"] (C8.fnScope sEq) := C8.fnScope_by (by decide +kernel)
theorem ok_eq {f : Addr} {fd : FuncData} (R : RdC K ad.Reader) (RI : RdI K ad.Reader) (me : Meth K ad.Reader "__eq__" f) (F : C8.Fun K "__eq__" "Reader.__eq__" sEq f fd) (b : Binds K fd ["self", "other"] []) (T : Txt mg) (O : Own K mg ad) : C8.Met P w K mg base 1 ad.Reader "__eq__" (spEqR K ad) [] := by
  refine C8.met0 R.cl me F b scEq (fun vs H Q E h => ?_) (fun cdv A outer s H vs Q E hr h => ?_)
  · obtain ⟨U, x, al, mv, g, y, rfl, _⟩ := h
    rfl
  · obtain ⟨U, x, al, mv, g, y, rfl, hx, k⟩ := h
    have sc := scEq
    obtain ⟨dx, vm, vg, ex, rm, rg⟩ := hx.ex
    refine ⟨_, -- Reader.__eq__: 0 self 1 other

      (pss_one (ps_ret (pe_and (pe_callB call_isi (by rfl) T.isinstance (by decide +kernel) (pa_cons (pv 1) (pa_cons (pe_glob (v := .ref ad.Reader) rfl O.g_Reader rfl) pa_nil))) (pe_and (pe_cmpR op_eq (pe_fldK (K := K) rfl (pv 0)) (pe_fldK (K := K) rfl (pv 1)) (nomark _)) (pe_and (pe_cmpR (op_eqD hr.units) (pe_fldK (K := K) rfl (pv 0)) (pe_fldK (K := K) rfl (pv 1)) (nomark _)) (pe_one (pe_cmpR (op_eqD hr.units) (pe_fldK (K := K) rfl (pv 0)) (pe_fldK (K := K) rfl (pv 1)) (nomark _)))))))), ?_⟩
    rcases k with ⟨U2, x2, al2, mv2, g2, rfl, hx2, k⟩ | ⟨t, ty, hk, k⟩
    · obtain ⟨dx2, vm2, vg2, ex2, rm2, rg2⟩ := hx2.ex
      refine ⟨_, rfl, _, _, _, _, _, rfl, .own _, hx2.ty R RI, RI.self, _, rfl, iteT ?_⟩
      refine ⟨_, rfl, x, ad.Reader, dx, _, _, rfl, ex, R.cl, R.n1, rfl, _, rfl, x2, ad.Reader, dx2, _, _, rfl, ex2, R.cl, R.n1, rfl, rfl, _, rfl, ?_⟩
      by_cases h1 : al = al2
      · subst h1
        rw [decide_eq_true (rfl : V.str al = V.str al)]
        refine iteT ⟨_, rfl, x, ad.Reader, dx, _, _, rfl, ex, R.cl, R.n2, rfl, _, rfl, x2, ad.Reader, dx2, _, _, rfl, ex2, R.cl, R.n2, rfl, ?_⟩
        refine eq_low rm rm2 (low_mvT _) (low_mvT _) (by decide) (by decide) (mv = mv2) ⟨mvT_inj, fun e => by rw [e]⟩ ⟨_, rfl, ?_⟩
        by_cases h2 : mv = mv2
        · subst h2
          rw [decide_eq_true (rfl : mv = mv)]
          refine iteT ⟨_, rfl, x, ad.Reader, dx, _, _, rfl, ex, R.cl, R.n3, rfl, _, rfl, x2, ad.Reader, dx2, _, _, rfl, ex2, R.cl, R.n3, rfl, ?_⟩
          refine eq_low rg rg2 (low_rowT _) (low_rowT _) (by decide) (by decide) (al = al ∧ mv = mv ∧ g = g2) ⟨fun e => ⟨rfl, rfl, rowT_inj e⟩, fun e => by rw [e.2.2]⟩ k
        · rw [decide_eq_false h2]
          rw [decide_eq_false (fun e : al = al ∧ mv = mv2 ∧ g = g2 => h2 e.2.1)] at k
          exact iteF k
      · rw [decide_eq_false (fun e : V.str al = V.str al2 => h1 (V.str.inj e))]
        rw [decide_eq_false (fun e : al = al2 ∧ mv = mv2 ∧ g = g2 => h1 e.1)] at k
        exact iteF k
    · refine ⟨_, rfl, _, _, _, _, _, rfl, .own _, ty, hk, _, rfl, ?_⟩
      exact k
end

/-! ### what is passed to Reader; Reader.full, Reader.bare -/
def MvOf (d : D) (mv : List (List Int)) : Prop := ∃ ms, d.seq? = some ms ∧ ms.map D.seq? = mv.map fun r => some (r.map D.int)
def GdOf (d : D) (g : List Int) : Prop := d.seq? = some (g.map D.int)
theorem MvOf.len {d : D} {mv : List (List Int)} {ms : List D} (h : d.seq? = some ms) (m : MvOf d mv) : ms.length = mv.length := by
  obtain ⟨ms', h1, h2⟩ := m
  rw [h] at h1
  cases h1
  have := congrArg List.length h2
  simpa using this
theorem MvOf.at {d : D} {mv : List (List Int)} {ms : List D} (h : d.seq? = some ms) (m : MvOf d mv) {i : Nat} {e : D} (he : ms[i]? = some e) : ∃ r, mv[i]? = some r ∧ e.seq? = some (r.map D.int) := by
  obtain ⟨ms', h1, h2⟩ := m
  rw [h] at h1
  cases h1
  have z := congrArg (fun l => l[i]?) h2
  simp only [List.getElem?_map, he] at z
  cases hr : mv[i]? with
  | none => rw [hr] at z; cases z
  | some r =>
    rw [hr] at z
    exact ⟨r, rfl, Option.some.inj z⟩
theorem MvOf.norm {d : D} {mv : List (List Int)} (m : MvOf d mv) : d.norm = mvT mv := by
  obtain ⟨ms, h1, h2⟩ := id m
  unfold D.norm mvT
  rw [h1]
  refine congrArg D.tup ?_
  refine List.ext_getElem? fun i => ?_
  show (ms.map D.row)[i]? = _
  rw [List.getElem?_map, List.getElem?_map]
  have hl := m.len h1
  cases he : ms[i]? with
  | none =>
    have : mv[i]? = none := by rw [List.getElem?_eq_none_iff] at he ⊢; omega
    rw [this]
    rfl
  | some e =>
    obtain ⟨r, hr, hs⟩ := m.at h1 he
    rw [hr]
    show some (D.row e) = some (rowT r)
    unfold D.row rowT
    rw [hs]
    rfl
theorem GdOf.row {d : D} {g : List Int} (m : GdOf d g) : d.row = rowT g := by
  unfold D.row rowT
  rw [m]
  rfl
theorem inr_int (lo hi z : Int) : (D.int z).inr lo hi = (decide (lo ≤ z) && decide (z ≤ hi)) := rfl
theorem MvOf.ok {d : D} {k : Nat} {mv : List (List Int)} {g : List Int} (m : MvOf d mv) (M : Mach k mv g) : d.mvFault k = none := by
  obtain ⟨ms, h1, h2⟩ := id m
  have hl := m.len h1
  have hp := M.pos
  have hm := M.most
  refine mv_ok h1 ⟨by omega, by omega⟩ fun j hj => ?_
  refine ⟨_, List.getElem?_eq_getElem hj, ?_⟩
  obtain ⟨r, hr, hs⟩ := m.at h1 (List.getElem?_eq_getElem hj)
  have hrow := M.row r (List.mem_of_getElem? hr)
  rw [row_some hs, List.length_map, decide_eq_true hrow.1, Bool.true_and, List.all_eq_true]
  intro e he
  obtain ⟨z, hz, rfl⟩ := List.mem_map.mp he
  have := hrow.2 z hz
  rw [inr_int, decide_eq_true this.1, Bool.true_and, decide_eq_true_iff]
  omega
theorem GdOf.ok {d : D} {k : Nat} {mv : List (List Int)} {g : List Int} (m : GdOf d g) (M : Mach k mv g) : d.gdFault mv.length = none := by
  refine gd_ok m fun j hj => ?_
  rw [List.length_map] at hj
  have e1 : (g.map D.int).getD j .non = .int g[j] := by rw [List.getD_eq_getElem?_getD, List.getElem?_map, List.getElem?_eq_getElem hj]; rfl
  unfold gdOk
  rw [e1]
  have h1 := M.inn g[j] (List.getElem_mem hj)
  rw [inr_int, decide_eq_true h1.1, decide_eq_true (show g[j] ≤ (mv.length : Int) - 1 by omega), Bool.true_and, Bool.true_and, Bool.or_eq_true]
  by_cases h0 : j = 0
  · exact .inl (decide_eq_true h0)
  · refine .inr ?_
    have e2 : (g.map D.int).getD (j - 1) .non = .int (g[j - 1]'(by omega)) := by rw [List.getD_eq_getElem?_getD, List.getElem?_map, List.getElem?_eq_getElem (show j - 1 < g.length by omega)]; rfl
    rw [e2]
    show decide _ = true
    rw [decide_eq_true_iff]
    exact List.pairwise_iff_getElem.mp M.asc (j - 1) j (by omega) hj (by omega)
theorem MvOf.fit {d : D} {k : Nat} {mv : List (List Int)} {g : List Int} (m : MvOf d mv) (M : Mach k mv g) (hk : k ≤ 1000) : d.fit := by
  intro ds hd
  have hl := m.len hd
  have hm := M.most
  refine ⟨by omega, fun r hr rs hrs => ?_⟩
  obtain ⟨i, hi, rfl⟩ := List.mem_iff_getElem.mp hr
  obtain ⟨z, hz, hs⟩ := m.at hd (List.getElem?_eq_getElem hi)
  rw [hs] at hrs
  cases hrs
  rw [List.length_map, (M.row z (List.mem_of_getElem? hz)).1]
  exact hk
theorem GdOf.fit {d : D} {k : Nat} {mv : List (List Int)} {g : List Int} (m : GdOf d g) (M : Mach k mv g) : d.fit := by
  intro ds hd
  rw [show d.seq? = _ from m] at hd
  cases hd
  have := M.glen
  refine ⟨by rw [List.length_map]; omega, fun r hr rs hrs => ?_⟩
  obtain ⟨z, _, rfl⟩ := List.mem_map.mp hr
  cases hrs
section
variable {K : PySem.W.Frag} {ad : Ad} {H : Hp} {S U : List Addr} {va vm vg : V} {da dm dg : D} {al : Str} {mv : List (List Int)} {g : List Int} {Q : VK} {E : XK}
/-- Reader(..) is made -/
theorem init_good (ra : Rp S H va da) (rm : Rp S H vm dm) (rg : Rp S H vg dg) (ea : da = .str al) (hal : alOk al = true) (hz : al.length ≤ 1000) (m : MvOf dm mv) (gd : GdOf dg g) (M : Mach al.length mv g) (hU : ∀ a ∈ U, ∃ xs, H a = some (.lst xs))
    {x dx : Addr} (hx : H x = none) (hdx : H dx = none) (hne : dx ≠ x) (k : ∀ H', Same H H' → RdAt ad U H' x al mv g → Q .non H') :
      spInit K ad (.ref x :: [va, vm, vg]) (upd (upd H dx (.own x)) x (.ins ad.Reader dx [])) Q E := by
  subst ea
  cases ra
  have s1 : Same H (upd H dx (.own x)) := Same.new hdx
  have hx1 : upd H dx (.own x) x = none := by rw [upd_ne (Ne.symm hne)]; exact hx
  have s2 : Same H (upd (upd H dx (.own x)) x (.ins ad.Reader dx [])) := s1.trans (Same.new hx1)
  have nU : x ∉ U := fun hm => by
    obtain ⟨xs, e⟩ := hU x hm
    rw [hx] at e
    cases e
  have sk : ∀ {H' : Hp}, Keep [x] (upd (upd H dx (.own x)) x (.ins ad.Reader dx [])) H' → Same H H' := fun kp b o e => kp b o (fun hm => by rw [List.mem_singleton.mp hm, hx] at e; cases e) (s2 b o e)
  refine ⟨S, U, x, dx, _, vm, vg, .str al, dm, dg, rfl, upd_same, nU, .str al, rm.same s2, rg.same s2, fun z e => by cases e; exact hz, m.fit M hz, gd.fit M, fun a ha => by obtain ⟨xs, e⟩ := hU a ha; exact ⟨xs, s2 _ _ e⟩, fun h => ?_, fun al2 e h2 i hi => ?_, fun al2 ms e h2 h3 h4 => ?_⟩
  · rw [show (D.str al).alOk = true from hal] at h
    cases h
  · cases e
    rw [m.ok M] at hi
    cases hi
  · cases e
    rw [m.len h4, gd.ok M]
    refine ⟨fun i hi => (by cases hi), fun _ vm' vg' H' kp ex r1 r2 => k H' (sk kp) ⟨⟨dx, vm', vg', ex, ?_, ?_⟩, M⟩⟩
    · rw [← m.norm]; exact r1
    · rw [← gd.row]; exact r2
/-- Reader(..) is refused -/
theorem init_bad (e : Er) (v : V) (ra : Rp S H va da) (rm : Rp S H vm dm) (rg : Rp S H vg dg) (hz : ∀ z, da = .str z → z.length ≤ 1000) (fm : dm.fit) (fg : dg.fit)
    (hb : (da.alOk = false ∧ e = .alphabet ∧ v = va) ∨ (∃ i, da = .str al ∧ alOk al = true ∧ dm.mvFault al.length = some i ∧ e = .moves ∧ v = .int i) ∨
      ∃ ms i, da = .str al ∧ alOk al = true ∧ dm.mvFault al.length = none ∧ dm.seq? = some ms ∧ dg.gdFault ms.length = some i ∧ e = .good ∧ v = .int i)
    {x dx : Addr} (hx : H x = none) (hdx : H dx = none) (hne : dx ≠ x) (k : Ex ad e v H E) :
      spInit K ad (.ref x :: [va, vm, vg]) (upd (upd H dx (.own x)) x (.ins ad.Reader dx [])) Q E := by
  have s1 : Same H (upd H dx (.own x)) := Same.new hdx
  have hx1 : upd H dx (.own x) x = none := by rw [upd_ne (Ne.symm hne)]; exact hx
  have s2 : Same H (upd (upd H dx (.own x)) x (.ins ad.Reader dx [])) := s1.trans (Same.new hx1)
  have ke : ∀ {e' : Er} {v' : V}, e' = e → v' = v → Exk ad e' v' x (upd (upd H dx (.own x)) x (.ins ad.Reader dx [])) E := by
    rintro e' v' rfl rfl dd H' kp hdd
    exact k dd H' (fun b o q => kp b o (fun hm => by rw [List.mem_singleton.mp hm, hx] at q; cases q) (s2 b o q)) hdd
  refine ⟨S, [], x, dx, va, vm, vg, da, dm, dg, rfl, upd_same, by simp, ra.same s2, rm.same s2, rg.same s2, hz, fm, fg, by simp, fun h => ?_, fun al2 e2 h2 i hi => ?_, fun al2 ms e2 h2 h3 h4 => ?_⟩
  · rcases hb with ⟨_, h1, h2⟩ | ⟨i, h1, h2, _⟩ | ⟨ms, i, h1, h2, _⟩
    · exact ke h1.symm h2.symm
    · rw [h1, show (D.str al).alOk = true from h2] at h; cases h
    · rw [h1, show (D.str al).alOk = true from h2] at h; cases h
  · rcases hb with ⟨h1, _⟩ | ⟨j, h1, _, h3, h5, h6⟩ | ⟨ms, j, h1, _, h3, _⟩
    · rw [e2, show (D.str al2).alOk = true from h2] at h1; cases h1
    · rw [h1] at e2; cases e2
      rw [h3] at hi; cases hi
      exact ke h5.symm h6.symm
    · rw [h1] at e2; cases e2
      rw [h3] at hi; cases hi
  · rcases hb with ⟨h1, _⟩ | ⟨j, h1, _, h5, _⟩ | ⟨ms', j, h1, _, _, h5, h6, h7, h8⟩
    · rw [e2, show (D.str al2).alOk = true from h2] at h1; cases h1
    · rw [h1] at e2; cases e2
      rw [h3] at h5; cases h5
    · rw [h4] at h5; cases h5
      refine ⟨fun i hi => ?_, fun hn => ?_⟩
      · rw [h6] at hi; cases hi
        exact ke h7.symm h8.symm
      · rw [h6] at hn; cases hn
end

/-! ### Reader.full, Reader.bare -/
abbrev sFull : Stmt := sub 29 1
abbrev sBare : Stmt := sub 29 2
def spEnd (ad : Ad) (g : List Int) : Sp := fun vs H Q E => ∃ (S U : List Addr) (v : V) (d : D), vs = [v] ∧ Rp S H v d ∧ (∀ z, d = .str z → z.length ≤ 1000) ∧ (∀ a ∈ U, ∃ xs, H a = some (.lst xs)) ∧
  (∀ al, d = .str al → alOk al = true → ∀ x H', H x = none → Same H H' → RdAt ad U H' x al [List.replicate al.length 0] g → Q (.ref x) H') ∧ (d.alOk = false → Ex ad .alphabet v H E)
theorem mach_end {k : Nat} {g : List Int} (hg : g = [0] ∨ g = []) : Mach k [List.replicate k 0] g := by
  refine ⟨Nat.le_refl 1, (by decide : 1 ≤ 60), fun r hr => ?_, ?_, fun x hx => ?_⟩
  · rw [List.mem_singleton.mp hr]
    refine ⟨List.length_replicate, fun x hx => ?_⟩
    rw [(List.mem_replicate.mp hx).2]
    exact ⟨Int.le_refl 0, (by decide : (0 : Int) < 1)⟩
  · rcases hg with rfl | rfl
    · exact List.pairwise_singleton ..
    · exact List.Pairwise.nil
  · rcases hg with rfl | rfl
    · rw [List.mem_singleton.mp hx]
      exact ⟨Int.le_refl 0, (by decide : (0 : Int) < 1)⟩
    · cases hx
theorem range_const {α : Type} (n : Nat) (z : α) : (List.range n).map (fun _ => z) = List.replicate n z := by
  refine List.ext_getElem (by simp) fun i h1 h2 => by simp
section
open PyProof.Rows
variable {P : Program} {w : World} {K : PySem.W.Frag} {mg : Str → Option Value} {base : Heap} {ad : Ad}
theorem scFull : FnScope ["alphabet", "letter"] ["alphabet"] (C8.fnScope sFull) := C8.fnScope_by (by decide +kernel)
theorem ok_full {f : Addr} {fd : FuncData} (F : C8.Fun K "full" "Reader.full" sFull f fd) (b : Binds K fd ["alphabet"] []) (T : Txt mg) (O : Own K mg ad) (c_check_alphabet : CalZ ZT P w K mg base 2 "check_alphabet" (spChkAl ad)) (m_Reader : MakZ P w K mg base 3 "Reader" ad.Reader (spInit K ad)) :
    FnZ ZT P w K mg base 5 f fd ["alphabet"] (spEnd ad [0]) := by
  refine fn_ofZ (fun _ _ _ => trivial) F scFull (fun vs H Q E h => ?_) (fun cdv A outer s H vs Q E _ hr h => ?_)
  · obtain ⟨S, U, v, d, rfl, _⟩ := h
    rfl
  · obtain ⟨S, U, v, d, rfl, rd, hz, hU, k1, k2⟩ := h
    have sc := scFull
    have pw := passW (takesG (P := P) (w := w) (K := K) (mg := mg) (base := base) (N := ["alphabet", "letter"]) (qual := "Reader.full") (scope := C8.fnScope sFull) (f := f) (cd := cdv) (A := A) (outer := outer) (s := s) (H := H) (E := E))
    refine ⟨_, -- Reader.full: 0 alphabet 1 letter

      (pss_cons (ps_expr (pe_z (E := WE (fun cls d _ H => E cls d H)) c_check_alphabet trivial hr (by decide) rfl pw (pa_cons (pv 0) pa_nil)))
      (pss_one (ps_ret (pe_makeZ (E := WE (fun cls d _ H => E cls d H)) m_Reader hr (by decide) rfl pw (pa_cons (pv 0) (pa_cons (pe_tup (pa_cons (pe_callTy (T := "tuple") (call_tupQ (K := K) rfl) (by rfl) T.tuple (by decide +kernel) (pa_cons (pe_lc (own := [("letter", 1)]) (g := gName 1) rfl sc.nd (pi_str (pv 0)) (blkOk_by (own := [("letter", 1)]) (by kernel_rfl)) (fun _ _ _ _ _ => (pg_name (i := 1) sc.nd rfl (Or.inl rfl))) (fun _ _ _ _ _ => pts_nil) (fun _ _ _ _ _ => pe_int)) pa_nil)) pa_nil)) (pa_cons (pe_tup (pa_cons pe_int pa_nil)) pa_nil))))))), ?_⟩
    refine ⟨_, rfl, S, v, d, rfl, rd, hz, fun hal H1 s1 => ?_, fun hal dd H' s hdd => k2 hal dd H' s hdd⟩
    obtain ⟨al, rfl⟩ : ∃ al, d = .str al := by cases d <;> first | exact ⟨_, rfl⟩ | (cases (show false = true from hal))
    cases rd
    have hza := hz al rfl
    refine ⟨_, rfl, _, rfl, al, rfl, fun L hL => lc_F (j := 1) (Xp := fun _ _ => True) (fun _ => .int 0) walk_str (fun i H v H' _ y => ⟨y.1, trivial⟩) hL (by show al.cps.size ≤ 100000; have : al.length = al.cps.size := rfl; omega) (fun _ _ => trivial) (fun _ => rfl) (fun i v H2 hi hv s2 Kt ht => ht _ _ (Same.refl _) (.int 0)) (fun ys H2 s2 e2 r2 => ?_)⟩
    have en : (List.range al.cps.size).map (fun _ => D.int 0) = (List.replicate al.length (0 : Int)).map D.int := by rw [range_const, List.map_replicate]; rfl
    rw [en] at r2
    refine ⟨_, _, rfl, .inl ⟨SqL.of e2, fun p1 hp1 => ⟨by show 1 ≤ sizeLine; decide, fun p2 hp2 => ⟨by show 1 ≤ sizeLine; decide, fun p3 hp3 => ?_⟩⟩⟩⟩
    have t1 : Same H2 (upd H2 p1 (.tup ys)) := Same.new hp1
    have t2 := Same.new (o := .tup [.ref p1]) hp2
    have t3 := Same.new (o := .tup [.int 0]) hp3
    have q1 : Rp [] (upd H2 p1 (.tup ys)) (.ref p1) (.tup ((List.replicate al.length (0 : Int)).map D.int)) := .tup (by simp) upd_same (r2.same t1)
    have q2 : Rp [] (upd (upd H2 p1 (.tup ys)) p2 (.tup [.ref p1])) (.ref p2) (.tup [.tup ((List.replicate al.length (0 : Int)).map D.int)]) := .tup (by simp) upd_same (.cons (q1.same t2) .nil)
    have q3 : Rp [] (upd (upd (upd H2 p1 (.tup ys)) p2 (.tup [.ref p1])) p3 (.tup [.int 0])) (.ref p3) (.tup [.int 0]) := .tup (by simp) upd_same (.cons (.int 0) .nil)
    have sa := (((s1.trans s2).trans t1).trans t2).trans t3
    intro x dx hx hdx hne
    exact init_good (.str al) (q2.same t3) q3 rfl hal hza (mv := [List.replicate al.length 0]) (g := [0]) ⟨[.tup ((List.replicate al.length (0 : Int)).map D.int)], rfl, rfl⟩ rfl (mach_end (.inl rfl)) (fun a ha => by obtain ⟨xs, e⟩ := hU a ha; exact ⟨xs, sa _ _ e⟩)
      hx hdx hne (fun H' s r => ⟨rfl, k1 al rfl hal x H' (by
        cases e : H x with
        | none => rfl
        | some o => rw [sa _ _ e] at hx; cases hx) (sa.trans s) r⟩)
theorem scBare : FnScope ["alphabet", "letter"] ["alphabet"] (C8.fnScope sBare) := C8.fnScope_by (by decide +kernel)
theorem ok_bare {f : Addr} {fd : FuncData} (F : C8.Fun K "bare" "Reader.bare" sBare f fd) (b : Binds K fd ["alphabet"] []) (T : Txt mg) (O : Own K mg ad) (c_check_alphabet : CalZ ZT P w K mg base 2 "check_alphabet" (spChkAl ad)) (m_Reader : MakZ P w K mg base 3 "Reader" ad.Reader (spInit K ad)) :
    FnZ ZT P w K mg base 5 f fd ["alphabet"] (spEnd ad []) := by
  refine fn_ofZ (fun _ _ _ => trivial) F scBare (fun vs H Q E h => ?_) (fun cdv A outer s H vs Q E _ hr h => ?_)
  · obtain ⟨S, U, v, d, rfl, _⟩ := h
    rfl
  · obtain ⟨S, U, v, d, rfl, rd, hz, hU, k1, k2⟩ := h
    have sc := scBare
    have pw := passW (takesG (P := P) (w := w) (K := K) (mg := mg) (base := base) (N := ["alphabet", "letter"]) (qual := "Reader.bare") (scope := C8.fnScope sBare) (f := f) (cd := cdv) (A := A) (outer := outer) (s := s) (H := H) (E := E))
    refine ⟨_, -- Reader.bare: 0 alphabet 1 letter

      (pss_cons (ps_expr (pe_z (E := WE (fun cls d _ H => E cls d H)) c_check_alphabet trivial hr (by decide) rfl pw (pa_cons (pv 0) pa_nil)))
      (pss_one (ps_ret (pe_makeZ (E := WE (fun cls d _ H => E cls d H)) m_Reader hr (by decide) rfl pw (pa_cons (pv 0) (pa_cons (pe_tup (pa_cons (pe_callTy (T := "tuple") (call_tupQ (K := K) rfl) (by rfl) T.tuple (by decide +kernel) (pa_cons (pe_lc (own := [("letter", 1)]) (g := gName 1) rfl sc.nd (pi_str (pv 0)) (blkOk_by (own := [("letter", 1)]) (by kernel_rfl)) (fun _ _ _ _ _ => (pg_name (i := 1) sc.nd rfl (Or.inl rfl))) (fun _ _ _ _ _ => pts_nil) (fun _ _ _ _ _ => pe_int)) pa_nil)) pa_nil)) (pa_cons (pe_tup pa_nil) pa_nil))))))), ?_⟩
    refine ⟨_, rfl, S, v, d, rfl, rd, hz, fun hal H1 s1 => ?_, fun hal dd H' s hdd => k2 hal dd H' s hdd⟩
    obtain ⟨al, rfl⟩ : ∃ al, d = .str al := by cases d <;> first | exact ⟨_, rfl⟩ | (cases (show false = true from hal))
    cases rd
    have hza := hz al rfl
    refine ⟨_, rfl, _, rfl, al, rfl, fun L hL => lc_F (j := 1) (Xp := fun _ _ => True) (fun _ => .int 0) walk_str (fun i H v H' _ y => ⟨y.1, trivial⟩) hL (by show al.cps.size ≤ 100000; have : al.length = al.cps.size := rfl; omega) (fun _ _ => trivial) (fun _ => rfl) (fun i v H2 hi hv s2 Kt ht => ht _ _ (Same.refl _) (.int 0)) (fun ys H2 s2 e2 r2 => ?_)⟩
    have en : (List.range al.cps.size).map (fun _ => D.int 0) = (List.replicate al.length (0 : Int)).map D.int := by rw [range_const, List.map_replicate]; rfl
    rw [en] at r2
    refine ⟨_, _, rfl, .inl ⟨SqL.of e2, fun p1 hp1 => ⟨by show 1 ≤ sizeLine; decide, fun p2 hp2 => ⟨by show 0 ≤ sizeLine; decide, fun p3 hp3 => ?_⟩⟩⟩⟩
    have t1 : Same H2 (upd H2 p1 (.tup ys)) := Same.new hp1
    have t2 := Same.new (o := .tup [.ref p1]) hp2
    have t3 := Same.new (o := .tup []) hp3
    have q1 : Rp [] (upd H2 p1 (.tup ys)) (.ref p1) (.tup ((List.replicate al.length (0 : Int)).map D.int)) := .tup (by simp) upd_same (r2.same t1)
    have q2 : Rp [] (upd (upd H2 p1 (.tup ys)) p2 (.tup [.ref p1])) (.ref p2) (.tup [.tup ((List.replicate al.length (0 : Int)).map D.int)]) := .tup (by simp) upd_same (.cons (q1.same t2) .nil)
    have q3 : Rp [] (upd (upd (upd H2 p1 (.tup ys)) p2 (.tup [.ref p1])) p3 (.tup [])) (.ref p3) (.tup []) := .tup (by simp) upd_same .nil
    have sa := (((s1.trans s2).trans t1).trans t2).trans t3
    intro x dx hx hdx hne
    exact init_good (.str al) (q2.same t3) q3 rfl hal hza (mv := [List.replicate al.length 0]) (g := []) ⟨[.tup ((List.replicate al.length (0 : Int)).map D.int)], rfl, rfl⟩ rfl (mach_end (.inr rfl)) (fun a ha => by obtain ⟨xs, e⟩ := hU a ha; exact ⟨xs, sa _ _ e⟩)
      hx hdx hne (fun H' s r => ⟨rfl, k1 al rfl hal x H' (by
        cases e : H x with
        | none => rfl
        | some o => rw [sa _ _ e] at hx; cases hx) (sa.trans s) r⟩)
end

/-! ### _law_is_number, _law_is_reader -/
abbrev sIsNum : Stmt := top 45
abbrev sIsRd : Stmt := top 44
def spIsRd (ad : Ad) : Sp := fun vs H Q _ => ∃ (U : List Addr) (x : Addr) (al : Str) (mv : List (List Int)) (g : List Int), vs = [.ref x, .str al] ∧ RdAt ad U H x al mv g ∧ al.length ≤ 1000 ∧ ∀ H', Same H H' → Q (.bl true) H'
theorem all_true {n : Nat} {f : Nat → Bool} (h : ∀ i < n, f i = true) : ((List.range n).map f).all id = true := by
  rw [List.all_eq_true]
  intro b hb
  obtain ⟨i, hi, rfl⟩ := List.mem_map.mp hb
  exact h i (List.mem_range.mp hi)
section
open PyProof.Rows
variable {P : Program} {w : World} {K : PySem.W.Frag} {mg : Str → Option Value} {base : Heap} {ad : Ad}
theorem scIsNum : FnScope ["thing", "low", "high"] ["thing", "low", "high"] (C8.fnScope sIsNum) := C8.fnScope_by (by decide +kernel)
theorem ok_isnum {f : Addr} {fd : FuncData} (F : C8.Def K mg "_law_is_number" sIsNum f fd) (b : Binds K fd ["thing", "low", "high"] []) (T : Txt mg) : C8.Cal P w K mg base 1 "_law_is_number" spInteger [] := by
  refine C8.cal0 F b .nil scIsNum (fun vs H Q E h => ?_) (fun cdv A outer s H vs Q E hr h => ?_)
  · obtain ⟨S, v, d, lo, hi, rfl, _⟩ := h
    rfl
  · obtain ⟨S, v, d, lo, hi, rfl, r, k⟩ := h
    have sc := scIsNum
    refine ⟨_, -- _law_is_number: 0 thing 1 low 2 high

      (pss_one (ps_ret (pe_and (pe_callB call_isi (by rfl) T.isinstance (by decide +kernel) (pa_cons (pv 0) (pa_cons (pe_bltn (v := .ty "int") (u := .type "int") rfl T.int (by decide +kernel) rfl) pa_nil))) (pe_and (pe_not (pe_callB call_isi (by rfl) T.isinstance (by decide +kernel) (pa_cons (pv 0) (pa_cons (pe_bltn (v := .ty "bool") (u := .type "bool") rfl T.bool (by decide +kernel) rfl) pa_nil)))) (pe_one (pe_chain op_le op_le (pv 1) (pv 0) (pv 2))))))), ?_⟩
    cases hj : d.isa "int" with
    | false =>
      refine ⟨_, rfl, _, _, _, _, _, rfl, .ty _, r.ty, kit_lit (by decide) hj, _, rfl, iteF ?_⟩
      have e : d.inr lo hi = false := by cases d <;> first | rfl | (simp [D.isa, D.tyn] at hj)
      rw [e] at k
      exact k
    | true =>
      refine ⟨_, rfl, _, _, _, _, _, rfl, .ty _, r.ty, kit_lit (by decide) hj, _, rfl, iteT ?_⟩
      cases hb : d.isa "bool" with
      | true =>
        refine ⟨_, rfl, _, _, _, _, _, rfl, .ty _, r.ty, kit_lit (by decide) hb, _, rfl, _, rfl, iteF ?_⟩
        have e : d.inr lo hi = false := by cases d <;> first | rfl | (simp [D.isa, D.tyn] at hb)
        rw [e] at k
        exact k
      | false =>
        obtain ⟨i, rfl⟩ : ∃ i, d = .int i := by cases d <;> first | exact ⟨_, rfl⟩ | (simp [D.isa, D.tyn] at hj hb)
        cases r
        refine ⟨_, rfl, _, _, _, _, _, rfl, .ty _, .base (.int i), kit_lit (d := .int i) (by decide) hb, _, rfl, _, rfl, iteT ?_⟩
        refine ⟨_, rfl, _, rfl, _, _, rfl, rfl, _, rfl, ?_⟩
        refine ite2 (fun h1 => ?_) (fun h1 => ?_)
        · refine ⟨_, rfl, _, _, rfl, rfl, ?_⟩
          rw [inr_int, show decide (lo ≤ i) = true from h1, Bool.true_and] at k
          exact k
        · rw [inr_int, Bool.eq_false_iff.mpr h1] at k
          exact k
theorem scIsRd : FnScope ["reader", "alphabet", "size", "row", "room", "k"] ["reader", "alphabet"] (C8.fnScope sIsRd) := C8.fnScope_by (by decide +kernel)
theorem ok_isrd {f : Addr} {fd : FuncData} (R : RdC K ad.Reader) (RI : RdI K ad.Reader) (F : C8.Def K mg "_law_is_reader" sIsRd f fd) (b : Binds K fd ["reader", "alphabet"] []) (T : Txt mg) (O : Own K mg ad) (c_law_is_number : C8.Cal P w K mg base 1 "_law_is_number" spInteger []) : C8.Cal P w K mg base 2 "_law_is_reader" (spIsRd ad) [] := by
  refine C8.cal0 F b .nil scIsRd (fun vs H Q E h => ?_) (fun cdv A outer s H vs Q E hr h => ?_)
  · obtain ⟨U, x, al, mv, g, rfl, _⟩ := h
    rfl
  · obtain ⟨U, x, al, mv, g, rfl, hx, hz, k⟩ := h
    have sc := scIsRd
    obtain ⟨⟨dx, vm, vg, ex, rm, rg⟩, M⟩ := id hx
    have hp := M.pos
    have hm60 := M.most
    have hg60 := M.glen
    obtain ⟨am, xm, rfl, _, hm, rsm⟩ := rm.tupItem
    obtain ⟨ag, xg, rfl, _, hg, rsg⟩ := rg.tupItem
    have ey : xg = g.map V.int := rsg.ints_eq
    subst ey
    have hl : xm.length = mv.length := by rw [rsm.len, List.length_map]
    refine ⟨_, -- _law_is_reader: 0 reader* 1 alphabet 2 size* 3 row 4 room 5 k

      (pss_cons (ps_if (PW.pt (pw_or (pt_not (pt_val (pe_callB call_isi (by rfl) T.isinstance (by decide +kernel) (pa_cons (pv 0) (pa_cons (pe_glob (v := .ref ad.Reader) rfl O.g_Reader rfl) pa_nil))))) (pw_or (pt_cmpR op_ne (pe_fldK (K := K) rfl (pv 0)) (pv 1) (nomark _)) (pw_or1 (pt_not (pt_val (pe_callB call_isi (by rfl) T.isinstance (by decide +kernel) (pa_cons (pe_fldK (K := K) rfl (pv 0)) (pa_cons (pe_bltn (v := .ty "tuple") (u := .type "tuple") rfl T.tuple (by decide +kernel) rfl) pa_nil))))))))) 
        (pss_one (ps_ret pe_bl)) pss_nil)
      (pss_cons (ps_set (i := 2) sc.nd rfl (Or.inr rfl) (pe_callB (call_lenQ (K := K) rfl) (by rfl) T.len PySem.boot_len (pa_cons (pe_fldK (K := K) rfl (pv 0)) pa_nil)))
      (pss_cons (ps_if (PW.pt (pw_or (pt_cmpR op_eq (pv 2) pe_int (nomark _)) (pw_or1 (pt_not (pt_val (pe_callB call_isi (by rfl) T.isinstance (by decide +kernel) (pa_cons (pe_fldK (K := K) rfl (pv 0)) (pa_cons (pe_bltn (v := .ty "tuple") (u := .type "tuple") rfl T.tuple (by decide +kernel) rfl) pa_nil)))))))) 
        (pss_one (ps_ret pe_bl)) pss_nil)
      (pss_cons (ps_for PassesOwn.never rfl (pi_seqW (pe_fldK (K := K) rfl (pv 0))) (pg_name (i := 3) sc.nd rfl (Or.inl rfl)) 
        (pss_cons (ps_if (PW.pt (pw_or (pt_not (pt_val (pe_callB call_isi (by rfl) T.isinstance (by decide +kernel) (pa_cons (pv 3) (pa_cons (pe_bltn (v := .ty "tuple") (u := .type "tuple") rfl T.tuple (by decide +kernel) rfl) pa_nil))))) (pw_or1 (pt_cmpR op_ne (pe_callB (call_lenQ (K := K) rfl) (by rfl) T.len PySem.boot_len (pa_cons (pv 3) pa_nil)) (pe_callB call_len_str (by rfl) T.len PySem.boot_len (pa_cons (pv 1) pa_nil)) (nomark _))))) 
          (pss_one (ps_ret pe_bl)) pss_nil)
        (pss_one (ps_if (pt_not (pt_val (pe_callB (id := "all") (cr_all rfl) (by rfl) T.all (by decide +kernel) (pa_cons (pe_lc (own := [("room", 4)]) (g := gName 4) rfl sc.nd (pi_seqW (pv 3)) (blkOk_by (own := [("room", 4)]) (by kernel_rfl)) (fun _ _ _ _ _ => (pg_name (i := 4) sc.nd rfl (Or.inl rfl))) (fun _ _ _ _ _ => pts_nil) (fun _ _ _ _ _ => (C8.pe_c c_law_is_number hr (by decide) rfl (pa_cons (pv 4) (pa_cons pe_int (pa_cons (pe_op op_sub (pv 2) pe_int) pa_nil)))))) pa_nil)))) 
          (pss_one (ps_ret pe_bl)) pss_nil))))
      (pss_cons (ps_if (pt_not (pt_val (pe_callB (id := "all") (cr_all rfl) (by rfl) T.all (by decide +kernel) (pa_cons (pe_lc (own := [("room", 4)]) (g := gName 4) rfl sc.nd (pi_seqW (pe_fldK (K := K) rfl (pv 0))) (blkOk_by (own := [("room", 4)]) (by kernel_rfl)) (fun _ _ _ _ _ => (pg_name (i := 4) sc.nd rfl (Or.inl rfl))) (fun _ _ _ _ _ => pts_nil) (fun _ _ _ _ _ => (C8.pe_c c_law_is_number hr (by decide) rfl (pa_cons (pv 4) (pa_cons pe_int (pa_cons (pe_op op_sub (pv 2) pe_int) pa_nil)))))) pa_nil)))) 
        (pss_one (ps_ret pe_bl)) pss_nil)
      (pss_one (ps_ret (pe_callB (id := "all") (cr_all rfl) (by rfl) T.all (by decide +kernel) (pa_cons (pe_lc (own := [("k", 5)]) (g := gName 5) rfl sc.nd (pi_range1 (by rfl) T.range (pa_cons (pe_op op_sub (pe_callB (call_lenQ (K := K) rfl) (by rfl) T.len PySem.boot_len (pa_cons (pe_fldK (K := K) rfl (pv 0)) pa_nil)) pe_int) pa_nil)) (blkOk_by (own := [("k", 5)]) (by kernel_rfl)) (fun _ _ _ _ _ => (pg_name (i := 5) sc.nd rfl (Or.inl rfl))) (fun _ _ _ _ _ => pts_nil) (fun _ _ _ _ _ => (pe_cmpR op_lt (pe_ix (ixQ (K := K) rfl) (pe_fldK (K := K) rfl (pv 0)) (pv 5) (fun _ _ => rfl)) (pe_ix (ixQ (K := K) rfl) (pe_fldK (K := K) rfl (pv 0)) (pe_op op_add (pv 5) pe_int) (fun _ _ => rfl)) (nomark _)))) pa_nil))))))))), ?_⟩
    have S0 := Same.refl H
    refine ⟨_, rfl, _, _, _, _, _, rfl, .own _, hx.ty R RI, RI.self, _, rfl, iteF ?_⟩
    refine ⟨_, rfl, x, ad.Reader, dx, _, _, rfl, ex, R.cl, R.n1, rfl, _, rfl, rfl, _, rfl, ?_⟩
    rw [decide_eq_true (rfl : V.str al = V.str al)]
    refine iteF ⟨_, rfl, x, ad.Reader, dx, _, _, rfl, ex, R.cl, R.n2, rfl, _, _, _, _, _, rfl, .ty _, .base (.tup hm), kit_lit (d := .tup []) (T := "tuple") (by decide) rfl, _, rfl, iteF ?_⟩
    refine ⟨_, rfl, x, ad.Reader, dx, _, _, rfl, ex, R.cl, R.n2, rfl, am, xm, rfl, .inr (.inl (.inl hm)), ?_⟩
    refine ⟨_, rfl, rfl, _, rfl, ?_⟩
    rw [decide_eq_false (show ¬ V.int (xm.length : Int) = V.int 0 from fun z => by have := V.int.inj z; omega)]
    refine iteF ⟨_, rfl, x, ad.Reader, dx, _, _, rfl, ex, R.cl, R.n3, rfl, _, _, _, _, _, rfl, .ty _, .base (.tup hg), kit_lit (d := .tup []) (T := "tuple") (by decide) rfl, _, rfl, iteF ?_⟩
    refine ⟨_, rfl, x, ad.Reader, dx, _, _, rfl, ex, R.cl, R.n2, rfl, am, xm, rfl, .inr (.inl (.inl hm)), fun J G w hG => ?_⟩
    refine for_it w (fun i σ H' => Iv (Same H H' ∧ ∃ b, σ = [some (.ref x), some (.str al), some (.int (xm.length : Int)), b, none, none])) (.of ⟨S0, _, rfl⟩) (fun i σ H2 _ hp => hG H2 hp.get.1) (fun i y σ H2 H3 hi hp hy => ?_) (fun σ H2 hp => ?_)
    · obtain ⟨s2, eb, rfl⟩ := hp.get
      obtain ⟨rfl, hy⟩ := hy
      obtain ⟨e, he, re⟩ := rsm.item hy
      obtain ⟨r, hr, rfl⟩ : ∃ r, mv[i]? = some r ∧ rowT r = e := by
        rw [List.getElem?_map] at he
        cases hr : mv[i]? with
        | none => rw [hr] at he; cases he
        | some r => rw [hr] at he; exact ⟨r, rfl, Option.some.inj he⟩
      have hrow := M.row r (List.mem_of_getElem? hr)
      obtain ⟨ar, xr, rfl, _, har, rsr⟩ := re.tupItem
      have er : xr = r.map V.int := rsr.ints_eq
      subst er
      have har2 := s2 _ _ har
      refine ⟨_, rfl, _, _, _, _, _, rfl, .ty _, .base (.tup har2), kit_lit (d := .tup []) (T := "tuple") (by decide) rfl, _, rfl, iteF ?_⟩
      refine ⟨_, rfl, ar, _, rfl, .inr (.inl (.inl har2)), _, rfl, _, rfl, Nat.le_trans hz (by decide), rfl, _, rfl, ?_⟩
      rw [show V.int ((r.map V.int).length : Int) = V.int (al.length : Int) by rw [List.length_map, hrow.1], decide_eq_true rfl]
      refine iteF ⟨_, rfl, ar, _, rfl, .inr (.inl (.inl har2)), fun J2 G2 w2 hG2 L hL => lc_F (j := 4) (Xp := fun i v => (r.map V.int)[i]? = some v) (fun _ => .bl true) w2 (fun i H v H' _ y => y) hL (by rw [List.length_map]; omega) (fun H s => hG2 H s) (fun _ => rfl) (fun j v H5 hj hv s6 Kt ht => ?_) (fun ys H5 s6 e6 r6 => ?_)⟩
      · rw [List.getElem?_map] at hv
        cases hz2 : r[j]? with
        | none => rw [hz2] at hv; cases hv
        | some z =>
          rw [hz2] at hv
          cases hv
          have hb := hrow.2 z (List.mem_of_getElem? hz2)
          refine ⟨_, rfl, _, rfl, _, _, rfl, rfl, [], .int z, .int z, _, _, rfl, .int z, ht _ _ (Same.refl _) ?_⟩
          rw [inr_int, decide_eq_true hb.1, decide_eq_true (show z ≤ (xm.length : Int) - 1 by omega)]
          exact .bl true
      · have ey := r6.bls_eq (n := 0) (g := fun _ => true)
        subst ey
        refine ⟨_, _, rfl, SqL.of e6, _, rfl, ?_⟩
        rw [all_true fun _ _ => rfl]
        exact iteF (.of ⟨s2.trans s6, _, rfl⟩)
    · obtain ⟨s2, eb, rfl⟩ := hp.get
      refine ⟨_, rfl, x, ad.Reader, dx, _, _, rfl, (s2) _ _ ex, R.cl, R.n3, rfl, ag, _, rfl, .inr (.inl (.inl (s2 _ _ hg))), fun J2 G2 w2 hG2 L hL => lc_F (j := 4) (Xp := fun i v => (g.map V.int)[i]? = some v) (fun _ => .bl true) w2 (fun i H v H' _ y => y) hL (by rw [List.length_map]; omega) (fun H s => hG2 H s) (fun _ => rfl) (fun j v H5 hj hv s6 Kt ht => ?_) (fun ys H5 s6 e6 r6 => ?_)⟩
      · rw [List.getElem?_map] at hv
        cases hz2 : g[j]? with
        | none => rw [hz2] at hv; cases hv
        | some z =>
          rw [hz2] at hv
          cases hv
          have hb := M.inn z (List.mem_of_getElem? hz2)
          refine ⟨_, rfl, _, rfl, _, _, rfl, rfl, [], .int z, .int z, _, _, rfl, .int z, ht _ _ (Same.refl _) ?_⟩
          rw [inr_int, decide_eq_true hb.1, decide_eq_true (show z ≤ (xm.length : Int) - 1 by omega)]
          exact .bl true
      · have ey := r6.bls_eq (n := 0) (g := fun _ => true)
        subst ey
        refine ⟨_, _, rfl, SqL.of e6, _, rfl, ?_⟩
        rw [all_true fun _ _ => rfl]
        have s7 := s2.trans s6
        refine iteF ⟨_, rfl, x, ad.Reader, dx, _, _, rfl, (s7) _ _ ex, R.cl, R.n3, rfl, ag, _, rfl, .inr (.inl (.inl (s7 _ _ hg))), _, _, rfl, rfl, _, rfl, ?_⟩
        refine ⟨by rw [List.length_map]; omega, by rw [List.length_map]; omega, fun L2 hL2 => lc_F (j := 5) (Xp := fun i v => v = .int (0 + (i : Int))) (fun _ => .bl true) (walk_range (lo := 0)) (fun i H v H' _ y => ⟨y.1, y.2⟩) hL2 (by rw [List.length_map]; omega) (fun _ _ => trivial) (fun _ => rfl) (fun i v H8 hi hv s8 Kt ht => ?_) (fun ys H8 s8 e8 r8 => ?_)⟩
        · subst hv
          rw [List.length_map] at hi
          have s9 := s7.trans s8
          have ha : atI (g.map V.int) (0 + (i : Int)) = some (.int (g[i]'(by omega))) := by
            rw [Int.zero_add]
            exact atI_nat (by rw [List.getElem?_map, List.getElem?_eq_getElem (show i < g.length by omega)]; rfl)
          have hb : atI (g.map V.int) (0 + (i : Int) + 1) = some (.int (g[i + 1]'(by omega))) := by
            rw [show (0 + (i : Int) + 1) = ((i + 1 : Nat) : Int) by omega]
            exact atI_nat (by rw [List.getElem?_map, List.getElem?_eq_getElem (show i + 1 < g.length by omega)]; rfl)
          refine ⟨_, rfl, x, ad.Reader, dx, _, _, rfl, (s9) _ _ ex, R.cl, R.n3, rfl, _, rfl, ag, _, _, _, rfl, rfl, .inr (.inl (.inl (s9 _ _ hg))), ha, _, rfl, x, ad.Reader, dx, _, _, rfl, (s9) _ _ ex, R.cl, R.n3, rfl, _, rfl, _, _, rfl, rfl, ag, _, _, _, rfl, rfl, .inr (.inl (.inl (s9 _ _ hg))), hb, _, _, rfl, rfl, ht _ _ (Same.refl _) ?_⟩
          have hlt : g[i]'(by omega) < g[i + 1]'(by omega) := List.pairwise_iff_getElem.mp M.asc i (i + 1) (by omega) (by omega) (by omega)
          show Rp _ _ (V.bl (decide (g[i]'(by omega) < g[i + 1]'(by omega)))) _
          rw [decide_eq_true hlt]
          exact .bl true
        · have ey := r8.bls_eq (n := 0) (g := fun _ => true)
          subst ey
          refine ⟨_, _, rfl, SqL.of e8, ?_⟩
          rw [all_true fun _ _ => rfl]
          exact k _ (s7.trans s8)
end

/-! ### _law_ends, _law_right -/
theorem over_fault {al t : Str} (h : Over al t) (hl : t.length ≤ 40) : (D.str t).fault al 40 = none := by
  rw [fault_str, if_neg (by omega)]
  have e : (t.cps.toList.findIdx? fun c => !decide (c ∈ al.cps.toList)) = none := by
    rw [List.findIdx?_eq_none_iff]
    intro c hc
    simp [h c hc]
  rw [e]
  rfl
theorem Rps.reps {S : List Addr} {H : Hp} {n : Nat} {ys : List V} (h : Rps S H ys ((List.range n).map fun _ => D.int 0)) : Rps S H ys ((List.replicate n (0 : Int)).map D.int) := by
  have e : ((List.range n).map fun _ => D.int 0) = (List.replicate n (0 : Int)).map D.int := by
    refine List.ext_getElem? fun i => ?_
    simp only [List.getElem?_map, List.getElem?_range, List.getElem?_replicate]
    by_cases hi : i < n <;> simp [hi]
  rw [← e]
  exact h
theorem eq_lowT {K : PySem.W.Frag} {S T : List Addr} {H : Hp} {x y : V} {a : D} {n : Nat} {Q : VK} (rx : Rp S H x a) (ry : Rp T H y a) (la : Low n a) (hn : n ≤ 64) (q : Q (.bl true) H) : rEqD K x y H Q := eq_low rx ry la la hn hn True (by simp) q
theorem ne_lowT {K : PySem.W.Frag} {S T : List Addr} {H : Hp} {x y : V} {a : D} {n : Nat} {Q : VK} (rx : Rp S H x a) (ry : Rp T H y a) (la : Low n a) (hn : n ≤ 64) (q : Q (.bl false) H) : rNeD K x y H Q := ne_low rx ry la la hn hn True (by simp) (by simpa using q)
theorem mvT_range (mv : List (List Int)) : (List.range mv.length).map (fun i => rowT (mv.getD i [])) = mv.map rowT := by
  refine List.ext_getElem? fun i => ?_
  simp only [List.getElem?_map]
  by_cases hi : i < mv.length
  · rw [List.getElem?_range hi, List.getElem?_eq_getElem hi]
    show some (rowT (mv.getD i [])) = _
    rw [List.getD_eq_getElem?_getD, List.getElem?_eq_getElem hi]
    rfl
  · rw [List.getElem?_eq_none (by simpa using hi), List.getElem?_eq_none (by simpa using hi)]
    rfl
theorem rowD_item {S : List Addr} {H : Hp} {xs : List V} {mv : List (List Int)} (r1 : Rps S H xs (mv.map rowD)) {i : Nat} {x : V} (h : xs[i]? = some x) : ∃ r b, mv[i]? = some r ∧ x = .ref b ∧ b ∉ S ∧ H b = some (.lst (r.map V.int)) := by
  obtain ⟨dd, h1, h2⟩ := r1.item h
  rw [List.getElem?_map] at h1
  cases hr : mv[i]? with
  | none => rw [hr] at h1; cases h1
  | some r =>
    rw [hr] at h1
    cases h1
    cases h2 with
    | lst n e rs =>
      rw [rs.ints_eq] at e
      exact ⟨r, _, rfl, rfl, n, e⟩

/-! ### _law_equal -/
/-- what == asks of things that are no readers -/
structure RdQ (K : PySem.W.Frag) (C : Addr) : Prop where
  nR : PySem.W.notFirst K C (.ref C) = true
  nT : PySem.W.notFirst K C (.type "tuple") = true
  nS : PySem.W.notFirst K C (.type "str") = true
  kT : PySem.W.kitOne K (.type "tuple") (.ref C) = some false
  kS : PySem.W.kitOne K (.type "str") (.ref C) = some false
theorem RdAt.noA {ad : Ad} {A U : List Addr} {H : Hp} {x : Addr} {al : Str} {mv : List (List Int)} {g : List Int} (r : RdAt ad U H x al mv g) (s : ∀ a ∈ A, Src H a) : x ∉ A := fun hm => by
  obtain ⟨⟨dx, vm, vg, e, _⟩, _⟩ := r
  obtain ⟨c, d, n, q⟩ := s x hm
  rw [e] at q
  cases q
theorem RdAt.go {ad : Ad} {A S : List Addr} {H H' : Hp} {x : Addr} {al : Str} {mv : List (List Int)} {g : List Int} (r : RdAt ad A H x al mv g) (W : Wd A S H) (k : Go A H H') : RdAt ad A H' x al mv g := r.keep k.keep (r.noA W.src)
/-- a place that had nothing, changed -/
theorem RdAt.put {ad : Ad} {A : List Addr} {H0 H : Hp} {x b : Addr} {o : HO} {al : Str} {mv : List (List Int)} {g : List Int} (r : RdAt ad A H0 x al mv g) (s : Go A H0 H) (W : ∀ a ∈ A, Src H0 a) (hb : H0 b = none) : RdAt ad A (upd H b o) x al mv g := by
  have hx := r.noA W
  obtain ⟨⟨dx, vm, vg, e, rm, rg⟩, M⟩ := r
  have hxb : x ≠ b := fun h => by rw [h, hb] at e; cases e
  have m : ∀ a ∈ b :: A, a ∈ A ∨ H0 a = none := fun a ha => (List.mem_cons.mp ha).elim (fun e => .inr (by rw [e]; exact hb)) .inl
  have k : Keep (b :: A) H0 (upd H b o) := (s.keep.mono fun a ha => List.mem_cons_of_mem _ ha).trans (Keep.upd (List.mem_cons_self ..))
  refine ⟨⟨dx, vm, vg, k x _ (fun hm => ?_) e, ((rm.more m).keep k).less fun _ h => List.mem_cons_of_mem _ h, ((rg.more m).keep k).less fun _ h => List.mem_cons_of_mem _ h⟩, M⟩
  rcases List.mem_cons.mp hm with h | h
  · exact hxb h
  · exact hx h
theorem bump {o d n : Int} (h0 : 0 ≤ o) (h1 : o < n) (h2 : 0 ≤ d) (h3 : d < n - 1) : 0 ≤ (o + 1 + d) % n ∧ (o + 1 + d) % n < n ∧ (o + 1 + d) % n ≠ o := by
  by_cases h : o + 1 + d < n
  · rw [Int.emod_eq_of_lt (by omega) h]
    omega
  · have e : (o + 1 + d) % n = o + 1 + d - n := by
      rw [show o + 1 + d = (o + 1 + d - n) + n by omega, Int.add_emod_right, Int.emod_eq_of_lt (by omega) (by omega)]
      omega
    rw [e]
    omega
theorem Rps.ints_any {S T : List Addr} {H H' : Hp} {vs : List V} {ns : List Int} (r : Rps S H vs (ns.map D.int)) : Rps T H' vs (ns.map D.int) := by
  rw [r.ints_eq]
  exact Rps.ints ns
/-- tuples aren't where a list is -/
theorem rowT_off {U : List Addr} {H : Hp} {b : Addr} {zs : List V} {v : V} {r : List Int} (h : Rp U H v (rowT r)) (hb : H b = some (.lst zs)) : Rp (b :: U) H v (rowT r) := by
  obtain ⟨a, xs, rfl, n, e, rs⟩ := h.tupItem
  refine .tup (fun hm => ?_) e rs.ints_any
  rcases List.mem_cons.mp hm with z | hm
  · rw [z, hb] at e; cases e
  · exact n hm
theorem mvT_off {U : List Addr} {H : Hp} {b : Addr} {zs : List V} {v : V} {mv : List (List Int)} (h : Rp U H v (mvT mv)) (hb : H b = some (.lst zs)) : Rp (b :: U) H v (mvT mv) := by
  obtain ⟨a, xs, rfl, n, e, rs⟩ := h.tupItem
  refine .tup (fun hm => ?_) e (Rps.of_get rs.len fun j y d h1 h2 => ?_)
  · rcases List.mem_cons.mp hm with z | hm
    · rw [z, hb] at e; cases e
    · exact n hm
  · obtain ⟨dd, h3, h4⟩ := rs.item h1
    rw [h2] at h3
    cases h3
    rw [List.getElem?_map] at h2
    cases hr : mv[j]? with
    | none => rw [hr] at h2; cases h2
    | some r =>
      rw [hr] at h2
      cases h2
      exact rowT_off h4 hb
/-- a list changed -/
theorem RdAt.updL {ad : Ad} {A : List Addr} {H : Hp} {x b : Addr} {zs : List V} {o : HO} {al : Str} {mv : List (List Int)} {g : List Int} (r : RdAt ad A H x al mv g) (W : ∀ a ∈ A, Src H a) (hb : H b = some (.lst zs)) : RdAt ad A (upd H b o) x al mv g := by
  have hx := r.noA W
  obtain ⟨⟨dx, vm, vg, e, rm, rg⟩, M⟩ := r
  have hxb : x ≠ b := fun h => by rw [h, hb] at e; cases e
  have k : Keep (b :: A) H (upd H b o) := Keep.upd (List.mem_cons_self ..)
  exact ⟨⟨dx, vm, vg, (upd_ne hxb).trans e, ((mvT_off rm hb).keep k).less fun _ h => List.mem_cons_of_mem _ h, ((rowT_off rg hb).keep k).less fun _ h => List.mem_cons_of_mem _ h⟩, M⟩
theorem rowT_item {S : List Addr} {H : Hp} {xs : List V} {mv : List (List Int)} (r1 : Rps S H xs (mv.map rowT)) {i : Nat} {x : V} (h : xs[i]? = some x) : ∃ r b, mv[i]? = some r ∧ x = .ref b ∧ b ∉ S ∧ H b = some (.tup (r.map V.int)) := by
  obtain ⟨dd, h1, h2⟩ := r1.item h
  rw [List.getElem?_map] at h1
  cases hr : mv[i]? with
  | none => rw [hr] at h1; cases h1
  | some r =>
    rw [hr] at h1
    cases h1
    obtain ⟨b, zs, rfl, n, e, rs⟩ := h2.tupItem
    rw [rs.ints_eq] at e
    exact ⟨r, _, rfl, rfl, n, e⟩
theorem Src.updL {A : List Addr} {H : Hp} {b : Addr} {o : HO} (W : ∀ a ∈ A, Src H a) (hb : b ∉ A) : ∀ a ∈ A, Src (upd H b o) a := fun a ha => by
  obtain ⟨x, s, c, q⟩ := W a ha
  exact ⟨x, s, c, by rw [upd_ne (fun z => hb (by rw [← z]; exact ha))]; exact q⟩
theorem Wd.updL {A S : List Addr} {H : Hp} {b : Addr} {o : HO} (W : Wd A S H) (hb : b ∉ A) : Wd A S (upd H b o) := ⟨W.sub, Src.updL W.src hb, fun a ha => by
  obtain ⟨o2, e⟩ := W.ex a ha
  by_cases h : a = b
  · subst h; exact ⟨_, upd_same⟩
  · exact ⟨o2, (upd_ne h).trans e⟩⟩
/-- moves, one changed -/
def setM (mv : List (List Int)) (r : List Int) (i j : Nat) (z : Int) : List (List Int) := mv.set i (r.set j z)
theorem setM_map {mv : List (List Int)} {r : List Int} {i j : Nat} {z : Int} : (setM mv r i j z).map rowD = (mv.map rowD).set i (.lst ((r.map D.int).set j (.int z))) := by
  unfold setM
  rw [List.map_set]
  show (mv.map rowD).set i (.lst ((r.set j z).map D.int)) = _
  rw [List.map_set]
theorem setM_mach {k : Nat} {mv : List (List Int)} {g r : List Int} {i j : Nat} {z : Int} (M : Mach k mv g) (hr : mv[i]? = some r) (h0 : 0 ≤ z) (h1 : z < (mv.length : Int)) : Mach k (setM mv r i j z) g := by
  have hl : (setM mv r i j z).length = mv.length := by unfold setM; rw [List.length_set]
  refine ⟨by rw [hl]; exact M.pos, by rw [hl]; exact M.most, fun q hq => ?_, M.asc, by rw [hl]; exact M.inn⟩
  rw [hl]
  rcases List.mem_or_eq_of_mem_set hq with hq | rfl
  · exact M.row q hq
  · have hm := M.row r (List.mem_of_getElem? hr)
    refine ⟨by rw [List.length_set]; exact hm.1, fun x hx => ?_⟩
    rcases List.mem_or_eq_of_mem_set hx with hx | rfl
    · exact hm.2 x hx
    · exact ⟨h0, h1⟩
theorem setM_ne {mv : List (List Int)} {r : List Int} {i j : Nat} {z o : Int} (hr : mv[i]? = some r) (ho : r[j]? = some o) (hz : z ≠ o) : mv ≠ setM mv r i j z := fun e => by
  have h1 : (setM mv r i j z)[i]? = some (r.set j z) := by
    unfold setM
    exact List.getElem?_set_self (List.getElem?_eq_some_iff.mp hr).1
  rw [← e, hr] at h1
  have h2 : r[j]? = (r.set j z)[j]? := congrArg (fun l => l[j]?) (Option.some.inj h1)
  rw [List.getElem?_set_self (List.getElem?_eq_some_iff.mp ho).1, ho] at h2
  exact hz (Option.some.inj h2).symm
/-- readers that are not the same as it -/
def Oths (ad : Ad) (A : List Addr) (H : Hp) (al : Str) (mv : List (List Int)) (g : List Int) (ys : List V) : Prop := ∀ y ∈ ys, ∃ (b : Addr) (al2 : Str) (mv2 : List (List Int)) (g2 : List Int), y = .ref b ∧ RdAt ad A H b al2 mv2 g2 ∧ ¬ (al = al2 ∧ mv = mv2 ∧ g = g2)
theorem ixN_at {n j : Nat} (hj : j < n) : ixN n (j : Int) = some j := by
  unfold ixN
  rw [if_pos (by omega), if_pos (by omega)]
  simp
theorem Oths.go {ad : Ad} {A S : List Addr} {H H' : Hp} {al : Str} {mv : List (List Int)} {g : List Int} {ys : List V} (h : Oths ad A H al mv g ys) (W : Wd A S H) (k : Go A H H') : Oths ad A H' al mv g ys := fun y hy => by
  obtain ⟨b, al2, mv2, g2, e, r, n⟩ := h y hy
  exact ⟨b, al2, mv2, g2, e, r.go W k, n⟩
theorem Oths.updL {ad : Ad} {A : List Addr} {H : Hp} {b : Addr} {zs : List V} {o : HO} {al : Str} {mv : List (List Int)} {g : List Int} {ys : List V} (h : Oths ad A H al mv g ys) (W : ∀ a ∈ A, Src H a) (hb : H b = some (.lst zs)) : Oths ad A (upd H b o) al mv g ys := fun y hy => by
  obtain ⟨c, al2, mv2, g2, e, r, n⟩ := h y hy
  exact ⟨c, al2, mv2, g2, e, r.updL W hb, n⟩
theorem Go.put {A S : List Addr} {H H1 : Hp} {b : Addr} {o : HO} (W : Wd A S H) (g : Go A H H1) (hb : H b = .none) : Go A H (L2.upd H1 b o) := by
  have hbA : b ∉ A := fun q => (W.fresh hb) (W.sub _ q)
  exact ⟨fun c u hc e => by
    rw [upd_ne (ne_of_none e hb)]
    exact g.keep c u hc e, fun h => Src.updL (g.src h) hbA⟩
/-- the good rooms, one turned -/
def turnG (g : List Int) (n : Nat) (at_ : Int) : List Int := ((List.range n).filter fun p => decide (((p : Nat) : Int) ∈ g) != decide (((p : Nat) : Int) = at_)).map fun p => ((p : Nat) : Int)
theorem turn_asc (g : List Int) (n : Nat) (at_ : Int) : (turnG g n at_).Pairwise (· < ·) := by
  unfold turnG
  rw [List.pairwise_map]
  refine (List.pairwise_lt_range.sublist List.filter_sublist).imp fun {a b} h => ?_
  omega
theorem turn_in (g : List Int) (n : Nat) (at_ : Int) : ∀ x ∈ turnG g n at_, 0 ≤ x ∧ x < (n : Int) := fun x hx => by
  obtain ⟨p, hp, rfl⟩ := List.mem_map.mp hx
  have := List.mem_range.mp (List.mem_filter.mp hp).1
  omega
theorem turn_ne (g : List Int) (n : Nat) (at_ : Int) (h0 : 0 ≤ at_) (h1 : at_ < (n : Int)) : g ≠ turnG g n at_ := fun e => by
  have h : at_ ∈ turnG g n at_ ↔ ¬ at_ ∈ g := by
    constructor
    · intro h
      obtain ⟨p, hp, e2⟩ := List.mem_map.mp h
      have := (List.mem_filter.mp hp).2
      subst e2
      intro hg
      simp [hg] at this
    · intro h
      refine List.mem_map.mpr ⟨at_.toNat, List.mem_filter.mpr ⟨List.mem_range.mpr (by omega), ?_⟩, by omega⟩
      have e2 : ((at_.toNat : Nat) : Int) = at_ := by omega
      simp [e2, h]
  rw [← e] at h
  by_cases hg : at_ ∈ g
  · exact h.mp hg hg
  · exact hg (h.mpr hg)
theorem turn_snoc (g : List Int) (n : Nat) (at_ : Int) : turnG g (n + 1) at_ = turnG g n at_ ++ (if (decide ((n : Int) ∈ g) != decide ((n : Int) = at_)) = true then [(n : Int)] else []) := by
  unfold turnG
  rw [List.range_succ, List.filter_append, List.map_append]
  congr 1
  by_cases h : (decide ((n : Int) ∈ g) != decide ((n : Int) = at_)) = true
  · rw [if_pos h, List.filter_cons, if_pos h]
    rfl
  · rw [if_neg h, List.filter_cons, if_neg h]
    rfl
/-- another alphabet of that length -/
def othAl (n : Nat) : Str := if n = 1 then "z" else if n = 2 then "bc" else "abd"
theorem oth_ok {al : Str} (h : IsAl al) : alOk (othAl al.length) = true ∧ (othAl al.length).length = al.length ∧ al ≠ othAl al.length ∧ alOk al = true := by
  obtain ⟨l, hl, rfl⟩ := h
  revert l
  decide +kernel
theorem oth_at {al : Str} (h : IsAl al) : atI [V.str (Str.ofString "z"), V.str (Str.ofString "bc"), V.str (Str.ofString "abd")] ((al.length : Int) - 1) = some (V.str (othAl al.length)) := by
  have := h.len
  rcases (show al.length = 1 ∨ al.length = 2 ∨ al.length = 3 by omega) with h | h | h <;> rw [h] <;> rfl
section
open PyProof.Rows
variable {P : Program} {w : World} {K : PySem.W.Frag} {mg : Str → Option Value} {base : Heap} {ad : Ad}
/-- == and != of two readers -/
theorem eqR {A B : List Addr} {H : Hp} {x y : Addr} {al al2 : Str} {mv mv2 : List (List Int)} {g g2 : List Int} {neg : Bool} {Q : VK} (R : RdC K ad.Reader) (RI : RdI K ad.Reader) (RQ : RdQ K ad.Reader) (rx : RdAt ad A H x al mv g) (ry : RdAt ad B H y al2 mv2 g2)
    (q : Q (.bl (if neg then !decide (al = al2 ∧ mv = mv2 ∧ g = g2) else decide (al = al2 ∧ mv = mv2 ∧ g = g2))) H) : rEqO K ad.Reader (spEqR K ad) neg (.ref x) (.ref y) H Q := by
  obtain ⟨dx, vm, vg, ex, _, _⟩ := rx.ex
  exact ⟨x, dx, _, _, rfl, ex, ry.ty R RI, RQ.nR, A, x, al, mv, g, _, rfl, rx, .inl ⟨B, y, al2, mv2, g2, rfl, ry, _, rfl, q⟩⟩
theorem eqR_is {A B : List Addr} {H : Hp} {x y : Addr} {al : Str} {mv : List (List Int)} {g : List Int} {neg : Bool} {Q : VK} (R : RdC K ad.Reader) (RI : RdI K ad.Reader) (RQ : RdQ K ad.Reader) (rx : RdAt ad A H x al mv g) (ry : RdAt ad B H y al mv g)
    (q : Q (.bl (!neg)) H) : rEqO K ad.Reader (spEqR K ad) neg (.ref x) (.ref y) H Q := eqR R RI RQ rx ry (by cases neg <;> simpa using q)
theorem eqR_no {A B : List Addr} {H : Hp} {x y : Addr} {al al2 : Str} {mv mv2 : List (List Int)} {g g2 : List Int} {neg : Bool} {Q : VK} (R : RdC K ad.Reader) (RI : RdI K ad.Reader) (RQ : RdQ K ad.Reader) (rx : RdAt ad A H x al mv g) (ry : RdAt ad B H y al2 mv2 g2)
    (n : ¬ (al = al2 ∧ mv = mv2 ∧ g = g2)) (q : Q (.bl neg) H) : rEqO K ad.Reader (spEqR K ad) neg (.ref x) (.ref y) H Q := eqR R RI RQ rx ry (by rw [decide_eq_false n]; cases neg <;> exact q)
end

/-! ### reached_rooms -/
open MA
/-- the dict at d, by numbers -/
def DkF (H : Hp) (d : Addr) (f : Int → Option V) (n : Nat) : Prop := ∃ kvs, H d = some (.dK kvs) ∧ (∀ x : Int, valV kvs (.inl x) = f x) ∧ kvs.length ≤ n
theorem DkF.get {H : Hp} {d : Addr} {f : Int → Option V} {n : Nat} (h : DkF H d f n) (x : Int) : DGet H d (.int x) (f x) := by
  obtain ⟨kvs, e, q, _⟩ := h
  rw [← q x]
  exact DGet.k (k := .inl x) e
theorem DkF.at {H : Hp} {d : Addr} {f : Int → Option V} {n : Nat} (h : DkF H d f n) {x : Int} {v : V} (e : f x = some v) : DGet H d (.int x) (some v) := e ▸ h.get x
theorem DkF.put {H : Hp} {d : Addr} {f : Int → Option V} {n : Nat} (h : DkF H d f n) (hn : n < 10000) (x : Int) (v : V) : ∃ H', DPut H d (.int x) v H' ∧ DkF H' d (fun y => if y = x then some v else f y) (n + 1) ∧ ∀ b, b ≠ d → H' b = H b := by
  obtain ⟨kvs, e, q, l⟩ := h
  refine ⟨_, DPut.k (k := .inl x) e (Nat.lt_of_le_of_lt l (Nat.lt_of_lt_of_le hn (by decide))), ⟨_, upd_same, fun y => ?_, Nat.le_trans (length_putK ..) (by omega)⟩, fun b hb => upd_ne hb⟩
  rw [valV_put, q y]
  show (if Sum.inl y = Sum.inl x then some v else f y) = if y = x then some v else f y
  by_cases h : y = x
  · rw [if_pos h, if_pos (by rw [h])]
  · rw [if_neg h, if_neg (fun z => h (Sum.inl.inj z))]
theorem DkF.keep {H H' : Hp} {d : Addr} {f : Int → Option V} {n : Nat} (h : DkF H d f n) (e : H' d = H d) : DkF H' d f n := by
  obtain ⟨kvs, q, r⟩ := h
  exact ⟨kvs, e.trans q, r⟩
theorem DkF.fn {H : Hp} {d : Addr} {f f' : Int → Option V} {n m : Nat} (h : DkF H d f n) (e : ∀ x, f x = f' x) (l : n ≤ m) : DkF H d f' m := by
  obtain ⟨kvs, q, r, s⟩ := h
  exact ⟨kvs, q, fun x => (r x).trans (e x), Nat.le_trans s l⟩
/-- what stands in a list of numbers -/
def inO (o : List Int) (x : Int) : Option V := if x ∈ o then some (.bl true) else none
theorem inO_snoc (o : List Int) (t x : Int) : (if x = t then some (V.bl true) else inO o x) = inO (o ++ [t]) x := by
  unfold inO
  by_cases h : x = t
  · simp [h]
  · by_cases h2 : x ∈ o <;> simp [h, h2]
theorem keep_new {H H' : Hp} {S : List Addr} (k : Keep S H H') (h : ∀ a ∈ S, H a = none) : Same H H' := fun b o e => k b o (fun hm => by rw [h b hm] at e; cases e) e
theorem rowT_at {U : List Addr} {H : Hp} {v : V} {mv : List (List Int)} {p : Int} {r : List Int} (r0 : Rp U H v (mvT mv)) (h0 : 0 ≤ p) (hr : mv[p.toNat]? = some r) :
    ∃ a xs b, v = .ref a ∧ a ∉ U ∧ H a = some (.tup xs) ∧ atI xs p = some (.ref b) ∧ b ∉ U ∧ H b = some (.tup (r.map V.int)) := by
  obtain ⟨a, xs, rfl, ha, e, rs⟩ := r0.tupItem
  obtain ⟨u, hu, ru⟩ := rs.get (i := p.toNat) (d := rowT r) (by rw [List.getElem?_map, hr]; rfl)
  obtain ⟨b, ys, rfl, hb, e2, rs2⟩ := ru.tupItem
  rw [rs2.ints_eq] at e2
  refine ⟨a, xs, b, rfl, ha, e, ?_, hb, e2⟩
  rw [show p = ((p.toNat : Nat) : Int) by omega]
  exact atI_nat hu
/-- moves as a list or tuple of tuples -/
structure MvQ (S : List Addr) (H : Hp) (v : V) (mv : List (List Int)) : Prop where
  ex : ∃ a xs, v = .ref a ∧ a ∉ S ∧ (H a = some (.lst xs) ∨ H a = some (.tup xs)) ∧ Rps S H xs (mv.map rowT)
theorem MvQ.ofT {S : List Addr} {H : Hp} {v : V} {mv : List (List Int)} (r : Rp S H v (mvT mv)) : MvQ S H v mv := by
  obtain ⟨a, xs, rfl, ha, e, rs⟩ := r.tupItem
  exact ⟨a, xs, rfl, ha, .inr e, rs⟩
theorem MvQ.keep {S : List Addr} {H H' : Hp} {v : V} {mv : List (List Int)} (r : MvQ S H v mv) (k : Keep S H H') : MvQ S H' v mv := by
  obtain ⟨a, xs, rfl, ha, e, rs⟩ := r.ex
  exact ⟨a, xs, rfl, ha, e.imp (k _ _ ha) (k _ _ ha), rs.keep k⟩
theorem MvQ.same {S : List Addr} {H H' : Hp} {v : V} {mv : List (List Int)} (r : MvQ S H v mv) (s : Same H H') : MvQ S H' v mv := r.keep (Keep.same s)
theorem sqo {K : PySem.W.Frag} {H : Hp} {a : Addr} {xs : List V} (e : H a = some (.lst xs) ∨ H a = some (.tup xs)) : SqQ K H a xs := e.elim (fun e => .inl (SqL.of e)) (fun e => .inr (.inl (.inl e)))
theorem mvQ_at {U : List Addr} {H : Hp} {v : V} {mv : List (List Int)} {p : Int} {r : List Int} (r0 : MvQ U H v mv) (h0 : 0 ≤ p) (hr : mv[p.toNat]? = some r) :
    ∃ a xs b, v = .ref a ∧ a ∉ U ∧ (H a = some (.lst xs) ∨ H a = some (.tup xs)) ∧ atI xs p = some (.ref b) ∧ b ∉ U ∧ H b = some (.tup (r.map V.int)) := by
  obtain ⟨a, xs, rfl, ha, e, rs⟩ := r0.ex
  obtain ⟨u, hu, ru⟩ := rs.get (i := p.toNat) (d := rowT r) (by rw [List.getElem?_map, hr]; rfl)
  obtain ⟨b, ys, rfl, hb, e2, rs2⟩ := ru.tupItem
  rw [rs2.ints_eq] at e2
  refine ⟨a, xs, b, rfl, ha, e, ?_, hb, e2⟩
  rw [show p = ((p.toNat : Nat) : Int) by omega]
  exact atI_nat hu
abbrev sReached : Stmt := top 22
def spReached : Sp := fun vs H Q _ => ∃ (S : List Addr) (v : V) (k : Nat) (mv : List (List Int)) (g : List Int), vs = [v] ∧ MvQ S H v mv ∧ MachW k mv g ∧ k ≤ 3 ∧
  ∀ (p : Addr) (H' : Hp), H p = none → Same H H' → H' p = some (.lst ((rooms mv).map V.int)) → Q (.ref p) H'
section
open PyProof.Rows
variable {P : Program} {w : World} {K : PySem.W.Frag} {mg : Str → Option Value} {base : Heap}
theorem scReached : FnScope ["moves", "found", "order", "at", "target"] ["moves"] (C8.fnScope sReached) := C8.fnScope_by (by decide +kernel)
theorem ok_reached {f : Addr} {fd : FuncData} (F : C8.Def K mg "reached_rooms" sReached f fd) (b : Binds K fd ["moves"] []) (T : Txt mg) : C8.Cal P w K mg base 1 "reached_rooms" spReached [] := by
  refine C8.cal0 F b .nil scReached (fun vs H Q E h => ?_) (fun cdv A outer s H vs Q E hr h => ?_)
  · obtain ⟨S, v, k, mv, g, rfl, _⟩ := h
    rfl
  · obtain ⟨S, v, k, mv, g, rfl, rm, M, hk, kk⟩ := h
    have sc := scReached
    have hu : (A.deeper (envOfC "reached_rooms" (C8.fnScope sReached) s.heap.objs.size f cdv)).units + 1 < cLine := by have := hr.un; omega
    refine ⟨_, -- reached_rooms: 0 moves 1 found 2 order 3 at 4 target

      (pss_cons (ps_set (i := 1) sc.nd rfl (Or.inl rfl) (pe_disp (pps_cons pe_int pe_bl pps_nil) rfl rfl (by simp) (by decide)))
      (pss_cons (ps_set (i := 2) sc.nd rfl (Or.inl rfl) (pe_lst (pa_cons pe_int pa_nil)))
      (pss_cons (ps_set (i := 3) sc.nd rfl (Or.inl rfl) pe_int)
      (pss_cons (ps_while PassesOwn.never (pt_cmpR op_lt (pv 3) (pe_callB (call_lenQ (K := K) rfl) (by rfl) T.len PySem.boot_len (pa_cons (pv 2) pa_nil)) (nomark _)) 
        (pss_cons (ps_for PassesOwn.never rfl (pi_seqH (pe_ix (ixQ (K := K) rfl) (pv 0) (pe_ix ix_list (pv 2) (pv 3) (fun _ _ => rfl)) (fun _ _ => rfl))) (pg_name (i := 4) sc.nd rfl (Or.inl rfl)) 
          (pss_one (ps_if (pt_cmp (pc_dnotin hu (pv 4) (pv 1))) 
            (pss_cons (ps_dput hu (pv 1) (pv 4) pe_bl rfl)
            (pss_one (ps_expr (pe_append (K := K) rfl (pv 2) (pa_cons (pv 4) pa_nil))))) pss_nil)))
        (pss_one (ps_set (i := 3) sc.nd rfl (Or.inl rfl) (pe_op op_add (pv 3) pe_int)))))
      (pss_one (ps_ret (pv 2))))))), ?_⟩
    refine fun f hf => ⟨upd_same, [(.inl 0, .bl true)], rfl, by decide, ?_⟩
    refine ⟨by show 1 ≤ sizeLine; exact szl rfl, fun l hl => ?_⟩
    have fl : f ≠ l := fun e => by rw [← e, upd_same] at hl; cases hl
    have hl0 : H l = none := by
      rw [upd_ne (Ne.symm fl), upd_ne (Ne.symm fl)] at hl
      exact hl
    have K1 : Keep [f, l] H (upd (upd (upd H f (.dK [])) f (.dK (mergeK [] [(.inl 0, .bl true)]))) l (.lst [.int 0])) := fun b o hb e => by
      rw [upd_ne (fun z => hb (by simp [z])), upd_ne (fun z => hb (by simp [z])), upd_ne (fun z => hb (by simp [z]))]
      exact e
    have D1 : DkF (upd (upd (upd H f (.dK [])) f (.dK (mergeK [] [(.inl 0, .bl true)]))) l (.lst [.int 0])) f (inO [0]) 1 := ⟨[(.inl 0, .bl true)], by rw [upd_ne fl, upd_same]; rfl, fun x => by
      unfold inO
      by_cases hx : x = 0
      · subst hx; rfl
      · rw [if_neg (by simpa using hx)]
        exact valV_neg (fun z => hx (Sum.inl.inj z).symm), by decide⟩
    have L1 : upd (upd (upd H f (.dK [])) f (.dK (mergeK [] [(.inl 0, .bl true)]))) l (.lst [.int 0]) l = some (.lst ([0].map V.int)) := upd_same
    generalize upd (upd (upd H f (.dK [])) f (.dK (mergeK [] [(.inl 0, .bl true)]))) l (.lst [.int 0]) = H1 at K1 D1 L1 ⊢
    have nlen : ∀ i, (ordN (rowI mv) 0 i).length ≤ 3600 := fun i => by
      have h1 := ordN_len M.zero M.closed i
      rw [iota_len] at h1
      have := M.most
      omega
    refine ⟨fun m σ H' => ∃ i, m = mv.length + 1 - i ∧ i ≤ (ordN (rowI mv) 0 i).length ∧ i ≤ mv.length ∧ Keep [f, l] H H' ∧ DkF H' f (inO (ordN (rowI mv) 0 i)) (ordN (rowI mv) 0 i).length ∧ H' l = some (.lst ((ordN (rowI mv) 0 i).map V.int)) ∧
      ∃ b, σ = [some v, some (.ref f), some (.ref l), some (.int (i : Int)), b], ⟨_, 0, rfl, Nat.zero_le _, Nat.zero_le _, K1, D1, L1, _, rfl⟩, ?_⟩
    rintro m σ H2 ⟨i, rfl, hi, hin, K2, D2, L2', b4, rfl⟩
    refine ⟨_, rfl, _, rfl, l, _, rfl, .inl (SqL.of L2'), _, _, rfl, rfl, _, rfl, ?_⟩
    rw [List.length_map]
    by_cases hlt : i < (ordN (rowI mv) 0 i).length
    · rw [decide_eq_true (show (i : Int) < ((ordN (rowI mv) 0 i).length : Int) by omega)]
      obtain ⟨r, hr⟩ : ∃ r, (ordN (rowI mv) 0 i)[i]? = some r := ⟨_, List.getElem?_eq_getElem hlt⟩
      have hrI := ordN_in M.zero M.closed i r (List.mem_of_getElem? hr)
      obtain ⟨row, hrow, erow, hlr, hin2⟩ := M.rowI_at hrI
      obtain ⟨a, xs, b, rfl, ha, ea, eb1, hb, eb⟩ := mvQ_at (rm.keep (Keep.same (keep_new K2 fun a ha => by
        simp only [List.mem_cons, List.not_mem_nil, or_false] at ha
        rcases ha with rfl | rfl
        · exact hf
        · exact hl0))) (mem_iota.mp hrI).1 hrow
      have bf : b ≠ f := fun e => by
        obtain ⟨kvs, q, _⟩ := D2
        rw [e, q] at eb; cases eb
      have bl : b ≠ l := fun e => by rw [e, L2'] at eb; cases eb
      refine iteT ⟨fun σ' H' => (i + 1 ≤ (ordN (rowI mv) 0 (i + 1)).length ∧ Keep [f, l] H H' ∧ DkF H' f (inO (ordN (rowI mv) 0 (i + 1))) (ordN (rowI mv) 0 (i + 1)).length ∧ H' l = some (.lst ((ordN (rowI mv) 0 (i + 1)).map V.int)) ∧
        ∃ b, σ' = [some (.ref a), some (.ref f), some (.ref l), some (.int ((i + 1 : Nat) : Int)), b]), fun σ' H' h => ⟨mv.length + 1 - (i + 1), by omega, i + 1, rfl, h.1, by have := ordN_len M.zero M.closed i; rw [iota_len] at this; omega, h.2⟩, ?_⟩
      refine ⟨_, rfl, _, rfl, _, rfl, l, _, _, _, rfl, rfl, SqL.of L2', atI_nat (by rw [List.getElem?_map, hr]; rfl), a, xs, _, _, rfl, rfl, sqo ea, eb1, b, _, rfl, .inr eb, fun J G wJ hG => ?_⟩
      refine for_it wJ (fun j σ H' => Iv (Keep [f, l] H2 H' ∧ DkF H' f (inO (grow (ordN (rowI mv) 0 i) (row.take j))) (grow (ordN (rowI mv) 0 i) (row.take j)).length ∧ H' l = some (.lst ((grow (ordN (rowI mv) 0 i) (row.take j)).map V.int)) ∧
        ∃ b, σ = [some (.ref a), some (.ref f), some (.ref l), some (.int (i : Int)), b])) (.of ⟨Keep.refl _ _, D2, L2', _, rfl⟩) (fun _ _ _ _ hp => ?_) (fun j y σ H3 H4 hj hp hy => ?_) (fun σ H3 hp => ?_)
      · obtain ⟨k3, _⟩ := hp.get
        have := k3 b _ (by simp [bf, bl]) eb
        exact hG _ (this.trans eb.symm)
      · obtain ⟨k3, D3, L3, b5, rfl⟩ := hp.get
        obtain ⟨rfl, hy⟩ := hy
        obtain ⟨t, ht, rfl⟩ : ∃ t, row[j]? = some t ∧ y = .int t := by
          rw [List.getElem?_map] at hy
          cases e : row[j]? with
          | none => rw [e] at hy; cases hy
          | some t => rw [e] at hy; exact ⟨t, rfl, (Option.some.inj hy).symm⟩
        have hsn : row.take (j + 1) = row.take j ++ [t] := take_snoc ht
        have hlen : (grow (ordN (rowI mv) 0 i) (row.take j)).length ≤ 3600 := by
          have h1 := nodup_le (nodup_grow (ts := row.take j) (ordN_nodup (row := rowI mv) (r0 := 0) i)) (m := iota mv.length) fun x hx => by
            rcases mem_grow.mp hx with hx | hx
            · exact ordN_in M.zero M.closed i x hx
            · exact hin2 x (List.mem_of_mem_take hx)
          rw [iota_len] at h1
          have := M.most
          omega
        rw [hsn, grow_snoc]
        generalize grow (ordN (rowI mv) 0 i) (row.take j) = o at D3 L3 hlen ⊢
        refine ⟨_, rfl, _, rfl, f, _, rfl, D3.get t, _, rfl, ?_⟩
        by_cases hto : t ∈ o
        · rw [if_pos hto]
          rw [show (!(inO o t).isSome) = false by unfold inO; rw [if_pos hto]; rfl]
          exact iteF (.of ⟨k3, D3, L3, _, rfl⟩)
        · rw [if_neg hto]
          rw [show (!(inO o t).isSome) = true by unfold inO; rw [if_neg hto]; rfl]
          obtain ⟨H5, hput, D5, e5⟩ := D3.put (by omega) t (.bl true)
          have L5 : H5 l = some (.lst (o.map V.int)) := (e5 l (Ne.symm fl)).trans L3
          refine iteT ⟨_, rfl, _, rfl, f, H5, rfl, hput, ?_⟩
          refine ⟨_, rfl, .inl ⟨rfl, _, SqL.of L5⟩, _, rfl, l, _, _, rfl, rfl, L5, Nat.lt_of_le_of_lt (show (o.map V.int).length ≤ 3600 by rw [List.length_map]; exact hlen) (by decide), .of ⟨fun b o hb e => ?_, ?_, ?_, _, rfl⟩⟩
          · rw [upd_ne (fun z => hb (by simp [z])), e5 b (fun z => hb (by simp [z]))]
            exact k3 b o hb e
          · refine (D5.keep (upd_ne fl)).fn (fun x => inO_snoc o t x) (by simp)
          · rw [upd_same, List.map_append]
            rfl
      · obtain ⟨k3, D3, L3, b5, rfl⟩ := hp.get
        have e1 : ordN (rowI mv) 0 (i + 1) = grow (ordN (rowI mv) 0 i) row := by rw [ordN_some hr, erow]
        rw [List.length_map] at D3 L3
        rw [List.take_length, ← e1] at D3 L3
        refine ⟨_, rfl, _, _, rfl, rfl, ?_, K2.trans k3, D3, L3, _, rfl⟩
        obtain ⟨q, e2⟩ := ordN_pre1 (row := rowI mv) (r0 := 0) i
        rw [e2, List.length_append]
        omega
    · rw [decide_eq_false (show ¬ (i : Int) < ((ordN (rowI mv) 0 i).length : Int) by omega)]
      refine iteF ⟨_, rfl, ?_⟩
      have e : ordN (rowI mv) 0 i = rooms mv := by
        have := ordN_stable (row := rowI mv) (r0 := 0) (i := i) (by omega) (mv.length - i)
        rw [show i + (mv.length - i) = mv.length by omega] at this
        exact this.symm
      rw [e] at L2'
      exact kk l H2 hl0 (keep_new K2 fun a ha => by
        simp only [List.mem_cons, List.not_mem_nil, or_false] at ha
        rcases ha with rfl | rfl
        · exact hf
        · exact hl0) L2'
end

/-! ### room_classes -/
open MA
/-- keys as they came, each with its number -/
def NDk (kvs : List NE) (D : List NestedKey) : Prop := kvs.length = D.length ∧ ∀ (j : Nat) (e : NE), kvs[j]? = some e → D[j]? = some e.1 ∧ e.2.2 = .int (j : Int)
theorem NDk.nil : NDk [] [] := ⟨rfl, fun j e h => by cases h⟩
theorem NDk.snoc {kvs : List NE} {D : List NestedKey} (h : NDk kvs D) (k : NestedKey) (b : Addr) : NDk (kvs ++ [(k, b, .int (kvs.length : Int))]) (D ++ [k]) := by
  refine ⟨by simp [h.1], fun j e hj => ?_⟩
  by_cases hl : j < kvs.length
  · rw [List.getElem?_append_left hl] at hj
    obtain ⟨a, b⟩ := h.2 j e hj
    exact ⟨by rw [List.getElem?_append_left (by rw [← h.1]; exact hl)]; exact a, b⟩
  · rw [List.getElem?_append_right (by omega)] at hj
    have hj0 : j - kvs.length = 0 := by
      have h9 : j - kvs.length < 1 := (List.getElem?_eq_some_iff.mp hj).1
      omega
    rw [hj0] at hj
    cases hj
    have : j = kvs.length := by omega
    subst this
    refine ⟨?_, rfl⟩
    rw [List.getElem?_append_right (by rw [h.1]; exact Nat.le_refl _), h.1, Nat.sub_self]
    rfl
theorem NDk.look {kvs : List NE} {D : List NestedKey} (h : NDk kvs D) (hn : D.Nodup) (k : NestedKey) : lookN kvs k = if k ∈ D then some (.int (D.idxOf k : Nat)) else none := by
  by_cases hk : k ∈ D
  · rw [if_pos hk]
    have hl := List.idxOf_lt_length_of_mem hk
    have hlk : D.idxOf k < kvs.length := by rw [h.1]; exact hl
    obtain ⟨h1, h2⟩ := h.2 _ _ (List.getElem?_eq_getElem hlk)
    have h3 : kvs[D.idxOf k].1 = k := by
      rw [List.getElem?_eq_getElem hl] at h1
      rw [← Option.some.inj h1]
      exact List.getElem_idxOf hl
    unfold lookN
    cases q : kvs.find? fun e => decide (e.1 = k) with
    | none =>
      have := List.find?_eq_none.mp q _ (List.getElem_mem hlk)
      simp [h3] at this
    | some e =>
      have e1 := List.find?_some q
      have e1 : e.1 = k := of_decide_eq_true e1
      obtain ⟨j, hj, ej⟩ := List.mem_iff_getElem.mp (List.mem_of_find?_eq_some q)
      obtain ⟨g1, g2⟩ := h.2 j e (by rw [List.getElem?_eq_getElem hj, ej])
      rw [e1] at g1
      have hjD : j < D.length := by rw [← h.1]; exact hj
      rw [List.getElem?_eq_getElem hjD] at g1
      have : j = D.idxOf k := (List.getElem_inj hn).mp ((Option.some.inj g1).trans (List.getElem_idxOf hl).symm)
      show some e.2.2 = _
      rw [g2, this]
  · rw [if_neg hk]
    unfold lookN
    rw [List.find?_eq_none.mpr]
    · rfl
    · intro e he
      obtain ⟨j, hj, ej⟩ := List.mem_iff_getElem.mp he
      obtain ⟨g1, _⟩ := h.2 j e (by rw [List.getElem?_eq_getElem hj, ej])
      intro z
      exact hk (by rw [← of_decide_eq_true z]; exact List.mem_of_getElem? g1)
theorem idx_map {α β : Type} [DecidableEq α] [DecidableEq β] (c : α → β) (hc : ∀ x y, c x = c y → x = y) : ∀ (l : List α) (x : α), (l.map c).idxOf (c x) = l.idxOf x
  | [], _ => rfl
  | y :: l, x => by
    rw [List.map_cons, List.idxOf_cons, List.idxOf_cons, idx_map c hc l x]
    by_cases h : y = x
    · subst h; simp
    · have h1 : (c y == c x) = false := beq_false_of_ne fun e => h (hc y x e)
      have h2 : (y == x) = false := beq_false_of_ne h
      rw [h1, h2]
theorem idx_app {α : Type} [DecidableEq α] {x : α} : ∀ {l : List α} (m : List α), x ∈ l → (l ++ m).idxOf x = l.idxOf x
  | y :: l, m, h => by
    rw [List.cons_append, List.idxOf_cons, List.idxOf_cons]
    by_cases e : y = x
    · have h1 : (y == x) = true := by rw [e]; exact beq_self_eq_true x
      rw [h1]
      rfl
    · have h1 : (y == x) = false := beq_false_of_ne e
      rw [h1, idx_app m ((List.mem_cons.mp h).resolve_left (fun z => e z.symm))]
theorem nk_map {α β γ : Type} [DecidableEq α] [DecidableEq β] [DecidableEq γ] (c : β → γ) (hc : ∀ x y, c x = c y → x = y) (f : α → β) (R : List α) (r : α) : nk (fun x => c (f x)) R r = nk f R r := by
  unfold nk
  have e : R.map (fun x => c (f x)) = (R.map f).map c := by rw [List.map_map]; rfl
  rw [e, dd_map_inj c _ (fun x _ y _ h => hc x y h), idx_map c hc]
def encB (b : Bool) : NestedKey := .tup [.num (if b = true then 1 else 0)]
def encC (p : Nat × List Nat) : NestedKey := .tup [.num (p.1 : Int), .tup (p.2.map fun (n : Nat) => .num (n : Int))]
theorem encB_inj (x y : Bool) (h : encB x = encB y) : x = y := by
  unfold encB at h
  have h1 := NestedKey.num.inj (List.cons.inj (NestedKey.tup.inj h)).1
  cases x <;> cases y <;> first | rfl | (exfalso; revert h1; decide)
theorem nums_inj : ∀ {a b : List Nat}, (a.map fun (n : Nat) => NestedKey.num (n : Int)) = (b.map fun (n : Nat) => NestedKey.num (n : Int)) → a = b
  | [], [], _ => rfl
  | [], _ :: _, h => by simp at h
  | _ :: _, [], h => by simp at h
  | x :: a, y :: b, h => by
    rw [List.map_cons, List.map_cons] at h
    have h1 := List.cons.inj h
    rw [nums_inj h1.2, Int.ofNat.inj (NestedKey.num.inj h1.1)]
theorem encC_inj (x y : Nat × List Nat) (h : encC x = encC y) : x = y := by
  obtain ⟨a, l⟩ := x
  obtain ⟨b, m⟩ := y
  unfold encC at h
  have h1 := List.cons.inj (NestedKey.tup.inj h)
  have h2 := List.cons.inj h1.2
  have e1 : a = b := Int.ofNat.inj (NestedKey.num.inj h1.1)
  have e2 : l = m := nums_inj (NestedKey.tup.inj h2.1)
  rw [e1, e2]
theorem depth_nums (l : List Nat) : NestedKey.depthAll (l.map fun (n : Nat) => NestedKey.num (n : Int)) = 0 := by
  induction l with
  | nil => rfl
  | cons n l ih =>
    show max 0 (NestedKey.depthAll (l.map fun (n : Nat) => NestedKey.num (n : Int))) = 0
    rw [ih]
    rfl
theorem encC_depth (p : Nat × List Nat) : (encC p).depth ≤ 8 := by
  show max 0 (max (NestedKey.depthAll (p.2.map fun (n : Nat) => NestedKey.num (n : Int)) + 1) 0) + 1 ≤ 8
  rw [depth_nums]
  decide
theorem encB_depth (b : Bool) : (encB b).depth ≤ 8 := by
  cases b <;> decide
/-- the dict of classes -/
def clD (R : List Int) (c : Int → Nat) (x : Int) : Option V := if x ∈ R then some (.int (c x : Int)) else none
abbrev sClasses : Stmt := top 23
def spClasses : Sp := fun vs H Q _ => ∃ (S : List Addr) (v : V) (ro mk : Addr) (k : Nat) (mv : List (List Int)) (g : List Int), vs = [.ref ro, v, .ref mk] ∧ H ro = some (.lst ((rooms mv).map V.int)) ∧ MvQ S H v mv ∧ MachW k mv g ∧ k ≤ 3 ∧ H mk = some (.lst ((iota mv.length).map fun x => V.bl (accI g x))) ∧
  ∀ (p : Addr) (H' : Hp) (cl : Int → Nat), H p = none → Same H H' → DkF H' p (clD (rooms mv) cl) 3600 → (∀ r ∈ rooms mv, ∀ s ∈ rooms mv, cl r = cl s ↔ Alike mv g r s) → Q (.ref p) H'
section
open PyProof.Rows
variable {P : Program} {w : World} {K : PySem.W.Frag} {mg : Str → Option Value} {base : Heap}
theorem scClasses : FnScope ["rooms", "moves", "marks", "classes", "many", "grown", "numbers", "renewed", "room", "mark", "target"] ["rooms", "moves", "marks"] (C8.fnScope sClasses) := C8.fnScope_by (by decide +kernel)
theorem ok_classes {f : Addr} {fd : FuncData} (F : C8.Def K mg "room_classes" sClasses f fd) (b : Binds K fd ["rooms", "moves", "marks"] []) (T : Txt mg) : C8.Cal P w K mg base 1 "room_classes" spClasses [] := by
  refine C8.cal0 F b .nil scClasses (fun vs H Q E h => ?_) (fun cdv A outer s H vs Q E hr h => ?_)
  · obtain ⟨S, v, ro, mk, k, mv, g, rfl, _⟩ := h
    rfl
  · obtain ⟨S, v, ro, mk, k, mv, g, rfl, hro, rm, M, hk, hmk, kk⟩ := h
    have sc := scClasses
    have hu : (A.deeper (envOfC "room_classes" (C8.fnScope sClasses) s.heap.objs.size f cdv)).units + 1 < cLine := by have := hr.un; omega
    have hu2 : (A.deeper (envOfC "room_classes" (C8.fnScope sClasses) s.heap.objs.size f cdv)).units + 16 < cLine := by have := hr.un; omega
    refine ⟨_, -- room_classes: 0 rooms 1 moves 2 marks 3 classes* 4 many 5 grown 6 numbers 7 renewed 8 room 9 mark 10 target

      (pss_cons (ps_set (i := 3) sc.nd rfl (Or.inr rfl) pe_dnewK)
      (pss_cons (ps_set (i := 4) sc.nd rfl (Or.inl rfl) pe_int)
      (pss_cons (ps_set (i := 5) sc.nd rfl (Or.inl rfl) pe_bl)
      (pss_cons (ps_while PassesOwn.never (pt_val (pv 5)) 
        (pss_cons (ps_set (i := 6) sc.nd rfl (Or.inl rfl) pe_ndnew)
        (pss_cons (ps_set (i := 7) sc.nd rfl (Or.inl rfl) pe_dnewK)
        (pss_cons (ps_for PassesOwn.never rfl (pi_seqH (pv 0)) (pg_name (i := 8) sc.nd rfl (Or.inl rfl)) 
          (C8.pss_cut (ps_if (pt_cmpR op_eq (pv 4) pe_int (nomark _)) 
            (pss_one (ps_set (i := 9) sc.nd rfl (Or.inl rfl) (pe_tup (pa_cons (pe_ix ix_list (pv 2) (pv 8) (fun _ _ => rfl)) pa_nil)))) 
            (pss_one (ps_set (i := 9) sc.nd rfl (Or.inl rfl) (pe_tup (pa_cons (pe_dget hu (pv 3) (pv 8) (fun _ _ => rfl)) (pa_cons (pe_callTy (T := "tuple") (call_tupQ (K := K) rfl) (by rfl) T.tuple (by decide +kernel) (pa_cons (pe_lc (own := [("target", 10)]) (g := gName 10) rfl sc.nd (pi_seqW (pe_ix (ixQ (K := K) rfl) (pv 1) (pv 8) (fun _ _ => rfl))) (blkOk_by (own := [("target", 10)]) (by kernel_rfl)) (fun _ _ _ _ _ => (pg_name (i := 10) sc.nd rfl (Or.inl rfl))) (fun _ _ _ _ _ => pts_nil) (fun _ _ _ _ _ => (pe_dget hu (pv 3) (pv 10) (fun _ _ => rfl)))) pa_nil)) pa_nil))))))
          (C8.pss_cut (ps_if (pt_cmp (pc_ndnotin hu2 (pv 9) (pv 6))) 
            (pss_one (ps_ndput hu2 (pv 6) (pv 9) (pe_callB call_lenN (by rfl) T.len PySem.boot_len (pa_cons (pv 6) pa_nil)) rfl)) pss_nil)
          (pss_one (ps_dput hu (pv 7) (pv 8) (pe_ndget hu2 (pv 6) (pv 9) (fun _ _ => rfl)) rfl)))))
        (pss_cons (ps_set (i := 5) sc.nd rfl (Or.inl rfl) (pe_cmpR op_gt (pe_callB call_lenN (by rfl) T.len PySem.boot_len (pa_cons (pv 6) pa_nil)) (pv 4) (nomark _)))
        (pss_cons (ps_set (i := 4) sc.nd rfl (Or.inl rfl) (pe_callB call_lenN (by rfl) T.len PySem.boot_len (pa_cons (pv 6) pa_nil)))
        (pss_one (ps_set (i := 3) sc.nd rfl (Or.inr rfl) (pv 7)))))))))
      (pss_one (ps_ret (pv 3))))))), ?_⟩
    have R0 : (rooms mv).Nodup := ordN_nodup _
    have Rl : (rooms mv).length ≤ 3600 := by have := M.rooms_len; have := M.most; omega
    have rn0 : H ro ≠ none := by rw [hro]; exact fun z => by cases z
    refine fun c0 hc0 => ?_
    let cls : Nat → Int → Nat := gcls (rowI mv) (rooms mv) (nk (accI g) (rooms mv))
    let cnt : Nat → Nat := gcnt (rowI mv) (rooms mv) (nk (accI g) (rooms mv))
    let Info : Nat → Addr → Nat → Bool → Hp → Prop := fun t c mn gr H' => match t with
      | 0 => mn = 0 ∧ gr = true
      | j + 1 => DkF H' c (clD (rooms mv) (cls j)) 3600 ∧ mn = cnt j ∧ (gr = true → j + 1 ≤ cnt j) ∧ (gr = false → ∃ i, j = i + 1 ∧ cnt (i + 1) ≤ cnt i)
    let St : Nat → L2.St → Hp → Prop := fun t σ H' => ∃ (c : Addr) (mn : Nat) (gr : Bool) (x6 x7 x8 x9 : Option V), Same H H' ∧ H c = none ∧ Info t c mn gr H' ∧ σ = [some (.ref ro), some v, some (.ref mk), some (.ref c), some (.int (mn : Int)), some (.bl gr), x6, x7, x8, x9, none]
    refine ⟨fun m σ H' => ∃ t, m = 3602 - t ∧ t ≤ 3602 ∧ St t σ H', ⟨_, 0, rfl, Nat.zero_le _, c0, 0, true, none, none, none, none, Same.new hc0, hc0, ⟨rfl, rfl⟩, rfl⟩, ?_⟩
    rintro m σ H2 ⟨t, rfl, htl, c, mn, gr, x6, x7, x8, x9, s2, hcn, inf, rfl⟩
    refine ⟨_, rfl, _, rfl, ?_⟩
    cases gr with
    | false =>
      refine iteF ⟨_, rfl, ?_⟩
      cases t with
      | zero => exact absurd inf.2 (by simp)
      | succ j =>
        obtain ⟨D2, _, _, h4⟩ := inf
        obtain ⟨i, rfl, hi⟩ := h4 rfl
        exact kk c H2 (cls (i + 1)) hcn s2 D2 fun r hr s hs => gcls_final (fun a ha b hb => nk_eq ha hb) M.rooms_closed (fun r hr => M.rlen r (M.rooms_in r hr)) hi hr hs
    | true =>
      refine iteT ⟨St (t + 1), fun σ' H' h => ⟨3602 - (t + 1), ?_, t + 1, rfl, ?_, h⟩, ?_⟩
      · cases t with
        | zero => omega
        | succ j =>
          have h1 := inf.2.2.1 rfl
          have h2 : cnt j ≤ (rooms mv).length := gcnt_le j
          omega
      · cases t with
        | zero => omega
        | succ j =>
          have h1 := inf.2.2.1 rfl
          have h2 : cnt j ≤ (rooms mv).length := gcnt_le j
          omega
      · obtain ⟨κ, ncl, hκd, hmark, hncl, hcnt⟩ : ∃ (κ : Int → NestedKey) (ncl : Int → Nat), (∀ x, (κ x).depth ≤ 8) ∧ (∀ x ∈ rooms mv, (mn = 0 ∧ κ x = encB (accI g x)) ∨ (mn ≠ 0 ∧ ∃ j, t = j + 1 ∧ κ x = encC (keyC (rowI mv) (cls j) x))) ∧ (∀ x, nk κ (rooms mv) x = cls t x) ∧ (dd ((rooms mv).map κ)).length = cnt t := by
          cases t with
          | zero =>
            refine ⟨fun x => encB (accI g x), cls 0, fun x => encB_depth _, fun x _ => .inl ⟨inf.1, rfl⟩, fun x => nk_map encB encB_inj (accI g) (rooms mv) x, ?_⟩
            have e : (rooms mv).map (fun x => encB (accI g x)) = ((rooms mv).map (accI g)).map encB := by rw [List.map_map]; rfl
            rw [e, dd_map_inj encB _ (fun x _ y _ h => encB_inj x y h), List.length_map]
            show _ = (dd ((rooms mv).map (nk (accI g) (rooms mv)))).length
            rw [dd_nk, List.length_range]
          | succ j =>
            obtain ⟨_, hmn, h3, _⟩ := inf
            have h3 := h3 rfl
            refine ⟨fun x => encC (keyC (rowI mv) (cls j) x), cls (j + 1), fun x => encC_depth _, fun x _ => .inr ⟨by omega, j, rfl, rfl⟩, fun x => nk_map encC encC_inj (keyC (rowI mv) (cls j)) (rooms mv) x, ?_⟩
            have e : (rooms mv).map (fun x => encC (keyC (rowI mv) (cls j) x)) = ((rooms mv).map (keyC (rowI mv) (cls j))).map encC := by rw [List.map_map]; rfl
            rw [e, dd_map_inj encC _ (fun x _ y _ h => encC_inj x y h), List.length_map]
            exact (gcnt_succ j).symm
        refine fun n hn q hq => ?_
        have nq : n ≠ q := fun e => by rw [← e, upd_same] at hq; cases hq
        have hq2 : H2 q = none := by rw [upd_ne (Ne.symm nq)] at hq; exact hq
        have s3 : Same H2 (upd (upd H2 n (ndO P w n [])) q (.dK [])) := (Same.new hn).trans (Same.new hq)
        have en : upd (upd H2 n (ndO P w n [])) q (.dK []) n = some (ndO P w n []) := by rw [upd_ne nq, upd_same]
        have eq : DkF (upd (upd H2 n (ndO P w n [])) q (.dK [])) q (fun _ => none) 0 := ⟨[], upd_same, fun _ => rfl, Nat.le_refl _⟩
        show tSeq _ _ _ _ (upd (upd H2 n (ndO P w n [])) q (.dK []))
        generalize upd (upd H2 n (ndO P w n [])) q (.dK []) = H3 at s3 en eq ⊢
        refine ⟨_, rfl, ro, _, rfl, .inl (s3 _ _ (s2 _ _ hro)), fun J G wJ hG => ?_⟩
        rw [List.length_map] at wJ
        let Dk : Nat → List NestedKey := fun i => dd (((rooms mv).take i).map κ)
        refine for_it wJ (fun i σ H' => Iv (Keep [n, q] H3 H' ∧ ∃ kvs, H' n = some (ndO P w n kvs) ∧ NKeys H' kvs ∧ NDk kvs (Dk i) ∧ DkF H' q (fun x => if x ∈ (rooms mv).take i then some (.int ((nk κ (rooms mv) x : Nat) : Int)) else none) i ∧ ∃ x8 x9, σ = [some (.ref ro), some v, some (.ref mk), some (.ref c), some (.int (mn : Int)), some (.bl true), some (.ref n), some (.ref q), x8, x9, none])) (.of ⟨Keep.refl _ _, [], en, (fun e he => by cases he), NDk.nil, eq.fn (fun x => (if_neg (by rw [List.take_zero]; exact List.not_mem_nil)).symm) (Nat.le_refl _), _, _, rfl⟩) (fun _ _ _ _ hp => ?_) (fun i y σ H4 H5 hi hp hy => ?_) (fun σ H4 hp => ?_)
        · obtain ⟨k4, _⟩ := hp.get
          have e4 := k4 ro _ (fun z => ?_) (s3 _ _ (s2 _ _ hro))
          · exact hG _ (e4.trans (s3 _ _ (s2 _ _ hro)).symm)
          · simp only [List.mem_cons, List.not_mem_nil, or_false] at z
            rcases z with rfl | rfl
            · rw [s2 _ _ hro] at hn; cases hn
            · rw [s2 _ _ hro] at hq2; cases hq2
        · obtain ⟨k4, kvs, en4, nk4, nd4, D4, x8, x9, rfl⟩ := hp.get
          obtain ⟨rfl, hy⟩ := hy
          obtain ⟨r, hr, rfl⟩ : ∃ r, (rooms mv)[i]? = some r ∧ y = .int r := by
            rw [List.getElem?_map] at hy
            cases e : (rooms mv)[i]? with
            | none => rw [e] at hy; cases hy
            | some t => rw [e] at hy; exact ⟨t, rfl, (Option.some.inj hy).symm⟩
          have hrR := List.mem_of_getElem? hr
          have hrI := M.rooms_in r hrR
          have nin : ∀ {b : Addr} {o : HO}, H2 b = some o → b ≠ n ∧ b ≠ q := fun {b o} e => ⟨fun z => (by rw [z, hn] at e; cases e), fun z => (by rw [z, hq2] at e; cases e)⟩
          have up : ∀ {b : Addr} {o : HO}, H2 b = some o → H5 b = some o := fun {b o} e => k4 b o (by simp [nin e]) (s3 _ _ e)
          have tn : ∀ ys, H5 n ≠ some (.tup ys) := fun ys z => by rw [en4] at z; cases z
          refine ⟨fun σ' H' => ∃ b, Same H5 H' ∧ NV H' (.ref b) (κ r) ∧ σ' = [some (.ref ro), some v, some (.ref mk), some (.ref c), some (.int (mn : Int)), some (.bl true), some (.ref n), some (.ref q), some (.int r), some (.ref b), none], ?_, ?_⟩
          · refine ⟨_, rfl, rfl, _, rfl, ?_⟩
            rcases hmark r hrR with ⟨h0, hκ⟩ | ⟨h0, j, rfl, hκ⟩
            · rw [decide_eq_true (show V.int (mn : Int) = V.int 0 by rw [h0]; rfl)]
              have hx := mem_iota.mp hrI
              have ha : atI ((iota mv.length).map fun x => V.bl (accI g x)) r = some (.bl (accI g r)) := by
                rw [show r = ((r.toNat : Nat) : Int) by omega]
                refine atI_nat ?_
                rw [List.getElem?_map, iota_at (by omega)]
                rfl
              refine iteT ⟨_, rfl, _, rfl, mk, _, _, _, rfl, rfl, SqL.of (up (s2 _ _ hmk)), ha, by show 1 ≤ sizeLine; exact szl rfl, fun b hb => ⟨b, Same.new hb, ?_, rfl⟩⟩
              rw [hκ]
              exact .tup upd_same (.cons (.bl _) .nil)
            · rw [decide_eq_false (show ¬ V.int (mn : Int) = V.int 0 from fun z => h0 (by have := V.int.inj z; omega))]
              obtain ⟨D2, _, _, _⟩ := inf
              obtain ⟨row, hrow, erow, hlr, hin2⟩ := M.rowI_at hrI
              obtain ⟨a, xs, b, rfl, ha, ea, eb1, hb, eb⟩ := mvQ_at (rm.same s2) (mem_iota.mp hrI).1 hrow
              have D5 : DkF H5 c (clD (rooms mv) (cls j)) 3600 := by
                obtain ⟨kvs2, e2, q2⟩ := D2
                exact ⟨kvs2, up e2, q2⟩
              have hcl : ∀ x ∈ row, x ∈ rooms mv := fun x hx => M.rooms_closed r hrR x (by rw [erow]; exact hx)
              refine iteF ⟨_, rfl, _, rfl, c, _, rfl, D5.at (by unfold clD; rw [if_pos hrR]), _, rfl, _, rfl, a, xs, _, _, rfl, rfl, sqo (ea.imp up up), eb1, b, _, rfl, .inr (.inl (.inl (up eb))), fun J2 G2 wJ2 hG2 L hL => ?_⟩
              refine lc_F (j := 10) (Xp := fun l x => ∃ t, row[l]? = some t ∧ x = .int t) (fun l => D.int ((cls j (row.getD l 0) : Nat) : Int)) wJ2 (fun l H x H' _ y => ⟨y.1, ?_⟩) hL (by rw [List.length_map, hlr]; omega) (fun H6 s6 => hG2 H6 s6) (fun _ => rfl) (fun l x H6 hl hx s6 Kt ht => ?_) (fun ys H6 s6 e6 r6 => ?_)
              · have y2 := y.2
                rw [List.getElem?_map] at y2
                cases e : row[l]? with
                | none => rw [e] at y2; cases y2
                | some t => rw [e] at y2; exact ⟨t, rfl, (Option.some.inj y2).symm⟩
              · obtain ⟨t, ht1, rfl⟩ := hx
                have D6 : DkF H6 c (clD (rooms mv) (cls j)) 3600 := by
                  obtain ⟨kvs2, e2, q2⟩ := D5
                  exact ⟨kvs2, s6 _ _ e2, q2⟩
                refine ⟨_, rfl, _, rfl, c, _, rfl, D6.at (by unfold clD; rw [if_pos (hcl t (List.mem_of_getElem? ht1))]), ht _ _ (Same.refl _) ?_⟩
                rw [List.getD_eq_getElem?_getD, ht1]
                exact .int _
              · have en : (List.range (row.map V.int).length).map (fun l => D.int ((cls j (row.getD l 0) : Nat) : Int)) = (((rowI mv r).map (cls j)).map fun (n : Nat) => (n : Int)).map D.int := by
                  rw [erow]
                  refine List.ext_getElem? fun l => ?_
                  simp only [List.getElem?_map, List.length_map]
                  by_cases hl : l < row.length
                  · rw [List.getElem?_range hl, List.getElem?_eq_getElem hl]
                    show some (D.int ((cls j (row.getD l 0) : Nat) : Int)) = some (D.int ((cls j row[l] : Nat) : Int))
                    rw [List.getD_eq_getElem?_getD, List.getElem?_eq_getElem hl]
                    rfl
                  · rw [List.getElem?_eq_none (by simpa using hl), List.getElem?_eq_none (by simpa using hl)]
                    rfl
                rw [en] at r6
                have ey := r6.ints_eq
                refine ⟨L, ys, rfl, .inl ⟨SqL.of e6, fun p hp => ⟨by show 2 ≤ sizeLine; exact szl rfl, fun b2 hb2 => ⟨b2, s6.trans ((Same.new hp).trans (Same.new hb2)), ?_, rfl⟩⟩⟩⟩
                rw [hκ]
                refine .tup upd_same (.cons (.int _) (.cons (.tup ((Same.new hb2) _ _ upd_same) ?_) .nil))
                rw [ey]
                have e7 : ((keyC (rowI mv) (cls j) r).2.map fun (n : Nat) => NestedKey.num (n : Int)) = (((rowI mv r).map (cls j)).map fun (n : Nat) => (n : Int)).map NestedKey.num := by
                  rw [List.map_map]
                  rfl
                rw [e7]
                exact NVs.ints _
          · rintro σ' H6 ⟨b, s6, nv, rfl⟩
            have u6 : ∀ a ys, H5 a = some (.tup ys) → H6 a = some (.tup ys) := fun a ys e => s6 _ _ e
            have en6 := s6 _ _ en4
            have nk6 := nk4.keep u6
            have Dn : Dk (i + 1) = if κ r ∈ ((rooms mv).take i).map κ then Dk i else Dk i ++ [κ r] := by
              show dd (((rooms mv).take (i + 1)).map κ) = _
              rw [take_snoc hr, List.map_append, List.map_cons, List.map_nil, dd_snoc]
            have hin : κ r ∈ Dk i ↔ κ r ∈ ((rooms mv).take i).map κ := mem_dd
            have lk := nd4.look (nodup_dd _) (κ r)
            have Di : ∃ q2, dd ((rooms mv).map κ) = Dk (i + 1) ++ q2 := by
              have e : (rooms mv).map κ = ((rooms mv).take (i + 1)).map κ ++ ((rooms mv).drop (i + 1)).map κ := by rw [← List.map_append, List.take_append_drop]
              rw [e, dd_app]
              exact grow_pre _ _
            obtain ⟨q2, eD⟩ := Di
            have hnum : nk κ (rooms mv) r = (Dk (i + 1)).idxOf (κ r) := by
              unfold nk
              rw [eD, idx_app]
              exact mem_dd.mpr (List.mem_map_of_mem (by rw [take_snoc hr]; simp))
            have hkl : kvs.length ≤ 3600 := by
              rw [nd4.1]
              have h1 := nodup_le (nodup_dd (((rooms mv).take i).map κ)) (m := ((rooms mv).take i).map κ) fun x hx => mem_dd.mp hx
              rw [List.length_map, List.length_take] at h1
              have h2 : (Dk i).length ≤ min i (rooms mv).length := h1
              omega
            refine ⟨fun σ' H' => ∃ kvs', Keep [n, q] H3 H' ∧ H' n = some (ndO P w n kvs') ∧ NKeys H' kvs' ∧ NDk kvs' (Dk (i + 1)) ∧ NV H' (.ref b) (κ r) ∧ DkF H' q (fun x => if x ∈ (rooms mv).take i then some (.int ((nk κ (rooms mv) x : Nat) : Int)) else none) i ∧
              σ' = [some (.ref ro), some v, some (.ref mk), some (.ref c), some (.int (mn : Int)), some (.bl true), some (.ref n), some (.ref q), some (.int r), some (.ref b), none], ?_, ?_⟩
            · have D6 : DkF H6 q (fun x => if x ∈ (rooms mv).take i then some (.int ((nk κ (rooms mv) x : Nat) : Int)) else none) i := by
                obtain ⟨kvs2, e2, q2⟩ := D4
                exact ⟨kvs2, s6 _ _ e2, q2⟩
              refine ⟨_, rfl, _, rfl, n, kvs, b, κ r, rfl, rfl, en6, nk6, nv, hκd r, _, rfl, ?_⟩
              by_cases hm : κ r ∈ Dk i
              · rw [lk, if_pos hm]
                refine iteF ⟨kvs, k4.trans (Keep.same s6), en6, nk6, ?_, nv, D6, rfl⟩
                rw [Dn, if_pos (hin.mp hm)]
                exact nd4
              · rw [lk, if_neg hm]
                refine iteT ⟨_, rfl, n, kvs, rfl, en6, nk6, _, rfl, _, rfl, n, kvs, b, κ r, rfl, rfl, en6, nk6, nv, hκd r, ?_, Nat.lt_of_le_of_lt hkl (by decide), ?_⟩
                · rw [lk, if_neg hm]
                · have u7 : ∀ a ys, H6 a = some (.tup ys) → upd H6 n (ndO P w n (kvs ++ [(κ r, b, V.int ((kvs.length : Nat) : Int))])) a = some (.tup ys) := fun a ys e => by
                    rw [upd_ne (fun z => by rw [z, en6] at e; cases e)]
                    exact e
                  refine ⟨_, k4.trans ((Keep.same s6).trans (Keep.upd (by simp))), upd_same, fun e he => ?_, ?_, nv.keep u7, D6.keep (upd_ne (Ne.symm nq)), rfl⟩
                  · rcases List.mem_append.mp he with he | he
                    · exact (nk6.keep u7) e he
                    · rw [List.mem_singleton.mp he]
                      exact ⟨nv.keep u7, hκd r⟩
                  · rw [Dn, if_neg (fun z => hm (hin.mpr z))]
                    exact nd4.snoc (κ r) b
            · rintro σ' H7 ⟨kvs', k7, en7, nk7, nd7, nv7, D7, rfl⟩
              have lk7 := nd7.look (nodup_dd _) (κ r)
              rw [if_pos (mem_dd.mpr (List.mem_map_of_mem (by rw [take_snoc hr]; simp)))] at lk7
              obtain ⟨H8, hput, D8, e8⟩ := D7.put (by have := (List.getElem?_eq_some_iff.mp hr).1; omega) r (.int (((Dk (i + 1)).idxOf (κ r) : Nat) : Int))
              refine ⟨_, rfl, _, rfl, n, kvs', b, κ r, _, rfl, rfl, en7, nk7, nv7, hκd r, lk7, _, rfl, _, rfl, q, H8, rfl, hput, .of ⟨fun a o ha e => ?_, kvs', (e8 n nq).trans en7, nk7.keep fun a ys e => ?_, nd7, D8.fn (fun x => ?_) (Nat.le_refl _), _, _, rfl⟩⟩
              · rw [e8 a (fun z => ha (by simp [z]))]
                exact k7 a o ha e
              · rw [e8 a (fun z => ?_)]
                · exact e
                · obtain ⟨kvs2, e2, _⟩ := D7
                  rw [z, e2] at e
                  cases e
              · rw [take_snoc hr]
                by_cases hx : x = r
                · subst hx
                  rw [if_pos rfl, if_pos (by simp), hnum]
                · rw [if_neg hx]
                  by_cases hx2 : x ∈ (rooms mv).take i
                  · rw [if_pos hx2, if_pos (by simp [hx2])]
                  · rw [if_neg hx2, if_neg (by simp [hx, hx2])]
        · obtain ⟨k4, kvs, en4, nk4, nd4, D4, x8', x9', rfl⟩ := hp.get
          have eD : Dk (rooms mv).length = dd ((rooms mv).map κ) := by
            show dd (((rooms mv).take (rooms mv).length).map κ) = _
            rw [List.take_length]
          rw [eD] at nd4
          rw [List.take_length] at D4
          have hlen : kvs.length = cnt t := by rw [nd4.1, hcnt]
          have s4 : Same H H4 := s2.trans (fun a o e => k4 a o (fun z => by
            simp only [List.mem_cons, List.not_mem_nil, or_false] at z
            rcases z with rfl | rfl
            · rw [e] at hn; cases hn
            · rw [e] at hq2; cases hq2) (s3 _ _ e))
          have hqH : H q = none := by
            cases e : H q with
            | none => rfl
            | some o => rw [s2 _ _ e] at hq2; cases hq2
          have gc : ∀ j, cnt j ≤ 3600 := fun j => Nat.le_trans (gcnt_le j) Rl
          refine ⟨_, rfl, n, kvs, rfl, en4, nk4, _, rfl, _, _, rfl, rfl, _, rfl, n, kvs, rfl, en4, nk4, _, rfl, ?_⟩
          refine ⟨q, cnt t, decide ((mn : Int) < (kvs.length : Int)), _, _, _, _, s4, hqH, ⟨D4.fn (fun x => ?_) Rl, rfl, fun h => ?_, fun h => ?_⟩, by rw [← hlen]; rfl⟩
          · unfold clD
            rw [hncl x]
          · have h := of_decide_eq_true h
            rw [hlen] at h
            cases t with
            | zero => omega
            | succ j =>
              have h1 := inf.2.2.1 rfl
              have h2 := inf.2.1
              omega
          · have h := of_decide_eq_false h
            rw [hlen] at h
            cases t with
            | zero =>
              have h1 := inf.1
              have h2 : 0 < cnt 0 := by
                rw [← hcnt]
                exact List.length_pos_of_mem (mem_dd.mpr (List.mem_map_of_mem (rooms_zero (mv := mv))))
              omega
            | succ j => exact ⟨j, rfl, by have := inf.2.1; omega⟩
end

/-! ### least_table, good_marks, reader_of_table, least -/
open MA
def numD (l : List Nat) (c : Int) : Option V := if 0 ≤ c ∧ c.toNat ∈ l then some (.int ((l.idxOf c.toNat : Nat) : Int)) else none
theorem numD_at {l : List Nat} {n : Nat} (h : n ∈ l) : numD l (n : Int) = some (.int ((l.idxOf n : Nat) : Int)) := by
  unfold numD
  rw [if_pos ⟨by omega, by simpa using h⟩]
  simp
theorem numD_no {l : List Nat} {n : Nat} (h : n ∉ l) : numD l (n : Int) = none := by
  unfold numD
  rw [if_neg (fun z => h (by simpa using z.2))]
theorem idx_end {n : Nat} : ∀ {l : List Nat}, n ∉ l → (l ++ [n]).idxOf n = l.length
  | [], _ => by simp
  | x :: l, h => by
    rw [List.mem_cons, not_or] at h
    have h1 : (x == n) = false := beq_false_of_ne (Ne.symm h.1)
    rw [List.cons_append, List.idxOf_cons, h1, idx_end h.2]
    rfl
theorem numD_snoc {l : List Nat} {n : Nat} (h : n ∉ l) (y : Int) : (if y = (n : Int) then some (V.int ((l.length : Nat) : Int)) else numD l y) = numD (l ++ [n]) y := by
  by_cases hy : y = (n : Int)
  · subst hy
    rw [if_pos rfl, numD_at (by simp)]
    rw [idx_end h]
  · rw [if_neg hy]
    unfold numD
    by_cases h2 : 0 ≤ y ∧ y.toNat ∈ l
    · rw [if_pos h2, if_pos ⟨h2.1, by simp [h2.2]⟩, idx_app _ h2.2]
    · rw [if_neg h2, if_neg]
      rintro ⟨h3, h4⟩
      rcases List.mem_append.mp h4 with h4 | h4
      · exact h2 ⟨h3, h4⟩
      · have := List.mem_singleton.mp h4
        omega
abbrev sTable : Stmt := top 24
abbrev sMarks : Stmt := top 31
abbrev sRdTab : Stmt := top 32
def marksL (n : Nat) (g : List Int) : List V := (iota n).map fun x => V.bl (accI g x)
def spTable : Sp := fun vs H Q _ => ∃ (S : List Addr) (v : V) (mk : Addr) (k : Nat) (mv : List (List Int)) (g : List Int), vs = [v, .ref mk] ∧ MvQ S H v mv ∧ MachW k mv g ∧ k ≤ 3 ∧ H mk = some (.lst (marksL mv.length g)) ∧
  ∀ (p a b : Addr) (H' : Hp) (cl : Int → Nat), (∀ r ∈ rooms mv, ∀ s ∈ rooms mv, cl r = cl s ↔ Alike mv g r s) → Same H H' → H' p = some (.tup [.ref a, .ref b]) → Rp [] H' (.ref a) (mvT (leastM mv cl)) → H' b = some (.tup ((heads cl (rooms mv)).map fun r => V.bl (accI g r))) → Q (.ref p) H'
def spMarks (ad : Ad) : Sp := fun vs H Q _ => ∃ (U : List Addr) (x : Addr) (al : Str) (mv : List (List Int)) (g : List Int), vs = [.ref x] ∧ RdAt ad U H x al mv g ∧ ∀ p H', H p = none → Same H H' → H' p = some (.lst (marksL mv.length g)) → Q (.ref p) H'
/-- the least reader is made, or it is told that it has too many rooms -/
def LeastW (ad : Ad) (U : List Addr) (al : Str) (mv : List (List Int)) (g : List Int) (H : Hp) (Q : VK) (E : XK) : Prop := ∀ (lm : List (List Int)) (lg : List Int), CanonW al.length lm lg → SameSet mv g lm lg 0 0 →
  (lm.length ≤ 60 → ∀ (x : Addr) (H' : Hp), Same H H' → RdAt ad U H' x al lm lg → Q (.ref x) H') ∧ (60 < lm.length → Ex ad .many (.str "room") H E)
def spRdTab (ad : Ad) : Sp := fun vs H Q E => ∃ (S U : List Addr) (al : Str) (v : V) (mk : Addr) (mv : List (List Int)) (g : List Int), vs = [.str al, v, .ref mk] ∧ alOk al = true ∧ al.length ≤ 3 ∧ MvQ S H v mv ∧ MachW al.length mv g ∧ H mk = some (.lst (marksL mv.length g)) ∧ (∀ a ∈ U, ∃ xs, H a = some (.lst xs)) ∧ LeastW ad U al mv g H Q E
section
open PyProof.Rows
variable {P : Program} {w : World} {K : PySem.W.Frag} {mg : Str → Option Value} {base : Heap} {ad : Ad}
theorem scTable : FnScope ["moves", "marks", "rooms", "classes", "numbers", "heads", "room", "least_moves", "target"] ["moves", "marks"] (C8.fnScope sTable) := C8.fnScope_by (by decide +kernel)
theorem ok_table {f : Addr} {fd : FuncData} (F : C8.Def K mg "least_table" sTable f fd) (b : Binds K fd ["moves", "marks"] []) (T : Txt mg) (c_reached_rooms : C8.Cal P w K mg base 1 "reached_rooms" spReached []) (c_room_classes : C8.Cal P w K mg base 1 "room_classes" spClasses []) : C8.Cal P w K mg base 2 "least_table" spTable [] := by
  refine C8.cal0 F b .nil scTable (fun vs H Q E h => ?_) (fun cdv A outer s H vs Q E hr h => ?_)
  · obtain ⟨S, v, mk, k, mv, g, rfl, _⟩ := h
    rfl
  · obtain ⟨S, v, mk, k, mv, g, rfl, rm, M, hk, hmk, kk⟩ := h
    have sc := scTable
    have hu : (A.deeper (envOfC "least_table" (C8.fnScope sTable) s.heap.objs.size f cdv)).units + 1 < cLine := by have := hr.un; omega
    refine ⟨_, -- least_table: 0 moves* 1 marks* 2 rooms 3 classes* 4 numbers* 5 heads 6 room 7 least_moves 8 target

      (pss_cons (ps_set (i := 2) sc.nd rfl (Or.inl rfl) (C8.pe_c c_reached_rooms hr (by decide) rfl (pa_cons (pv 0) pa_nil)))
      (pss_cons (ps_set (i := 3) sc.nd rfl (Or.inr rfl) (C8.pe_c c_room_classes hr (by decide) rfl (pa_cons (pv 2) (pa_cons (pv 0) (pa_cons (pv 1) pa_nil)))))
      (pss_cons (ps_set (i := 4) sc.nd rfl (Or.inr rfl) pe_dnewK)
      (pss_cons (ps_set (i := 5) sc.nd rfl (Or.inl rfl) (pe_lst pa_nil))
      (pss_cons (ps_for PassesOwn.never rfl (pi_seqH (pv 2)) (pg_name (i := 6) sc.nd rfl (Or.inl rfl)) 
        (pss_one (ps_if (pt_cmp (pc_dnotin hu (pe_dget hu (pv 3) (pv 6) (fun _ _ => rfl)) (pv 4))) 
          (pss_cons (ps_dput hu (pv 4) (pe_dget hu (pv 3) (pv 6) (fun _ _ => rfl)) (pe_callB (call_lenQ (K := K) rfl) (by rfl) T.len PySem.boot_len (pa_cons (pv 5) pa_nil)) rfl)
          (pss_one (ps_expr (pe_append (K := K) rfl (pv 5) (pa_cons (pv 6) pa_nil))))) pss_nil)))
      (pss_cons (ps_set (i := 7) sc.nd rfl (Or.inl rfl) (pe_callTy (T := "tuple") (call_tupQ (K := K) rfl) (by rfl) T.tuple (by decide +kernel) (pa_cons (pe_lc (own := [("room", 6)]) (g := gName 6) rfl sc.nd (pi_list (pv 5)) (blkOk_by (own := [("room", 6)]) (by kernel_rfl)) (fun _ _ _ _ _ => (pg_name (i := 6) sc.nd rfl (Or.inl rfl))) (fun _ _ _ _ _ => pts_nil) (fun _ _ _ _ _ => (pe_callTy (T := "tuple") (call_tupQ (K := K) rfl) (by rfl) T.tuple (by decide +kernel) (pa_cons (pe_lc (own := [("target", 8)]) (g := gName 8) rfl sc.nd (pi_seqWK (K := K) rfl (pe_ix (ixQ (K := K) rfl) (pv 0) (pv 6) (fun _ _ => rfl))) (blkOk_by (own := [("target", 8)]) (by kernel_rfl)) (fun _ _ _ _ _ => (pg_name (i := 8) sc.nd rfl (Or.inl rfl))) (fun _ _ _ _ _ => pts_nil) (fun _ _ _ _ _ => (pe_dget hu (pv 4) (pe_dget hu (pv 3) (pv 8) (fun _ _ => rfl)) (fun _ _ => rfl)))) pa_nil)))) pa_nil)))
      (pss_one (ps_ret (pe_tup (pa_cons (pv 7) (pa_cons (pe_callTy (T := "tuple") (call_tupQ (K := K) rfl) (by rfl) T.tuple (by decide +kernel) (pa_cons (pe_lc (own := [("room", 6)]) (g := gName 6) rfl sc.nd (pi_list (pv 5)) (blkOk_by (own := [("room", 6)]) (by kernel_rfl)) (fun _ _ _ _ _ => (pg_name (i := 6) sc.nd rfl (Or.inl rfl))) (fun _ _ _ _ _ => pts_nil) (fun _ _ _ _ _ => (pe_ix (ixLK (K := K) rfl) (pv 1) (pv 6) (fun _ _ => rfl)))) pa_nil)) pa_nil))))))))))), ?_⟩
    have ml := M.most
    have Rl := M.rooms_len
    refine ⟨_, rfl, S, v, k, mv, g, rfl, rm, M, hk, fun ro H1 hro s1 e1 => ?_⟩
    refine ⟨_, rfl, _, rfl, _, rfl, S, v, ro, mk, k, mv, g, rfl, e1, rm.same s1, M, hk, s1 _ _ hmk, fun c H2 cl hc s2 D2 hcl => ?_⟩
    refine fun n hn => ⟨Nat.zero_le _, fun l hl => ?_⟩
    have nl : n ≠ l := fun e => by rw [← e, upd_same] at hl; cases hl
    have hl2 : H2 l = none := by rw [upd_ne (Ne.symm nl)] at hl; exact hl
    have s3 : Same H2 (upd (upd H2 n (.dK [])) l (.lst [])) := (Same.new hn).trans (Same.new hl)
    have Dn : DkF (upd (upd H2 n (.dK [])) l (.lst [])) n (numD []) 0 := ⟨[], by rw [upd_ne nl, upd_same], fun x => by unfold numD; rw [if_neg (by simp)]; rfl, Nat.le_refl _⟩
    have el : upd (upd H2 n (.dK [])) l (.lst []) l = some (.lst (([] : List Int).map V.int)) := upd_same
    generalize upd (upd H2 n (.dK [])) l (.lst []) = H3 at s3 Dn el ⊢
    have nin : ∀ {b : Addr} {o : HO}, H2 b = some o → b ≠ n ∧ b ≠ l := fun {b o} e => ⟨fun z => (by rw [z, hn] at e; cases e), fun z => (by rw [z, hl2] at e; cases e)⟩
    refine ⟨_, rfl, ro, _, rfl, .inl (s3 _ _ (s2 _ _ e1)), fun J G wJ hG => ?_⟩
    rw [List.length_map] at wJ
    refine for_it wJ (fun i σ H' => Iv (Keep [n, l] H3 H' ∧ DkF H' n (numD ((headsF cl [] ((rooms mv).take i)).map cl)) i ∧ H' l = some (.lst ((headsF cl [] ((rooms mv).take i)).map V.int)) ∧ ∃ x6, σ = [some v, some (.ref mk), some (.ref ro), some (.ref c), some (.ref n), some (.ref l), x6, none, none])) (.of ⟨Keep.refl _ _, Dn, el, _, rfl⟩) (fun _ _ _ _ hp => ?_) (fun i y σ H4 H5 hi hp hy => ?_) (fun σ H4 hp => ?_)
    · obtain ⟨k4, _⟩ := hp.get
      have e4 := k4 ro _ (by simp [nin (s2 _ _ e1)]) (s3 _ _ (s2 _ _ e1))
      exact hG _ (e4.trans (s3 _ _ (s2 _ _ e1)).symm)
    · obtain ⟨k4, D4, L4, x6, rfl⟩ := hp.get
      obtain ⟨rfl, hy⟩ := hy
      obtain ⟨r, hr, rfl⟩ : ∃ r, (rooms mv)[i]? = some r ∧ y = .int r := by
        rw [List.getElem?_map] at hy
        cases e : (rooms mv)[i]? with
        | none => rw [e] at hy; cases hy
        | some t => rw [e] at hy; exact ⟨t, rfl, (Option.some.inj hy).symm⟩
      have hrR := List.mem_of_getElem? hr
      have Dc : DkF H5 c (clD (rooms mv) cl) 3600 := by
        obtain ⟨kvs2, e2, q2⟩ := D2
        exact ⟨kvs2, k4 c _ (by simp [nin e2]) (s3 _ _ e2), q2⟩
      have ec : DGet H5 c (.int r) (some (.int (cl r : Int))) := Dc.at (by unfold clD; rw [if_pos hrR])
      have hlen : (headsF cl [] ((rooms mv).take i)).length ≤ 3600 := by
        have h1 := nodup_le (l := (heads cl ((rooms mv).take i)).map cl) (m := ((rooms mv).take i).map cl) (by rw [heads_map]; exact nodup_dd _) fun x hx => by rw [heads_map] at hx; exact mem_dd.mp hx
        rw [List.length_map, List.length_map, List.length_take] at h1
        have h2 : (headsF cl [] ((rooms mv).take i)).length ≤ min i (rooms mv).length := h1
        omega
      rw [take_snoc hr, headsF_snoc]
      have hi2 : i < (rooms mv).length := (List.getElem?_eq_some_iff.mp hr).1
      generalize headsF cl [] ((rooms mv).take i) = hs at D4 L4 hlen ⊢
      refine ⟨_, rfl, _, rfl, c, _, rfl, ec, _, rfl, n, _, rfl, D4.get _, _, rfl, ?_⟩
      by_cases hm : cl r ∈ hs.map cl
      · rw [if_pos hm, numD_at hm]
        exact iteF (.of ⟨k4, D4.fn (fun x => rfl) (by omega), L4, _, rfl⟩)
      · rw [if_neg hm, numD_no hm]
        obtain ⟨H6, hput, D6, e6⟩ := D4.put (by omega) (cl r : Int) (.int ((hs.length : Nat) : Int))
        have L6 : H6 l = some (.lst (hs.map V.int)) := (e6 l (Ne.symm nl)).trans L4
        refine iteT ⟨_, rfl, l, _, rfl, .inl (SqL.of L4), _, rfl, _, rfl, _, rfl, c, _, rfl, ec, n, H6, rfl, by rw [List.length_map]; exact hput, ?_⟩
        refine ⟨_, rfl, .inl ⟨rfl, _, SqL.of L6⟩, _, rfl, l, _, _, rfl, rfl, L6, Nat.lt_of_le_of_lt (show (hs.map V.int).length ≤ 3600 by rw [List.length_map]; exact hlen) (by decide), .of ⟨fun b o hb e => ?_, ?_, ?_, _, rfl⟩⟩
        · rw [upd_ne (fun z => hb (by simp [z])), e6 b (fun z => hb (by simp [z]))]
          exact k4 b o hb e
        · refine (D6.keep (upd_ne nl)).fn (fun x => ?_) (Nat.le_refl _)
          rw [List.map_append]
          have := numD_snoc hm x
          rw [List.length_map] at this
          exact this
        · rw [upd_same, List.map_append]
          rfl
    · obtain ⟨k4, D4, L4, x6, rfl⟩ := hp.get
      rw [List.take_length] at D4 L4
      have hh : headsF cl [] (rooms mv) = heads cl (rooms mv) := rfl
      rw [hh] at D4 L4
      rw [heads_map] at D4
      have s4 : Same H H4 := fun a o e => k4 a o (by simp [nin (s2 _ _ (s1 _ _ e))]) (s3 _ _ (s2 _ _ (s1 _ _ e)))
      have Dc : DkF H4 c (clD (rooms mv) cl) 3600 := by
        obtain ⟨kvs2, e2, q2⟩ := D2
        exact ⟨kvs2, k4 c _ (by simp [nin e2]) (s3 _ _ e2), q2⟩
      have rm4 := rm.same s4
      have hdl : (heads cl (rooms mv)).length ≤ 3600 := by
        have h1 := nodup_le (l := (heads cl (rooms mv)).map cl) (m := (rooms mv).map cl) (by rw [heads_map]; exact nodup_dd _) fun x hx => by rw [heads_map] at hx; exact mem_dd.mp hx
        rw [List.length_map, List.length_map] at h1
        omega
      have hdi : ∀ {i : Nat} {x : V}, ((heads cl (rooms mv)).map V.int)[i]? = some x → ∃ r, (heads cl (rooms mv))[i]? = some r ∧ x = .int r := fun {i x} h => by
        rw [List.getElem?_map] at h
        cases e : (heads cl (rooms mv))[i]? with
        | none => rw [e] at h; cases h
        | some t => rw [e] at h; exact ⟨t, rfl, (Option.some.inj h).symm⟩
      have hdR : ∀ {i : Nat} {r : Int}, (heads cl (rooms mv))[i]? = some r → r ∈ rooms mv := fun h => heads_in cl _ _ (List.mem_of_getElem? h)
      refine ⟨_, rfl, _, rfl, ⟨_, SqL.of L4⟩, fun L hL => lc_FS (j := 6) (Xp := fun i x => ∃ r, (heads cl (rooms mv))[i]? = some r ∧ x = .int r) [] (fun i => rowT ((leastM mv cl).getD i [])) walk_list (fun i H x H' _ y => ⟨y.1, hdi y.2⟩) (by simp) hL (by rw [List.length_map]; omega) (fun H5 s5 => SqL.of (s5 _ _ L4)) (fun _ => rfl) (fun i x H5 hi hx s5 hex Kt ht2 => ?_) (fun ys H5 s5 hL5 hr5 => ?_)⟩
      · obtain ⟨r, hr, rfl⟩ := hx
        have hrR := hdR hr
        have hrI := M.rooms_in r hrR
        obtain ⟨row, hrow, erow, hlr, hin2⟩ := M.rowI_at hrI
        obtain ⟨a, xs, b, rfl, ha, ea, eb1, hb, eb⟩ := mvQ_at (rm4.same s5) (mem_iota.mp hrI).1 hrow
        have hcl2 : ∀ x ∈ row, x ∈ rooms mv := fun x hx => M.rooms_closed r hrR x (by rw [erow]; exact hx)
        refine ⟨_, rfl, _, rfl, a, xs, _, _, rfl, rfl, sqo ea, eb1, b, _, rfl, .inr (.inl (.inl eb)), fun J2 G2 wJ2 hG2 L2 hL2 => ?_⟩
        refine lc_F (j := 8) (Xp := fun l x => ∃ t, row[l]? = some t ∧ x = .int t) (fun l => D.int (ixC mv cl (row.getD l 0))) wJ2 (fun l H x H' _ y => ⟨y.1, ?_⟩) hL2 (by rw [List.length_map, hlr]; omega) (fun H6 s6 => hG2 H6 s6) (fun _ => rfl) (fun l x H6 hl hx s6 Kt ht => ?_) (fun ys H6 s6 e6 r6 => ?_)
        · have y2 := y.2
          rw [List.getElem?_map] at y2
          cases e : row[l]? with
          | none => rw [e] at y2; cases y2
          | some t => rw [e] at y2; exact ⟨t, rfl, (Option.some.inj y2).symm⟩
        · obtain ⟨t, ht1, rfl⟩ := hx
          have htR := hcl2 t (List.mem_of_getElem? ht1)
          have s56 := s5.trans s6
          have Dc6 : DkF H6 c (clD (rooms mv) cl) 3600 := by
            obtain ⟨kvs2, e2, q2⟩ := Dc
            exact ⟨kvs2, s56 _ _ e2, q2⟩
          have Dn6 : DkF H6 n (numD (dd ((rooms mv).map cl))) (rooms mv).length := by
            obtain ⟨kvs2, e2, q2⟩ := D4
            exact ⟨kvs2, s56 _ _ e2, q2⟩
          refine ⟨_, rfl, _, rfl, _, rfl, c, _, rfl, Dc6.at (by unfold clD; rw [if_pos htR]), n, _, rfl, Dn6.at (numD_at (mem_dd.mpr (List.mem_map_of_mem htR))), ht _ _ (Same.refl _) ?_⟩
          rw [List.getD_eq_getElem?_getD, ht1]
          exact .int _
        · have en : (List.range (row.map V.int).length).map (fun l => D.int (ixC mv cl (row.getD l 0))) = ((rowI mv r).map (ixC mv cl)).map D.int := by
            rw [erow]
            refine List.ext_getElem? fun l => ?_
            simp only [List.getElem?_map, List.length_map]
            by_cases hl : l < row.length
            · rw [List.getElem?_range hl, List.getElem?_eq_getElem hl]
              show some (D.int (ixC mv cl (row.getD l 0))) = some (D.int (ixC mv cl row[l]))
              rw [List.getD_eq_getElem?_getD, List.getElem?_eq_getElem hl]
              rfl
            · rw [List.getElem?_eq_none (by simpa using hl), List.getElem?_eq_none (by simpa using hl)]
              rfl
          rw [en] at r6
          refine ⟨L2, ys, rfl, .inl ⟨SqL.of e6, fun p hp => ht2 _ _ (s6.trans (Same.new hp)) ?_⟩⟩
          have e7 : (leastM mv cl).getD i [] = (rowI mv r).map (ixC mv cl) := by
            unfold leastM
            rw [List.getD_eq_getElem?_getD, List.getElem?_map, hr]
            rfl
          rw [e7]
          refine .tup (fun hm => ?_) upd_same (r6.ints_eq ▸ Rps.ints _)
          obtain ⟨o, e⟩ := hex L (List.mem_cons_self ..)
          rw [List.mem_singleton.mp hm, s6 _ _ e] at hp
          cases hp
      · rw [List.length_map] at hr5
        have e8 : (List.range (heads cl (rooms mv)).length).map (fun i => rowT ((leastM mv cl).getD i [])) = (leastM mv cl).map rowT := by
          rw [← mvT_range (leastM mv cl)]
          unfold leastM
          rw [List.length_map]
        rw [e8] at hr5
        refine ⟨L, ys, rfl, .inl ⟨SqL.of hL5, fun a ha => ?_⟩⟩
        have ra : Rp [] (upd H5 a (.tup ys)) (.ref a) (mvT (leastM mv cl)) := .tup (by simp) upd_same (hr5.same (Same.new ha))
        have s6 : Same H4 (upd H5 a (.tup ys)) := s5.trans (Same.new ha)
        generalize upd H5 a (.tup ys) = H6 at ra s6 ⊢
        refine ⟨_, rfl, _, rfl, _, rfl, ⟨_, SqL.of (s6 _ _ L4)⟩, fun L2 hL2 => lc_F (j := 6) (Xp := fun i x => ∃ r, (heads cl (rooms mv))[i]? = some r ∧ x = .int r) (fun i => D.bl (accI g ((heads cl (rooms mv)).getD i 0))) walk_list (fun i H x H' _ y => ⟨y.1, hdi y.2⟩) hL2 (by rw [List.length_map]; omega) (fun H7 s7 => SqL.of (s7 _ _ (s6 _ _ L4))) (fun _ => rfl) (fun i x H7 hi hx s7 Kt ht => ?_) (fun ys2 H7 s7 e7 r7 => ?_)⟩
        · obtain ⟨r, hr, rfl⟩ := hx
          have hx := mem_iota.mp (M.rooms_in r (hdR hr))
          have hat : atI (marksL mv.length g) r = some (.bl (accI g r)) := by
            rw [show r = ((r.toNat : Nat) : Int) by omega]
            refine atI_nat ?_
            unfold marksL
            rw [List.getElem?_map, iota_at (by omega)]
            rfl
          refine ⟨_, rfl, _, rfl, mk, _, _, _, rfl, rfl, SqL.of (s7 _ _ (s6 _ _ (s4 _ _ hmk))), hat, ht _ _ (Same.refl _) ?_⟩
          rw [List.getD_eq_getElem?_getD, hr]
          exact .bl _
        · have ey := r7.bls_eq (n := 0)
          refine ⟨L2, ys2, rfl, .inl ⟨SqL.of e7, fun b hb => ⟨(by show 2 ≤ sizeLine; exact szl rfl), fun p hp => ?_⟩⟩⟩
          have s8 := s7.trans ((Same.new (o := .tup ys2) hb).trans (Same.new (o := .tup [.ref a, .ref b]) hp))
          refine kk p a b _ cl hcl (s4.trans (s6.trans s8)) upd_same (ra.same s8) ?_
          rw [Same.new (o := .tup [.ref a, .ref b]) hp _ _ upd_same, ey, List.length_map]
          refine congrArg (fun z => some (HO.tup z)) ?_
          refine List.ext_getElem? fun l => ?_
          simp only [List.getElem?_map]
          by_cases hl : l < (heads cl (rooms mv)).length
          · rw [List.getElem?_range hl, List.getElem?_eq_getElem hl]
            show some (V.bl (accI g ((heads cl (rooms mv)).getD l 0))) = some (V.bl (accI g (heads cl (rooms mv))[l]))
            rw [List.getD_eq_getElem?_getD, List.getElem?_eq_getElem hl]
            rfl
          · rw [List.getElem?_eq_none (by simpa using hl), List.getElem?_eq_none (by simpa using hl)]
            rfl
end

/-! ### good_marks, reader_of_table: walks -/
open MA
theorem filter_one (p : Nat → Bool) (i : Nat) : [i].filter p = if p i = true then [i] else [] := by
  cases h : p i <;> simp [List.filter, h]
section
open PyProof.Rows
variable {P : Program} {w : World} {K : PySem.W.Frag} {mg : Str → Option Value} {base : Heap} {ad : Ad}
theorem scMarks : FnScope ["reader", "room"] ["reader"] (C8.fnScope sMarks) := C8.fnScope_by (by decide +kernel)
theorem ok_marks {f : Addr} {fd : FuncData} (R : RdC K ad.Reader) (F : C8.Def K mg "good_marks" sMarks f fd) (b : Binds K fd ["reader"] []) (T : Txt mg) : C8.Cal P w K mg base 1 "good_marks" (spMarks ad) [] := by
  refine C8.cal0 F b .nil scMarks (fun vs H Q E h => ?_) (fun cdv A outer s H vs Q E hr h => ?_)
  · obtain ⟨U, x, al, mv, g, rfl, _⟩ := h
    rfl
  · obtain ⟨U, x, al, mv, g, rfl, hx, kk⟩ := h
    have sc := scMarks
    have M := hx.mach
    have ml := M.most
    obtain ⟨dx, vm, vg, ex, rm, rg⟩ := hx.ex
    obtain ⟨pm, ms, rfl, _, em, hms⟩ := rm.tupItem
    obtain ⟨pg, gs, rfl, _, eg, hgs⟩ := rg.tupItem
    rw [hgs.ints_eq] at eg
    have wl := hms.len
    rw [List.length_map] at wl
    refine ⟨_, -- good_marks: 0 reader* 1 room

      (pss_one (ps_ret (pe_lc (own := [("room", 1)]) (g := gName 1) rfl sc.nd (pi_range1 (by rfl) T.range (pa_cons (pe_callB (call_lenQ (K := K) rfl) (by rfl) T.len PySem.boot_len (pa_cons (pe_fldK (K := K) rfl (pv 0)) pa_nil)) pa_nil)) (blkOk_by (own := [("room", 1)]) (by kernel_rfl)) (fun _ _ _ _ _ => (pg_name (i := 1) sc.nd rfl (Or.inl rfl))) (fun _ _ _ _ _ => pts_nil) (fun _ _ _ _ _ => (pe_cmpR (op_inQ (K := K) rfl) (pv 1) (pe_fldK (K := K) rfl (pv 0)) (by rfl)))))), ?_⟩
    refine ⟨_, rfl, x, ad.Reader, dx, _, _, rfl, ex, R.cl, R.n2, rfl, pm, ms, rfl, .inr (.inl (.inl em)), (ms.length : Int), rfl, ?_, ?_, fun L hL => lc_F (j := 1) (Xp := fun i x => x = .int (0 + (i : Int))) (fun i => D.bl (accI g (i : Int))) (walk_range (lo := 0)) (fun i H x H' _ y => ⟨y.1, y.2⟩) hL (show (ms.length : Int).toNat ≤ 100000 by omega) (fun _ _ => trivial) (fun _ => rfl) (fun i x5 H5 hi hx5 s5 Kt ht => ?_) (fun ys H5 s5 e5 r5 => ?_)⟩
    · omega
    · omega
    · subst hx5
      refine ⟨_, rfl, _, rfl, x, ad.Reader, dx, _, _, rfl, s5 _ _ ex, R.cl, R.n3, rfl, pg, _, rfl, .inr (.inl (.inl (s5 _ _ eg))), rfl, flat_ints g, ?_⟩
      rw [inV_ints]
      refine ht _ _ (Same.refl _) ?_
      rw [show (0 + (i : Int)) = (i : Int) by omega]
      exact .bl _
    · have ey := r5.bls_eq (n := 0)
      refine kk L _ hL s5 ?_
      rw [e5, ey]
      refine congrArg (fun z => some (HO.lst z)) ?_
      unfold marksL iota
      rw [List.map_map, List.map_map, show (ms.length : Int).toNat = mv.length by omega]
      rfl
theorem scRdTab : FnScope ["alphabet", "moves", "marks", "least_moves", "least_marks", "room"] ["alphabet", "moves", "marks"] (C8.fnScope sRdTab) := C8.fnScope_by (by decide +kernel)
theorem ok_rdtab {f : Addr} {fd : FuncData} (F : C8.Def K mg "reader_of_table" sRdTab f fd) (b : Binds K fd ["alphabet", "moves", "marks"] []) (T : Txt mg) (O : Own K mg ad) (SU : Sup P w K mg ad .many) (v_MOST_ROOMS : ∃ u, mg "MOST_ROOMS" = some u ∧ RelV (.int 60) u) (c_least_table : C8.Cal P w K mg base 2 "least_table" spTable []) (m_Reader : MakZ P w K mg base 3 "Reader" ad.Reader (spInit K ad)) : CalZ ZT P w K mg base 5 "reader_of_table" (spRdTab ad) := by
  refine calZ (fun _ _ _ => trivial) F b scRdTab (fun vs H Q E h => ?_) (fun cdv A outer s H vs Q E hz hr h => ?_)
  · obtain ⟨S, U, al, v, mk, mv, g, rfl, _⟩ := h
    rfl
  · obtain ⟨S, U, al, v, mk, mv, g, rfl, hok, hal, rm, M, hmk, hU, kk⟩ := h
    have sc := scRdTab
    obtain ⟨D0, fI, arg, ok, ST, hok2⟩ := SU.ex
    have pw := passW (takesG (P := P) (w := w) (K := K) (mg := mg) (base := base) (N := ["alphabet", "moves", "marks", "least_moves", "least_marks", "room"]) (qual := "reader_of_table") (scope := C8.fnScope sRdTab) (f := f) (cd := cdv) (A := A) (outer := outer) (s := s) (H := H) (E := E))
    refine ⟨_, -- reader_of_table: 0 alphabet 1 moves 2 marks 3 least_moves 4 least_marks* 5 room

      (pss_cons (ps_asg (C8.pe_c c_least_table hr (by decide) rfl (pa_cons (pv 1) (pa_cons (pv 2) pa_nil))) (pg_tup rfl (pgs_cons (pg_name (i := 3) sc.nd rfl (Or.inl rfl)) (pgs_cons (pg_name (i := 4) sc.nd rfl (Or.inr rfl)) pgs_nil))))
      (pss_cons (ps_if (pt_cmpR op_gt (pe_callB (call_lenQ (K := K) rfl) (by rfl) T.len PySem.boot_len (pa_cons (pv 3) pa_nil)) (C8.pe_gc rfl v_MOST_ROOMS) (nomark _)) 
        (pss_one (ps_raiseSup (okV := Er.okV .many) rfl takesG ST hok2 hr O.g_TooMany (pa_cons pe_str pa_nil))) pss_nil)
      (pss_one (ps_ret (pe_makeZ (E := WE (fun cls d _ H => E cls d H)) m_Reader hr (by decide) rfl pw (pa_cons (pv 0) (pa_cons (pv 3) (pa_cons (pe_lc (own := [("room", 5)]) (g := gName 5) rfl sc.nd (pi_range1 (by rfl) T.range (pa_cons (pe_callB (call_lenQ (K := K) rfl) (by rfl) T.len PySem.boot_len (pa_cons (pv 3) pa_nil)) pa_nil)) (blkOk_by (own := [("room", 5)]) (by kernel_rfl)) (fun _ _ _ _ _ => (pg_name (i := 5) sc.nd rfl (Or.inl rfl))) (fun _ _ _ _ _ => (pts_one (pt_val (pe_ix (ixQ (K := K) rfl) (pv 4) (pv 5) (fun _ _ => rfl))))) (fun _ _ _ _ _ => (pv 5))) pa_nil)))))))), ?_⟩
    refine ⟨_, rfl, _, rfl, S, v, mk, al.length, mv, g, rfl, rm, M, hal, hmk, fun p a b H1 cl hcl s1 ep ra eb => ?_⟩
    obtain ⟨C, hs, hle⟩ := least_okW M hcl
    have CM := C.mach
    obtain ⟨kg, kb⟩ := kk _ _ C hs
    refine ⟨p, _, rfl, .inl (.inl ep), rfl, _, _, rfl, _, _, rfl, rfl, ?_⟩
    obtain ⟨pa, ms, e1, _, ea, hms⟩ := ra.tupItem
    cases e1
    have wl := hms.len
    rw [List.length_map] at wl
    refine ⟨_, rfl, a, ms, rfl, .inr (.inl (.inl ea)), _, _, rfl, rfl, _, rfl, ?_⟩
    by_cases h60 : (leastM mv cl).length ≤ 60
    rotate_left
    · rw [decide_eq_true (show (60 : Int) < ((ms.length : Nat) : Int) by omega)]
      exact iteT ⟨_, rfl, ⟨_, rfl, by decide⟩, fun dd hdd => kb (by omega) dd H1 s1 hdd⟩
    have CMm := CM.m h60
    rw [decide_eq_false (show ¬ (60 : Int) < ((ms.length : Nat) : Int) by omega)]
    refine iteF ?_
    have hlh : (heads cl (rooms mv)).length = (leastM mv cl).length := by unfold leastM; rw [List.length_map]
    refine ⟨_, rfl, _, rfl, _, rfl, a, ms, rfl, .inr (.inl (.inl ea)), ((ms.length : Nat) : Int), rfl, ?_, ?_, fun L hL => lc_D (A := []) (S := []) (j := 5) (Xp := fun i x => x = .int (0 + (i : Int))) (fun i ds => ds = (((List.range i).filter fun j => accI g ((heads cl (rooms mv)).getD j 0)).map fun (j : Nat) => ((j : Nat) : Int)).map D.int)
      (walk_range (lo := 0)) (fun i H x H' _ y => ⟨y.1, y.2⟩) Wd.nil hL (show (ms.length : Int).toNat ≤ 100000 by omega) (fun _ _ => trivial) rfl (fun i ds h => ?_) (fun _ => rfl) (fun i ds x5 H5 hi h hx5 W5 k5 Kt Kf ht hf => ?_) (fun ys ds H5 h g5 e5 r5 => ?_)⟩
    · omega
    · omega
    · rw [h, List.length_map, List.length_map]
      exact Nat.le_trans (List.length_filter_le ..) (by rw [List.length_range]; exact Nat.le_refl _)
    · subst hx5
      subst h
      have hi' : i < (heads cl (rooms mv)).length := by
        rw [hlh]
        have : i < (ms.length : Int).toNat := hi
        omega
      have eb5 := k5 b _ (fun z => by rw [List.mem_singleton.mp z, hL] at eb; cases eb) eb
      have hat : atI ((heads cl (rooms mv)).map fun r => V.bl (accI g r)) (0 + (i : Int)) = some (.bl (accI g ((heads cl (rooms mv)).getD i 0))) := by
        rw [show (0 + (i : Int)) = ((i : Nat) : Int) by omega]
        refine atI_nat ?_
        rw [List.getElem?_map, List.getElem?_eq_getElem hi', List.getD_eq_getElem?_getD, List.getElem?_eq_getElem hi']
        rfl
      refine ⟨_, rfl, _, rfl, b, _, _, _, rfl, rfl, .inr (.inl (.inl eb5)), hat, _, rfl, ?_⟩
      have hsn : (List.range (i + 1)).filter (fun j => accI g ((heads cl (rooms mv)).getD j 0)) = (List.range i).filter (fun j => accI g ((heads cl (rooms mv)).getD j 0)) ++ (if accI g ((heads cl (rooms mv)).getD i 0) = true then [i] else []) := by
        rw [List.range_succ, List.filter_append, filter_one]
      cases hc : accI g ((heads cl (rooms mv)).getD i 0) with
      | false =>
        rw [hc] at hsn
        refine iteF (hf _ (Go.refl _ _) ?_)
        rw [hsn]
        simp
      | true =>
        rw [hc] at hsn
        refine iteT ⟨_, rfl, ht _ (.int (0 + (i : Int))) _ (Go.refl _ _) (.int _) ?_⟩
        rw [hsn]
        simp
    · subst h
      have s5 : Same H1 H5 := g5.nil
      have el : (((List.range (ms.length : Int).toNat).filter fun j => accI g ((heads cl (rooms mv)).getD j 0)).map fun (j : Nat) => ((j : Nat) : Int)) = leastG mv g cl := by
        unfold leastG
        rw [show (ms.length : Int).toNat = (heads cl (rooms mv)).length by omega]
      rw [el] at r5
      have rg : Rp [] H5 (.ref L) (rowD (leastG mv g cl)) := .lst (by simp) e5 (r5.less fun _ q => by cases q)
      intro x dx hx hdx hne
      exact init_good (U := U) (.str al) (ra.same s5) rg rfl hok (by omega) ⟨(leastM mv cl).map rowT, rfl, by rw [List.map_map]; rfl⟩ rfl CMm (fun c hc => by obtain ⟨xs, e⟩ := hU c hc; exact ⟨xs, s5 _ _ (s1 _ _ e)⟩)
        hx hdx hne (fun H' s r => ⟨rfl, kg h60 x H' (s1.trans (s5.trans s)) r⟩)
end

/-! ### texts and words; _law_room, _law_within, _law_stays, _law_in_order -/
open MA
/-- a word's text -/
def txW (al : Str) (w : List Nat) : List Nat := w.map fun t => al.cps.toList.getD t 0
theorem sIdx_of {al : Str} (h : IsAl al) {t : Nat} (ht : t < al.length) : sIdx al (al.cps.toList.getD t 0) = t := by
  obtain ⟨l, hl, rfl⟩ := h
  rw [SX.S_len] at ht
  have all : ∀ l ∈ alphs, ∀ t : Fin 3, t.val < l.length → sIdx (SX.S l) ((SX.S l).cps.toList.getD t.val 0) = t.val := by decide +kernel
  have h3 : l.length ≤ 3 := by
    have := (IsAl.len (al := SX.S l) ⟨l, hl, rfl⟩).2
    rwa [SX.S_len] at this
  exact all l hl ⟨t, by omega⟩ ht
theorem let_in {al : Str} {t : Nat} (ht : t < al.length) : al.cps.toList.getD t 0 ∈ al.cps.toList := by
  have h : t < al.cps.toList.length := by rw [Array.length_toList]; exact ht
  rw [List.getD_eq_getElem?_getD, List.getElem?_eq_getElem h]
  exact List.getElem_mem h
theorem txW_over {al : Str} {w : List Nat} (h : ∀ t ∈ w, t < al.length) : ∀ c ∈ txW al w, c ∈ al.cps.toList := fun c hc => by
  obtain ⟨t, ht, rfl⟩ := List.mem_map.mp hc
  exact let_in (h t ht)
theorem txW_snoc (al : Str) (w : List Nat) (t : Nat) : txW al (w ++ [t]) = txW al w ++ [al.cps.toList.getD t 0] := by
  unfold txW
  rw [List.map_append]
  rfl
theorem txW_app (al : Str) (v w : List Nat) : txW al (v ++ w) = txW al v ++ txW al w := List.map_append
theorem word_of {al : Str} : ∀ {cs : List Nat}, (∀ c ∈ cs, c ∈ al.cps.toList) → ∃ w : List Nat, (∀ t ∈ w, t < al.length) ∧ cs = txW al w
  | [], _ => ⟨[], by simp, rfl⟩
  | c :: cs, h => by
    obtain ⟨w, h1, h2⟩ := word_of (cs := cs) fun x hx => h x (List.mem_cons_of_mem _ hx)
    obtain ⟨t, ht, et⟩ := List.mem_iff_getElem.mp (h c (List.mem_cons_self ..))
    refine ⟨t :: w, fun x hx => ?_, ?_⟩
    · rcases List.mem_cons.mp hx with e | hx
      · rw [e]
        rw [Array.length_toList] at ht
        exact ht
      · exact h1 x hx
    · unfold txW at h2 ⊢
      rw [List.map_cons, ← h2, List.getD_eq_getElem?_getD, List.getElem?_eq_getElem ht, et]
      rfl
theorem room_run {al : Str} {mv : List (List Int)} {g : List Int} (hal : IsAl al) (M : Mach al.length mv g) : ∀ (w : List Nat) {p : Int}, (∀ t ∈ w, t < al.length) → p ∈ iota mv.length → (txW al w).foldl (stepF al mv) p = run (rowI mv) p w
  | [], _, _, _ => rfl
  | t :: w, p, h, hp => by
    have ht := h t (List.mem_cons_self ..)
    obtain ⟨row, hrow, erow, hlr, hin⟩ := M.rowI_at hp
    have e1 : stepF al mv p (al.cps.toList.getD t 0) = (rowI mv p).getD t p := by
      have htr : t < row.length := by omega
      have e0 : mv.getD p.toNat [] = row := by rw [List.getD_eq_getElem?_getD, hrow]; rfl
      unfold stepF
      rw [sIdx_of hal ht, e0, erow, List.getD_eq_getElem?_getD, List.getD_eq_getElem?_getD, List.getElem?_eq_getElem htr]
      rfl
    show (txW al w).foldl (stepF al mv) (stepF al mv p (al.cps.toList.getD t 0)) = run (rowI mv) ((rowI mv p).getD t p) w
    rw [e1]
    exact room_run hal M w (fun x hx => h x (List.mem_cons_of_mem _ hx)) (getD_in M.closed hp t)
theorem roomF_run {al : Str} {mv : List (List Int)} {g : List Int} (hal : IsAl al) (M : Mach al.length mv g) {w : List Nat} (h : ∀ t ∈ w, t < al.length) : roomF al mv (txW al w) = run (rowI mv) 0 w := room_run hal M w h M.zero
/-- a machine as a pair of lists or tuples -/
structure MAt (S : List Addr) (H : Hp) (v : V) (mv : List (List Int)) (g : List Int) : Prop where
  ex : ∃ (t : Addr) (x y : V) (dm dg : D), v = .ref t ∧ t ∉ S ∧ H t = some (.tup [x, y]) ∧ Rp S H x dm ∧ Rp S H y dg ∧ MvOf dm mv ∧ GdOf dg g
theorem MAt.keep {S : List Addr} {H H' : Hp} {v : V} {mv : List (List Int)} {g : List Int} (h : MAt S H v mv g) (k : Keep S H H') : MAt S H' v mv g := by
  obtain ⟨t, x, y, dm, dg, e, n, q, r1, r2, m1, m2⟩ := h
  exact ⟨t, x, y, dm, dg, e, n, k _ _ n q, r1.keep k, r2.keep k, m1, m2⟩
theorem MAt.same {S : List Addr} {H H' : Hp} {v : V} {mv : List (List Int)} {g : List Int} (h : MAt S H v mv g) (s : Same H H') : MAt S H' v mv g := h.keep (Keep.same s)
theorem MAt.go {A S : List Addr} {H H' : Hp} {v : V} {mv : List (List Int)} {g : List Int} (h : MAt S H v mv g) (W : Wd A S H) (k : Go A H H') : MAt S H' v mv g := h.keep (k.keep.mono W.sub)
theorem mvO_D (mv : List (List Int)) : MvOf (mvD mv) mv := ⟨mv.map rowD, rfl, by rw [List.map_map]; rfl⟩
theorem mvO_T (mv : List (List Int)) : MvOf (mvT mv) mv := ⟨mv.map rowT, rfl, by rw [List.map_map]; rfl⟩
theorem MAt.ofD {S : List Addr} {H : Hp} {v : V} {mv : List (List Int)} {g : List Int} (r : Rp S H v (.tup [mvD mv, rowD g])) : MAt S H v mv g := by
  obtain ⟨t, ws, rfl, n, e, hws⟩ := r.tupItem
  cases hws with
  | cons h1 hws =>
  cases hws with
  | cons h2 hws =>
  cases hws
  exact ⟨t, _, _, _, _, rfl, n, e, h1, h2, mvO_D mv, rfl⟩
theorem MAt.ofT {S : List Addr} {H : Hp} {v : V} {mv : List (List Int)} {g : List Int} (r : Rp S H v (.tup [mvT mv, rowT g])) : MAt S H v mv g := by
  obtain ⟨t, ws, rfl, n, e, hws⟩ := r.tupItem
  cases hws with
  | cons h1 hws =>
  cases hws with
  | cons h2 hws =>
  cases hws
  exact ⟨t, _, _, _, _, rfl, n, e, h1, h2, mvO_T mv, rfl⟩
/-- lists or tuples, by data -/
theorem seq_at {K : PySem.W.Frag} {S : List Addr} {H : Hp} {v : V} {d : D} {ds : List D} (r : Rp S H v d) (h : d.seq? = some ds) : ∃ a xs, v = .ref a ∧ a ∉ S ∧ SqQ K H a xs ∧ Rps S H xs ds ∧ (H a = some (.lst xs) ∨ H a = some (.tup xs)) := by
  cases r with
  | lst n e rs => cases h; exact ⟨_, _, rfl, n, .inl (SqL.of e), rs, .inl e⟩
  | tup n e rs => cases h; exact ⟨_, _, rfl, n, .inr (.inl (.inl e)), rs, .inr e⟩
  | non => cases h
  | bl b => cases h
  | int i => cases h
  | str x => cases h
  | dct n e => cases h
theorem mvq_at {K : PySem.W.Frag} {S : List Addr} {H : Hp} {v : V} {d : D} {mv : List (List Int)} (r : Rp S H v d) (m : MvOf d mv) : ∃ a xs, v = .ref a ∧ a ∉ S ∧ SqQ K H a xs ∧ xs.length = mv.length ∧ (H a = some (.lst xs) ∨ H a = some (.tup xs)) ∧
    ∀ (p : Int) (row : List Int), 0 ≤ p → mv[p.toNat]? = some row → ∃ b, atI xs p = some (.ref b) ∧ b ∉ S ∧ SqQ K H b (row.map V.int) ∧ (H b = some (.lst (row.map V.int)) ∨ H b = some (.tup (row.map V.int))) := by
  obtain ⟨ms, h1, h2⟩ := m
  obtain ⟨a, xs, rfl, n, q, rs, eo⟩ := seq_at (K := K) r h1
  have hl : ms.length = mv.length := by simpa using congrArg List.length h2
  refine ⟨a, xs, rfl, n, q, by rw [rs.len, hl], eo, fun p row h0 hr => ?_⟩
  have e := congrArg (fun l => l[p.toNat]?) h2
  simp only [List.getElem?_map, hr] at e
  cases hm : ms[p.toNat]? with
  | none => rw [hm] at e; cases e
  | some dr =>
    rw [hm] at e
    have e : dr.seq? = some (row.map D.int) := Option.some.inj e
    obtain ⟨u, hu, ru⟩ := rs.get hm
    obtain ⟨b, ys, rfl, nb, qb, rb, eb⟩ := seq_at (K := K) ru e
    rw [rb.ints_eq] at qb eb
    refine ⟨b, ?_, nb, qb, eb⟩
    rw [show p = ((p.toNat : Nat) : Int) by omega]
    exact atI_nat hu
theorem gd_at2 {K : PySem.W.Frag} {S : List Addr} {H : Hp} {v : V} {d : D} {g : List Int} (r : Rp S H v d) (m : GdOf d g) : ∃ a, v = .ref a ∧ a ∉ S ∧ SqQ K H a (g.map V.int) ∧ (H a = some (.lst (g.map V.int)) ∨ H a = some (.tup (g.map V.int))) := by
  obtain ⟨a, xs, rfl, n, q, rs, eo⟩ := seq_at (K := K) r m
  rw [rs.ints_eq] at q eo
  exact ⟨a, rfl, n, q, eo⟩
abbrev sLawRoom8 : Stmt := top 41
abbrev sWithin : Stmt := top 42
abbrev sStays : Stmt := top 59
abbrev sInOrder : Stmt := top 47
def spLawRoom8 : Sp := fun vs H Q _ => ∃ (U : List Addr) (v : V) (d : D) (al t : Str) (mv : List (List Int)) (g : List Int), vs = [.str al, v, .str t] ∧ Rp U H v d ∧ MvOf d mv ∧ Mach al.length mv g ∧ Over al t ∧ al.length ≤ 1000 ∧ Q (.int (roomF al mv t.cps.toList)) H
def spWithin : Sp := fun vs H Q _ => ∃ (S : List Addr) (al : Str) (v : V) (w : List Nat) (mv : List (List Int)) (g : List Int), vs = [.str al, v, .str (SX.S (txW al w))] ∧ MAt S H v mv g ∧ IsAl al ∧ Mach al.length mv g ∧ (∀ t ∈ w, t < al.length) ∧ Q (.bl (accI g (run (rowI mv) 0 w))) H
def spStays (ad : Ad) : Sp := fun vs H Q _ => ∃ (S U : List Addr) (al : Str) (v : V) (x : Addr) (mv : List (List Int)) (g : List Int), vs = [.str al, v, .ref x] ∧ al.length ≤ 1000 ∧ Rp S H v (.tup [mvD mv, rowD g]) ∧ RdAt ad U H x al mv g ∧ ∀ H', Same H H' → Q (.bl true) H'
def spInOrder : Sp := fun vs H Q _ => ∃ (S : List Addr) (v : V) (k : Nat) (mv : List (List Int)) (g : List Int), vs = [v] ∧ Rp S H v (mvT mv) ∧ Canon k mv g ∧ k ≤ 3 ∧ ∀ H', Same H H' → Q (.bl true) H'
section
open PyProof.Rows
variable {P : Program} {w : World} {K : PySem.W.Frag} {mg : Str → Option Value} {base : Heap} {ad : Ad}
theorem scLawRoom8 : FnScope ["alphabet", "moves", "text", "room", "letter"] ["alphabet", "moves", "text"] (C8.fnScope sLawRoom8) := C8.fnScope_by (by decide +kernel)
theorem ok_lawroom8 {f : Addr} {fd : FuncData} (F : C8.Def K mg "_law_room" sLawRoom8 f fd) (b : Binds K fd ["alphabet", "moves", "text"] []) (T : Txt mg) : C8.Cal P w K mg base 1 "_law_room" spLawRoom8 [] := by
  refine C8.cal0 F b .nil scLawRoom8 (fun vs H Q E h => ?_) (fun cdv A outer s H vs Q E hr h => ?_)
  · obtain ⟨U, v, d, al, t, mv, g, rfl, _⟩ := h
    rfl
  · obtain ⟨U, v, d, al, t, mv, g, rfl, rm, md, M, ho, hal, k⟩ := h
    have sc := scLawRoom8
    obtain ⟨a, xs, rfl, na, qa, _, _, hat⟩ := mvq_at (K := K) rm md
    refine ⟨_, -- _law_room: 0 alphabet 1 moves 2 text 3 room 4 letter

      (pss_cons (ps_set (i := 3) sc.nd rfl (Or.inl rfl) pe_int)
      (pss_cons (ps_for PassesOwn.never rfl (pi_str (pv 2)) (pg_name (i := 4) sc.nd rfl (Or.inl rfl)) 
        (pss_one (ps_set (i := 3) sc.nd rfl (Or.inl rfl) (pe_ix (ixQ (K := K) rfl) (pe_ix (ixQ (K := K) rfl) (pv 1) (pv 3) (fun _ _ => rfl)) (pe_bm PySem.F.plainAttrs_str PySem.F.slot_str_index PySem.F.type_str_index mt_sindex (pv 0) (pa_cons (pv 4) pa_nil)) (fun _ _ => rfl)))))
      (pss_one (ps_ret (pv 3))))), ?_⟩
    refine ⟨_, rfl, t, rfl, ?_⟩
    refine for_it walk_str (fun i σ H' => Iv (H' = H ∧ (0 ≤ roomF al mv (t.cps.toList.take i) ∧ roomF al mv (t.cps.toList.take i) < (mv.length : Int)) ∧ ∃ b, σ = [some (.str al), some (.ref a), some (.str t), some (.int (roomF al mv (t.cps.toList.take i))), b])) (.of ⟨rfl, ⟨Int.le_refl 0, by have := M.pos; show (0 : Int) < _; omega⟩, _, rfl⟩) (fun _ _ _ _ _ => trivial) (fun i y σ H2 H3 hi hp hy => ?_) (fun σ H2 hp => ?_)
    · obtain ⟨rfl, ⟨h0, h1⟩, eb, rfl⟩ := hp.get
      obtain ⟨rfl, c, hc, rfl⟩ := hy
      rw [← Array.getElem?_toList] at hc
      have hm : c ∈ al.cps.toList := ho c (List.mem_of_getElem? hc)
      obtain ⟨rest, hocc, _⟩ := sIdx_at hm
      obtain ⟨r, hr1, hr2, hr3⟩ := step_in M h0 h1 hm
      obtain ⟨b2, e2, _, q2, _⟩ := hat _ _ h0 hr1
      have hb : atI (r.map V.int) ((sIdx al c : Nat) : Int) = some (.int (stepF al mv (roomF al mv (t.cps.toList.take i)) c)) := atI_nat (by rw [List.getElem?_map, hr2]; rfl)
      refine ⟨_, rfl, _, rfl, a, xs, _, _, rfl, rfl, qa, e2, ?_⟩
      refine ⟨_, rfl, rfl, _, rfl, al, _, _, rest, rfl, rfl, hocc, ?_⟩
      refine ⟨b2, _, _, _, rfl, rfl, q2, hb, .of ?_⟩
      rw [take_snoc hc, roomF_snoc]
      exact ⟨rfl, hr3, _, rfl⟩
    · obtain ⟨rfl, _, eb, rfl⟩ := hp.get
      rw [show t.cps.size = t.cps.toList.length by simp, List.take_length]
      exact ⟨_, rfl, k⟩
theorem scWithin : FnScope ["alphabet", "told", "text"] ["alphabet", "told", "text"] (C8.fnScope sWithin) := C8.fnScope_by (by decide +kernel)
theorem ok_within {f : Addr} {fd : FuncData} (F : C8.Def K mg "_law_within" sWithin f fd) (b : Binds K fd ["alphabet", "told", "text"] []) (T : Txt mg) (c_law_room : C8.Cal P w K mg base 1 "_law_room" spLawRoom8 []) : C8.Cal P w K mg base 2 "_law_within" spWithin [] := by
  refine C8.cal0 F b .nil scWithin (fun vs H Q E h => ?_) (fun cdv A outer s H vs Q E hr h => ?_)
  · obtain ⟨S, al, v, w, mv, g, rfl, _⟩ := h
    rfl
  · obtain ⟨S, al, v, w, mv, g, rfl, ⟨t, x, y, dm, dg, rfl, nt, et, rx, ry, md, gd⟩, hal, M, hw, k⟩ := h
    have sc := scWithin
    have hl := hal.len
    obtain ⟨ag, rfl, _, qg, _⟩ := gd_at2 (K := K) ry gd
    refine ⟨_, -- _law_within: 0 alphabet 1 told 2 text

      (pss_one (ps_ret (pe_cmpR (op_inQ (K := K) rfl) (C8.pe_c c_law_room hr (by decide) rfl (pa_cons (pv 0) (pa_cons (pe_ix (ixQ (K := K) rfl) (pv 1) pe_int (fun _ _ => rfl)) (pa_cons (pv 2) pa_nil)))) (pe_ix (ixQ (K := K) rfl) (pv 1) pe_int (fun _ _ => rfl)) (by rfl)))), ?_⟩
    refine ⟨_, rfl, _, rfl, t, _, _, _, rfl, rfl, .inr (.inl (.inl et)), rfl, _, rfl, S, _, dm, al, _, mv, g, rfl, rx, md, M, fun c hc => txW_over hw c hc, by omega, ?_⟩
    refine ⟨_, rfl, t, _, _, _, rfl, rfl, .inr (.inl (.inl et)), rfl, ag, _, rfl, qg, rfl, flat_ints g, ?_⟩
    rw [inV_ints]
    have e : roomF al mv (SX.S (txW al w)).cps.toList = run (rowI mv) 0 w := roomF_run hal M hw
    rw [e]
    exact k
end

/-! ### _law_stays, _law_in_order: walks -/
open MA
section
open PyProof.Rows
variable {P : Program} {w : World} {K : PySem.W.Frag} {mg : Str → Option Value} {base : Heap} {ad : Ad}
theorem scStays : FnScope ["alphabet", "machine", "reader", "row"] ["alphabet", "machine", "reader"] (C8.fnScope sStays) := C8.fnScope_by (by decide +kernel)
theorem ok_stays {f : Addr} {fd : FuncData} (R : RdC K ad.Reader) (F : C8.Def K mg "_law_stays" sStays f fd) (b : Binds K fd ["alphabet", "machine", "reader"] []) (T : Txt mg) (O : Own K mg ad) (c_law_is_reader : C8.Cal P w K mg base 2 "_law_is_reader" (spIsRd ad) []) : C8.Cal P w K mg base 3 "_law_stays" (spStays ad) [] := by
  refine C8.cal0 F b .nil scStays (fun vs H Q E h => ?_) (fun cdv A outer s H vs Q E hr h => ?_)
  · obtain ⟨S, U, al, v, x, mv, g, rfl, _⟩ := h
    rfl
  · obtain ⟨S, U, al, v, x, mv, g, rfl, hal, hv, hx, k⟩ := h
    have sc := scStays
    obtain ⟨t, ws, rfl, htS, ht, hws⟩ := hv.tupItem
    cases hws with
    | cons h1 hws =>
    cases hws with
    | cons h2 hws =>
    cases hws
    cases h1 with
    | lst n1 e1 r1 =>
    cases h2 with
    | lst n2 e2 r2 =>
    obtain ⟨dx, vm, vg, ex, rm, rg⟩ := hx.ex
    have M := hx.mach
    have ml := M.most
    have xl := r1.len
    rw [List.length_map] at xl
    refine ⟨_, -- _law_stays: 0 alphabet 1 machine 2 reader 3 row

      (pss_cons (ps_if (pt_not (pt_val (C8.pe_c c_law_is_reader hr (by decide) rfl (pa_cons (pv 2) (pa_cons (pv 0) pa_nil))))) 
        (pss_one (ps_ret pe_bl)) pss_nil)
      (pss_one (ps_ret (pe_and (pe_cmpR (op_eqD hr.units) (pe_fldK (K := K) rfl (pv 2)) (pe_callTy (T := "tuple") (call_tupQ (K := K) rfl) (by rfl) T.tuple (by decide +kernel) (pa_cons (pe_lc (own := [("row", 3)]) (g := gName 3) rfl sc.nd (pi_list (pe_ix (ixQ (K := K) rfl) (pv 1) pe_int (fun _ _ => rfl))) (blkOk_by (own := [("row", 3)]) (by kernel_rfl)) (fun _ _ _ _ _ => (pg_name (i := 3) sc.nd rfl (Or.inl rfl))) (fun _ _ _ _ _ => pts_nil) (fun _ _ _ _ _ => (pe_callTy (T := "tuple") (call_tupQ (K := K) rfl) (by rfl) T.tuple (by decide +kernel) (pa_cons (pv 3) pa_nil)))) pa_nil)) (nomark _)) (pe_one (pe_cmpR (op_eqD hr.units) (pe_fldK (K := K) rfl (pv 2)) (pe_callTy (T := "tuple") (call_tupQ (K := K) rfl) (by rfl) T.tuple (by decide +kernel) (pa_cons (pe_ix (ixQ (K := K) rfl) (pv 1) pe_int (fun _ _ => rfl)) pa_nil)) (nomark _))))))), ?_⟩
    refine ⟨_, rfl, _, rfl, U, x, al, mv, g, rfl, hx, hal, fun H1 s1 => ⟨_, rfl, iteF ?_⟩⟩
    refine ⟨_, rfl, x, ad.Reader, dx, _, _, rfl, s1 _ _ ex, R.cl, R.n2, rfl, ?_⟩
    have e1' := s1 _ _ e1
    have r1' := r1.same s1
    refine ⟨_, rfl, t, _, _, _, rfl, rfl, .inr (.inl (.inl (s1 _ _ ht))), rfl, ?_⟩
    refine ⟨_, rfl, ⟨_, SqL.of e1'⟩, fun L hL => lc_FS (Xp := fun i x => ∃ r b, mv[i]? = some r ∧ x = .ref b ∧ b ∉ S ∧ H1 b = some (.lst (r.map V.int))) [] (fun i => rowT (mv.getD i [])) walk_list (fun i H2 x H3 _ y => ⟨y.1, rowD_item r1' y.2⟩) (by simp) hL (by omega) (fun H2 s2 => SqL.of (s2 _ _ e1')) (fun _ => rfl) (fun i x H2 hi hx s2 hex Kt ht2 => ?_) (fun ys H2 s2 hL2 hr2 => ?_)⟩
    · obtain ⟨r, b0, hr0, rfl, _, hb0⟩ := hx
      refine ⟨_, rfl, b0, _, rfl, .inl ⟨SqL.of (s2 _ _ hb0), fun l hl => ht2 _ _ (Same.new hl) ?_⟩⟩
      rw [List.getD_eq_getElem?_getD, hr0]
      refine .tup (fun hm => ?_) upd_same (Rps.ints r)
      obtain ⟨o, e⟩ := hex l hm
      rw [hl] at e
      cases e
    · rw [xl, mvT_range] at hr2
      refine ⟨L, ys, rfl, .inl ⟨SqL.of hL2, fun p hp => ?_⟩⟩
      have rp : Rp [] (upd H2 p (.tup ys)) (.ref p) (mvT mv) := .tup (by simp) upd_same (hr2.same (Same.new hp))
      have s3 : Same H (upd H2 p (.tup ys)) := s1.trans (s2.trans (Same.new hp))
      clear hr2
      generalize upd H2 p (.tup ys) = H3 at rp s3
      refine eq_lowT (rm.same s3) rp (low_mvT _) (by decide) ⟨_, rfl, iteT ?_⟩
      refine ⟨_, rfl, x, ad.Reader, dx, _, _, rfl, s3 _ _ ex, R.cl, R.n3, rfl, _, rfl, t, _, _, _, rfl, rfl, .inr (.inl (.inl (s3 _ _ ht))), rfl, _, _, rfl, .inl ⟨SqL.of (s3 _ _ e2), fun q hq => ?_⟩⟩
      have s4 := s3.trans (Same.new (o := .tup (g.map V.int)) hq)
      rw [r2.ints_eq]
      have rq : Rp [] (upd H3 q (.tup (g.map V.int))) (.ref q) (rowT g) := .tup (by simp) upd_same (Rps.ints g)
      exact eq_lowT (rg.same s4) rq (low_rowT _) (by decide) (k _ s4)
theorem scInOrder : FnScope ["moves", "order", "at", "target", "p"] ["moves"] (C8.fnScope sInOrder) := C8.fnScope_by (by decide +kernel)
theorem ok_inorder {f : Addr} {fd : FuncData} (F : C8.Def K mg "_law_in_order" sInOrder f fd) (b : Binds K fd ["moves"] []) (T : Txt mg) : C8.Cal P w K mg base 1 "_law_in_order" spInOrder [] := by
  refine C8.cal0 F b .nil scInOrder (fun vs H Q E h => ?_) (fun cdv A outer s H vs Q E hr h => ?_)
  · obtain ⟨S, v, k, mv, g, rfl, _⟩ := h
    rfl
  · obtain ⟨S, v, k, mv, g, rfl, rm, C, hk, kk⟩ := h
    have sc := scInOrder
    have M := C.mach
    have ml := M.most
    obtain ⟨a, xs, e0, ha, ea, rs⟩ := rm.tupItem
    subst e0
    have wl := rs.len
    rw [List.length_map] at wl
    refine ⟨_, -- _law_in_order: 0 moves 1 order 2 at 3 target 4 p

      (pss_cons (ps_set (i := 1) sc.nd rfl (Or.inl rfl) (pe_lst (pa_cons pe_int pa_nil)))
      (pss_cons (ps_for PassesOwn.never rfl (pi_range1 (by rfl) T.range (pa_cons (pe_callB (call_lenQ (K := K) rfl) (by rfl) T.len PySem.boot_len (pa_cons (pv 0) pa_nil)) pa_nil)) (pg_name (i := 2) sc.nd rfl (Or.inl rfl)) 
        (pss_one (ps_if (pt_cmpR op_lt (pv 2) (pe_callB (call_lenQ (K := K) rfl) (by rfl) T.len PySem.boot_len (pa_cons (pv 1) pa_nil)) (nomark _)) 
          (pss_one (ps_for PassesOwn.never rfl (pi_seqH (pe_ix (ixQ (K := K) rfl) (pv 0) (pe_ix ix_list (pv 1) (pv 2) (fun _ _ => rfl)) (fun _ _ => rfl))) (pg_name (i := 3) sc.nd rfl (Or.inl rfl)) 
            (pss_one (ps_if (pt_cmpR op_notIn_seq (pv 3) (pv 1) (by rfl)) 
              (pss_one (ps_expr (pe_append (K := K) rfl (pv 1) (pa_cons (pv 3) pa_nil)))) pss_nil)))) pss_nil)))
      (pss_one (ps_ret (pe_cmpR (op_eqD hr.units) (pv 1) (pe_lc (own := [("p", 4)]) (g := gName 4) rfl sc.nd (pi_range1 (by rfl) T.range (pa_cons (pe_callB (call_lenQ (K := K) rfl) (by rfl) T.len PySem.boot_len (pa_cons (pv 0) pa_nil)) pa_nil)) (blkOk_by (own := [("p", 4)]) (by kernel_rfl)) (fun _ _ _ _ _ => (pg_name (i := 4) sc.nd rfl (Or.inl rfl))) (fun _ _ _ _ _ => pts_nil) (fun _ _ _ _ _ => (pv 4))) (nomark _)))))), ?_⟩
    refine ⟨by show 1 ≤ sizeLine; exact szl rfl, fun l hl => ?_⟩
    have k1 : Keep [l] H (upd H l (.lst [.int 0])) := Keep.upd (by simp)
    have el : upd H l (.lst [.int 0]) l = some (.lst ([0].map V.int)) := upd_same
    have ea1 : upd H l (.lst [.int 0]) a = some (.tup xs) := by rw [upd_ne (fun z => by rw [z, hl] at ea; cases ea)]; exact ea
    generalize upd H l (.lst [.int 0]) = H1 at k1 el ea1 ⊢
    refine ⟨_, rfl, a, xs, rfl, .inr (.inl (.inl ea1)), ((xs.length : Nat) : Int), rfl, by omega, by omega, ?_⟩
    refine for_it (walk_range (lo := 0)) (fun i σ H' => Iv (Keep [l] H H' ∧ H' l = some (.lst ((ordN (rowI mv) 0 i).map V.int)) ∧ ∃ b2 b3, σ = [some (.ref a), some (.ref l), b2, b3, none])) (.of ⟨k1, el, _, _, rfl⟩) (fun _ _ _ _ _ => trivial) (fun i y σ H2 H3 hi hp hy => ?_) (fun σ H2 hp => ?_)
    · obtain ⟨k2, L2', b2, b3, rfl⟩ := hp.get
      obtain ⟨rfl, rfl⟩ := hy
      show gName 2 (V.int (0 + (i : Int))) _ _ _
      rw [Int.zero_add]
      refine ⟨_, rfl, _, rfl, l, _, rfl, .inl (SqL.of L2'), _, _, rfl, rfl, _, rfl, ?_⟩
      rw [List.length_map]
      by_cases hlt : i < (ordN (rowI mv) 0 i).length
      · rw [decide_eq_true (show (i : Int) < ((ordN (rowI mv) 0 i).length : Int) by omega)]
        obtain ⟨r, hr⟩ : ∃ r, (ordN (rowI mv) 0 i)[i]? = some r := ⟨_, List.getElem?_eq_getElem hlt⟩
        have hrI := ordN_in M.zero M.closed i r (List.mem_of_getElem? hr)
        obtain ⟨row, hrow, erow, hlr, hin2⟩ := M.rowI_at hrI
        obtain ⟨a', xs', b, e0, ha', ea', eb1, hb, eb⟩ := rowT_at (rm.keep (Keep.same (keep_new k2 fun a ha => by rw [List.mem_singleton.mp ha]; exact hl))) (mem_iota.mp hrI).1 hrow
        cases e0
        have bl : b ≠ l := fun e => by rw [e, L2'] at eb; cases eb
        refine iteT ⟨_, rfl, _, rfl, _, rfl, l, _, _, _, rfl, rfl, SqL.of L2', atI_nat (by rw [List.getElem?_map, hr]; rfl), a, xs', _, _, rfl, rfl, .inr (.inl (.inl ea')), eb1, b, _, rfl, .inr eb, fun J G wJ hG => ?_⟩
        refine for_it wJ (fun j σ H' => Iv (Keep [l] H3 H' ∧ H' l = some (.lst ((grow (ordN (rowI mv) 0 i) (row.take j)).map V.int)) ∧ ∃ b3, σ = [some (.ref a), some (.ref l), some (.int (i : Int)), b3, none])) (.of ⟨Keep.refl _ _, L2', _, rfl⟩) (fun _ _ _ _ hp => ?_) (fun j y σ H4 H5 hj hp hy => ?_) (fun σ H4 hp => ?_)
        · obtain ⟨k3, _⟩ := hp.get
          exact hG _ ((k3 b _ (by simp [bl]) eb).trans eb.symm)
        · obtain ⟨k3, L3, b5, rfl⟩ := hp.get
          obtain ⟨rfl, hy⟩ := hy
          obtain ⟨t, ht, rfl⟩ : ∃ t, row[j]? = some t ∧ y = .int t := by
            rw [List.getElem?_map] at hy
            cases e : row[j]? with
            | none => rw [e] at hy; cases hy
            | some t => rw [e] at hy; exact ⟨t, rfl, (Option.some.inj hy).symm⟩
          have hlen : (grow (ordN (rowI mv) 0 i) (row.take j)).length ≤ 60 := by
            have h1 := nodup_le (nodup_grow (ts := row.take j) (ordN_nodup (row := rowI mv) (r0 := 0) i)) (m := iota mv.length) fun x hx => by
              rcases mem_grow.mp hx with hx | hx
              · exact ordN_in M.zero M.closed i x hx
              · exact hin2 x (List.mem_of_mem_take hx)
            rw [iota_len] at h1
            omega
          rw [take_snoc ht, grow_snoc]
          generalize grow (ordN (rowI mv) 0 i) (row.take j) = o at L3 hlen ⊢
          refine ⟨_, rfl, _, rfl, l, _, rfl, .inl (SqL.of L3), rfl, flat_ints o, ?_⟩
          rw [inV_ints]
          refine ⟨_, rfl, ?_⟩
          by_cases hto : t ∈ o
          · rw [if_pos hto, decide_eq_true hto]
            exact iteF (.of ⟨k3, L3, _, rfl⟩)
          · rw [if_neg hto, decide_eq_false hto]
            refine iteT ⟨_, rfl, .inl ⟨rfl, _, SqL.of L3⟩, _, rfl, l, _, _, rfl, rfl, L3, Nat.lt_of_le_of_lt (show (o.map V.int).length ≤ 60 by rw [List.length_map]; exact hlen) (by decide), .of ⟨k3.trans (Keep.upd (by simp)), ?_, _, rfl⟩⟩
            rw [upd_same, List.map_append]
            rfl
        · obtain ⟨k3, L3, b5, rfl⟩ := hp.get
          rw [List.length_map, List.take_length] at L3
          refine .of ⟨k2.trans k3, ?_, _, _, rfl⟩
          rw [ordN_some hr, erow]
          exact L3
      · rw [decide_eq_false (show ¬ (i : Int) < ((ordN (rowI mv) 0 i).length : Int) by omega)]
        refine iteF (.of ⟨k2, ?_, _, _, rfl⟩)
        rw [ordN_none (List.getElem?_eq_none_iff.mpr (by omega))]
        exact L2'
    · obtain ⟨k2, L2', b2, b3, rfl⟩ := hp.get
      have eo : ordN (rowI mv) 0 (((xs.length : Nat) : Int)).toNat = iota mv.length := by
        rw [show (((xs.length : Nat) : Int)).toNat = mv.length by omega]
        exact C.order
      rw [eo] at L2'
      have s2 : Same H H2 := keep_new k2 fun a ha => by rw [List.mem_singleton.mp ha]; exact hl
      refine ⟨_, rfl, _, rfl, a, xs, rfl, .inr (.inl (.inl (s2 _ _ ea))), ((xs.length : Nat) : Int), rfl, by omega, by omega, fun L hL => lc_F (j := 4) (Xp := fun i x => x = .int (0 + (i : Int))) (fun i => D.int (i : Int)) (walk_range (lo := 0)) (fun i H x H' _ y => ⟨y.1, y.2⟩) hL (show (((xs.length : Nat) : Int)).toNat ≤ 100000 by omega) (fun _ _ => trivial) (fun _ => rfl) (fun i x5 H5 hi hx5 s5 Kt ht => ?_) (fun ys H5 s5 e5 r5 => ?_)⟩
      · subst hx5
        refine ⟨_, rfl, ht _ _ (Same.refl _) ?_⟩
        rw [show (0 + (i : Int)) = (i : Int) by omega]
        exact .int _
      · have e9 : (List.range (((xs.length : Nat) : Int)).toNat).map (fun (i : Nat) => D.int (i : Int)) = (iota mv.length).map D.int := by
          rw [show (((xs.length : Nat) : Int)).toNat = mv.length by omega]
          unfold iota
          rw [List.map_map]
          rfl
        rw [e9] at r5
        exact eq_lowT (S := []) (T := []) (.lst (by simp) (s5 _ _ L2') (Rps.ints _)) (.lst (by simp) e5 r5) (low_rowD _) (by decide) (kk _ (s2.trans s5))
end

/-! ### _law_classes -/
open MA
section
variable {α : Type} [DecidableEq α] {row : α → List α} {R : List α} {cl0 : α → Nat}
theorem gcnt_mono (j : Nat) : gcnt row R cl0 j ≤ gcnt row R cl0 (j + 1) := by
  rw [gcnt_succ]
  have h := nodup_le (l := dd (R.map (gcls row R cl0 j))) (m := (dd (R.map (keyC row (gcls row R cl0 j)))).map Prod.fst) (nodup_dd _) fun x hx => by
    obtain ⟨r, hr, rfl⟩ := List.mem_map.mp (mem_dd.mp hx)
    exact List.mem_map.mpr ⟨_, mem_dd.mpr (List.mem_map_of_mem hr), rfl⟩
  rw [List.length_map] at h
  exact h
end
def cl08 (g : List Int) (p : Int) : Nat := if accI g p = true then 1 else 0
theorem cl08_iff (g : List Int) (r s : Int) : cl08 g r = cl08 g s ↔ accI g r = accI g s := by
  unfold cl08
  cases accI g r <;> cases accI g s <;> simp
/-- inside -/
def insO (l : List Int) (x : Int) : Option V := if x ∈ l then some (.bl true) else none
theorem insO_snoc (o : List Int) (t x : Int) : (if x = t then some (V.bl true) else insO o x) = insO (o ++ [t]) x := by
  unfold insO
  by_cases h : x = t
  · simp [h]
  · by_cases h2 : x ∈ o <;> simp [h, h2]
theorem insO_some (l : List Int) (x : Int) : (insO l x).isSome = decide (x ∈ l) := by
  unfold insO
  by_cases h : x ∈ l <;> simp [h]
theorem dd_cast (l : List Nat) : (dd (l.map fun (n : Nat) => (n : Int))).length = (dd l).length := by
  rw [dd_map_inj (fun (n : Nat) => (n : Int)) l fun x _ y _ h => Int.ofNat.inj h, List.length_map]
theorem asc_len {g : List Int} {n : Nat} (h : g.Pairwise (· < ·)) (hi : ∀ x ∈ g, 0 ≤ x ∧ x < (n : Int)) : g.length ≤ n := by
  have h1 := nodup_le (l := g) (m := iota n) (List.Pairwise.imp (fun h e => by rw [e] at h; exact Int.lt_irrefl _ h) h) fun x hx => mem_iota.mpr (hi x hx)
  rwa [iota_len] at h1
abbrev sClasses8 : Stmt := top 48
def spClasses8 : Sp := fun vs H Q _ => ∃ (S U : List Addr) (v u : V) (dm dg : D) (k mx : Nat) (mv : List (List Int)) (g : List Int), vs = [v, u, .int (mx : Int)] ∧ Rp S H v dm ∧ MvOf dm mv ∧ Rp U H u dg ∧ GdOf dg g ∧ MachW k mv g ∧ k ≤ 3 ∧ mx ≤ 3600 ∧
  ∀ (r : Nat) (H' : Hp), r ≤ mv.length → ((∃ j, gcnt (rowI mv) (iota mv.length) (cl08 g) (j + 1) ≤ gcnt (rowI mv) (iota mv.length) (cl08 g) j ∧ r = gcnt (rowI mv) (iota mv.length) (cl08 g) (j + 1)) ∨ mx < r) → Same H H' → Q (.int (r : Int)) H'
section
open PyProof.Rows
variable {P : Program} {w : World} {K : PySem.W.Frag} {mg : Str → Option Value} {base : Heap}
theorem scClasses8 : FnScope ["moves", "good", "most", "inside", "room", "classes", "many", "step", "numbers", "later", "p", "word", "target"] ["moves", "good", "most"] (C8.fnScope sClasses8) := C8.fnScope_by (by decide +kernel)
theorem ok_classes8 {f : Addr} {fd : FuncData} (F : C8.Def K mg "_law_classes" sClasses8 f fd) (b : Binds K fd ["moves", "good", "most"] []) (T : Txt mg) (n_set : mg "set" = none) : C8.Cal P w K mg base 1 "_law_classes" spClasses8 [] := by
  refine C8.cal0 F b .nil scClasses8 (fun vs H Q E h => ?_) (fun cdv A outer s H vs Q E hr h => ?_)
  · obtain ⟨S, U, v, u, dm, dg, k, mx, mv, g, rfl, _⟩ := h
    rfl
  · obtain ⟨S, U, v, u, dm, dg, k, mx, mv, g, rfl, rm, md, rg, gd, M, hk, hmx, kk⟩ := h
    have sc := scClasses8
    have hu : (A.deeper (envOfC "_law_classes" (C8.fnScope sClasses8) s.heap.objs.size f cdv)).units + 1 < cLine := by have := hr.un; omega
    have hu2 : (A.deeper (envOfC "_law_classes" (C8.fnScope sClasses8) s.heap.objs.size f cdv)).units + 16 < cLine := by have := hr.un; omega
    refine ⟨_, -- _law_classes: 0 moves 1 good 2 most 3 inside* 4 room 5 classes* 6 many 7 step 8 numbers 9 later 10 p 11 word 12 target

      (pss_cons (ps_set (i := 3) sc.nd rfl (Or.inr rfl) pe_dnewK)
      (pss_cons (ps_for PassesOwn.never rfl (pi_seqH (pv 1)) (pg_name (i := 4) sc.nd rfl (Or.inl rfl)) 
        (pss_one (ps_dput hu (pv 3) (pv 4) pe_bl rfl)))
      (pss_cons (ps_set (i := 5) sc.nd rfl (Or.inr rfl) (pe_lc (own := [("p", 10)]) (g := gName 10) rfl sc.nd (pi_range1 (by rfl) T.range (pa_cons (pe_callB (call_lenQ (K := K) rfl) (by rfl) T.len PySem.boot_len (pa_cons (pv 0) pa_nil)) pa_nil)) (blkOk_by (own := [("p", 10)]) (by kernel_rfl)) (fun _ _ _ _ _ => (pg_name (i := 10) sc.nd rfl (Or.inl rfl))) (fun _ _ _ _ _ => pts_nil) (fun _ _ _ _ _ => (pe_ifExp (pt_cmp (pc_din hu (pv 10) (pv 3))) pe_int pe_int))))
      (pss_cons (ps_set (i := 6) sc.nd rfl (Or.inl rfl) (pe_lenSetD (by rfl) T.len (by rfl) n_set (pv 5)))
      (pss_cons (ps_for PassesOwn.never rfl (pi_range1 (by rfl) T.range (pa_cons (pe_op op_add (pv 2) pe_int) pa_nil)) (pg_name (i := 7) sc.nd rfl (Or.inl rfl)) 
        (pss_cons (ps_set (i := 8) sc.nd rfl (Or.inl rfl) pe_ndnew)
        (pss_cons (ps_set (i := 9) sc.nd rfl (Or.inl rfl) (pe_lst pa_nil))
        (pss_cons (ps_for PassesOwn.never rfl (pi_range1 (by rfl) T.range (pa_cons (pe_callB (call_lenQ (K := K) rfl) (by rfl) T.len PySem.boot_len (pa_cons (pv 0) pa_nil)) pa_nil)) (pg_name (i := 10) sc.nd rfl (Or.inl rfl)) 
          (pss_cons (ps_set (i := 11) sc.nd rfl (Or.inl rfl) (pe_tup (pa_cons (pe_ix ix_list (pv 5) (pv 10) (fun _ _ => rfl)) (pa_cons (pe_callTy (T := "tuple") (call_tupQ (K := K) rfl) (by rfl) T.tuple (by decide +kernel) (pa_cons (pe_lc (own := [("target", 12)]) (g := gName 12) rfl sc.nd (pi_seqW (pe_ix (ixQ (K := K) rfl) (pv 0) (pv 10) (fun _ _ => rfl))) (blkOk_by (own := [("target", 12)]) (by kernel_rfl)) (fun _ _ _ _ _ => (pg_name (i := 12) sc.nd rfl (Or.inl rfl))) (fun _ _ _ _ _ => pts_nil) (fun _ _ _ _ _ => (pe_ix (ixLK (K := K) rfl) (pv 5) (pv 12) (fun _ _ => rfl)))) pa_nil)) pa_nil))))
          (C8.pss_cut (ps_if (pt_cmp (pc_ndnotin hu2 (pv 11) (pv 8))) 
            (pss_one (ps_ndput hu2 (pv 8) (pv 11) (pe_callB call_lenN (by rfl) T.len PySem.boot_len (pa_cons (pv 8) pa_nil)) rfl)) pss_nil)
          (pss_one (ps_expr (pe_append (K := K) rfl (pv 9) (pa_cons (pe_ndget hu2 (pv 8) (pv 11) (fun _ _ => rfl)) pa_nil)))))))
        (pss_cons (ps_set (i := 5) sc.nd rfl (Or.inr rfl) (pe_callTy (T := "list") (call_lstQ (K := K) rfl) (by rfl) T.list (by decide +kernel) (pa_cons (pv 9) pa_nil)))
        (pss_cons (ps_if (PW.pt (pw_or (pt_cmpR op_eq (pe_callB call_lenN (by rfl) T.len PySem.boot_len (pa_cons (pv 8) pa_nil)) (pv 6) (nomark _)) (pw_or1 (pt_cmpR op_gt (pe_callB call_lenN (by rfl) T.len PySem.boot_len (pa_cons (pv 8) pa_nil)) (pv 2) (nomark _))))) 
          (pss_one (ps_ret (pe_callB call_lenN (by rfl) T.len PySem.boot_len (pa_cons (pv 8) pa_nil)))) pss_nil)
        (pss_one (ps_set (i := 6) sc.nd rfl (Or.inl rfl) (pe_callB call_lenN (by rfl) T.len PySem.boot_len (pa_cons (pv 8) pa_nil))))))))))
      (pss_one (ps_ret (pv 6)))))))), ?_⟩
    have ml := M.most
    have R0 : (iota mv.length).Nodup := iota_nodup _
    have gl : g.length ≤ mv.length := asc_len M.asc M.inn
    obtain ⟨a, xs, e0, na, qa, wl, ea, hat⟩ := mvq_at (K := K) rm md
    subst e0
    obtain ⟨ag, e0, nag, qag, eg⟩ := gd_at2 (K := K) rg gd
    subst e0
    let cls : Nat → Int → Nat := gcls (rowI mv) (iota mv.length) (cl08 g)
    let cnt : Nat → Nat := gcnt (rowI mv) (iota mv.length) (cl08 g)
    refine fun c0 hc0 => ?_
    have Kc0 : Keep [c0] H (upd H c0 (.dK [])) := Keep.upd (by simp)
    have q0 : DkF (upd H c0 (.dK [])) c0 (insO (g.take 0)) 0 := ⟨[], upd_same, fun x => (if_neg (by simp)).symm, Nat.le_refl _⟩
    have nc0 : ∀ {b : Addr} {o : HO}, H b = some o → b ≠ c0 := fun {b o} e z => by rw [z, hc0] at e; cases e
    generalize upd H c0 (.dK []) = H0 at Kc0 q0 ⊢
    have nag0 : ag ≠ c0 := eg.elim nc0 nc0
    have eg0 : H0 ag = some (.lst (g.map V.int)) ∨ H0 ag = some (.tup (g.map V.int)) := eg.imp (fun e => Kc0 ag _ (by simpa using nag0) e) (fun e => Kc0 ag _ (by simpa using nag0) e)
    refine ⟨_, rfl, ag, _, rfl, eg0, fun J G wJ hG => ?_⟩
    rw [List.length_map] at wJ
    refine for_it wJ (fun i σ H' => Iv (Keep [c0] H0 H' ∧ DkF H' c0 (insO (g.take i)) i ∧ ∃ b4, σ = [some (.ref a), some (.ref ag), some (.int (mx : Int)), some (.ref c0), b4, none, none, none, none, none, none, none, none])) (.of ⟨Keep.refl _ _, q0, _, rfl⟩) (fun _ _ _ _ hp => ?_) (fun i y σ H2 H3 hi hp hy => ?_) (fun σ H2 hp => ?_)
    · obtain ⟨k2, _⟩ := hp.get
      have : ∀ o, H0 ag = some o → _ := fun o e => (k2 ag o (by simpa using nag0) e).trans e.symm
      exact hG _ (eg0.elim (this _) (this _))
    · obtain ⟨k2, D2, b4, rfl⟩ := hp.get
      obtain ⟨rfl, hy⟩ := hy
      obtain ⟨t, ht, rfl⟩ : ∃ t, g[i]? = some t ∧ y = .int t := by
        rw [List.getElem?_map] at hy
        cases e : g[i]? with
        | none => rw [e] at hy; cases hy
        | some t => rw [e] at hy; exact ⟨t, rfl, (Option.some.inj hy).symm⟩
      obtain ⟨H5, hput, D5, e5⟩ := D2.put (by omega) t (.bl true)
      refine ⟨_, rfl, _, rfl, c0, H5, rfl, hput, .of ⟨fun b o hb e => ?_, D5.fn (fun x => by rw [take_snoc ht]; exact insO_snoc _ t x) (Nat.le_refl _), _, rfl⟩⟩
      rw [e5 b (fun z => hb (by simp [z]))]
      exact k2 b o hb e
    · obtain ⟨k2, D2, b4, rfl⟩ := hp.get
      rw [List.take_length] at D2
      have s2 : Same H H2 := keep_new (Kc0.trans k2) fun a ha => by rw [List.mem_singleton.mp ha]; exact hc0
      clear hG wJ k2 eg0 q0 Kc0
      refine ⟨_, rfl, a, xs, rfl, sqo (ea.imp (s2 _ _) (s2 _ _)), ((xs.length : Nat) : Int), rfl, by omega, by omega, fun L hL => lc_F (j := 10) (Xp := fun i x => x = .int (0 + (i : Int))) (fun i => D.int ((cls 0 (i : Int) : Nat) : Int)) (walk_range (lo := 0)) (fun i H x H' _ y => ⟨y.1, y.2⟩) hL (show (((xs.length : Nat) : Int)).toNat ≤ 100000 by omega) (fun _ _ => trivial) (fun _ => rfl) (fun i x5 H5 hi hx5 s5 Kt ht => ?_) (fun ys H5 s5 e5 r5 => ?_)⟩
      · subst hx5
        have D5 : DkF H5 c0 (insO g) g.length := by
          obtain ⟨kvs2, e2, q2⟩ := D2
          exact ⟨kvs2, s5 _ _ e2, q2⟩
        refine ⟨_, rfl, _, rfl, c0, _, rfl, D5.get _, _, rfl, ?_⟩
        rw [insO_some, show (0 + (i : Int)) = (i : Int) by omega]
        have hcl : cls 0 (i : Int) = if (i : Int) ∈ g then 1 else 0 := by
          show (if decide ((i : Int) ∈ g) = true then 1 else 0) = _
          by_cases h : (i : Int) ∈ g <;> simp [h]
        by_cases h : (i : Int) ∈ g
        · rw [if_pos h] at hcl
          rw [decide_eq_true h]
          exact iteT (ht _ _ (Same.refl _) (by rw [hcl]; exact .int 1))
        · rw [if_neg h] at hcl
          rw [decide_eq_false h]
          exact iteF (ht _ _ (Same.refl _) (by rw [hcl]; exact .int 0))
      · have ey : (List.range (((xs.length : Nat) : Int)).toNat).map (fun (i : Nat) => D.int ((cls 0 (i : Int) : Nat) : Int)) = (((iota mv.length).map (cls 0)).map fun (n : Nat) => (n : Int)).map D.int := by
          rw [show (((xs.length : Nat) : Int)).toNat = mv.length by omega]
          unfold iota
          rw [List.map_map, List.map_map, List.map_map]
          rfl
        rw [ey] at r5
        rw [r5.ints_eq] at e5
        clear r5 ey
        have s5 := s2.trans s5
        have cb : ∀ j, (((iota mv.length).map (cls j)).map fun (n : Nat) => (n : Int)).length = mv.length := fun j => by rw [List.length_map, List.length_map, iota_len]
        have cpos : 1 ≤ cnt 0 := List.length_pos_of_mem (mem_dd.mpr (List.mem_map_of_mem (f := cls 0) M.zero))
        refine ⟨_, rfl, L, _, rfl, SqL.of e5, by rw [cb]; omega, ?_⟩
        rw [dd_cast]
        show gName 6 (V.int (cnt 0 : Nat)) _ _ _
        refine ⟨_, rfl, _, _, rfl, rfl, _, rfl, by omega, by omega, ?_⟩
        refine for_it (walk_range (lo := 0)) (fun t σ H' => Iv (t + 1 ≤ cnt t ∧ Same H H' ∧ ∃ (c : Addr) (b4 x7 x8 x9 x10 x11 : Option V), H' c = some (.lst ((((iota mv.length).map (cls t)).map fun (n : Nat) => (n : Int)).map V.int)) ∧ σ = [some (.ref a), some (.ref ag), some (.int (mx : Int)), some (.ref c0), b4, some (.ref c), some (.int (cnt t : Nat)), x7, x8, x9, x10, x11, none])) (.of ⟨cpos, s5, L, _, _, _, _, _, _, e5, rfl⟩) (fun _ _ _ _ _ => trivial) (fun t y σ H6 H7 ht hp hy => ?_) (fun σ H6 hp => ?_)
        · obtain ⟨ct, s6, c, b4, x7, x8, x9, x10, x11, ec, rfl⟩ := hp.get
          obtain ⟨rfl, rfl⟩ := hy
          refine fun n hn => ⟨by show 0 ≤ sizeLine; exact szl rfl, fun l hl => ?_⟩
          have nl : n ≠ l := fun e => by rw [← e, upd_same] at hl; cases hl
          have hl0 : H7 l = none := by rw [upd_ne (Ne.symm nl)] at hl; exact hl
          have s3 : Same H7 (upd (upd H7 n (ndO P w n [])) l (.lst [])) := (Same.new hn).trans (Same.new hl)
          have en : upd (upd H7 n (ndO P w n [])) l (.lst []) n = some (ndO P w n []) := by rw [upd_ne nl, upd_same]
          have el : upd (upd H7 n (ndO P w n [])) l (.lst []) l = some (.lst []) := upd_same
          show tSeq _ _ _ _ (upd (upd H7 n (ndO P w n [])) l (.lst []))
          generalize upd (upd H7 n (ndO P w n [])) l (.lst []) = H3 at s3 en el ⊢
          refine ⟨_, rfl, a, xs, rfl, sqo (ea.imp (fun e => s3 _ _ (s6 _ _ e)) (fun e => s3 _ _ (s6 _ _ e))), ((xs.length : Nat) : Int), rfl, by omega, by omega, ?_⟩
          let κ : Int → NestedKey := fun x => encC (keyC (rowI mv) (cls t) x)
          have hκd : ∀ x, (κ x).depth ≤ 8 := fun x => encC_depth _
          have hnk : ∀ x, nk κ (iota mv.length) x = cls (t + 1) x := fun x => nk_map encC encC_inj (keyC (rowI mv) (cls t)) (iota mv.length) x
          have hcnt : (dd ((iota mv.length).map κ)).length = cnt (t + 1) := by
            have e : (iota mv.length).map κ = ((iota mv.length).map (keyC (rowI mv) (cls t))).map encC := by rw [List.map_map]; rfl
            rw [e, dd_map_inj encC _ (fun x _ y _ h => encC_inj x y h), List.length_map]
            exact (gcnt_succ t).symm
          let Dk : Nat → List NestedKey := fun i => dd (((iota mv.length).take i).map κ)
          refine for_it (walk_range (lo := 0)) (fun i σ H' => Iv (Keep [n, l] H3 H' ∧ ∃ kvs, H' n = some (ndO P w n kvs) ∧ NKeys H' kvs ∧ NDk kvs (Dk i) ∧ H' l = some (.lst (((((iota mv.length).take i).map (cls (t + 1))).map fun (n : Nat) => (n : Int)).map V.int)) ∧ ∃ x10 x11, σ = [some (.ref a), some (.ref ag), some (.int (mx : Int)), some (.ref c0), b4, some (.ref c), some (.int (cnt t : Nat)), some (.int (t : Int)), some (.ref n), some (.ref l), x10, x11, none])) (.of ⟨Keep.refl _ _, [], en, (fun e he => by cases he), NDk.nil, by rw [List.take_zero]; exact el, _, _, by rw [← Int.zero_add (t : Int)]; rfl⟩) (fun _ _ _ _ _ => trivial) (fun i y σ H4 H5 hi hp hy => ?_) (fun σ H4 hp => ?_)
          · obtain ⟨k4, kvs, en4, nk4, nd4, L4, x10, x11, rfl⟩ := hp.get
            obtain ⟨rfl, rfl⟩ := hy
            have hi' : i < mv.length := by omega
            have hr : (iota mv.length)[i]? = some (i : Int) := iota_at hi'
            have hrI : (i : Int) ∈ iota mv.length := List.mem_of_getElem? hr
            have nin : ∀ {b : Addr} {o : HO}, H7 b = some o → b ≠ n ∧ b ≠ l := fun {b o} e => ⟨fun z => (by rw [z, hn] at e; cases e), fun z => (by rw [z, hl0] at e; cases e)⟩
            have up : ∀ {b : Addr} {o : HO}, H7 b = some o → H5 b = some o := fun {b o} e => k4 b o (by simp [nin e]) (s3 _ _ e)
            have ec5 := up ec
            obtain ⟨row, hrow, erow, hlr, hin2⟩ := M.rowI_at hrI
            obtain ⟨b, eb1, nb, qb, eb⟩ := hat _ _ (mem_iota.mp hrI).1 hrow
            have catx : ∀ {x : Int}, x ∈ iota mv.length → atI ((((iota mv.length).map (cls t)).map fun (n : Nat) => (n : Int)).map V.int) x = some (.int (cls t x : Nat)) := fun {x} hx => by
              have hx' := mem_iota.mp hx
              have h9 : atI ((((iota mv.length).map (cls t)).map fun (n : Nat) => (n : Int)).map V.int) ((x.toNat : Nat) : Int) = some (.int (cls t ((x.toNat : Nat) : Int) : Nat)) := by
                refine atI_nat ?_
                rw [List.getElem?_map, List.getElem?_map, List.getElem?_map, iota_at (by omega)]
                rfl
              rwa [show ((x.toNat : Nat) : Int) = x by omega] at h9
            show gName 10 (V.int (0 + (i : Int))) _ _ _
            rw [Int.zero_add]
            refine ⟨_, rfl, _, rfl, c, _, _, _, rfl, rfl, SqL.of ec5, catx hrI, _, rfl, _, rfl, a, xs, _, _, rfl, rfl, sqo (ea.imp (fun e => up (s6 _ _ e)) (fun e => up (s6 _ _ e))), eb1, b, _, rfl, sqo (eb.imp (fun e => up (s6 _ _ e)) (fun e => up (s6 _ _ e))), fun J2 G2 wJ2 hG2 L2 hL2 => ?_⟩
            refine lc_F (j := 12) (Xp := fun l x => ∃ t, row[l]? = some t ∧ x = .int t) (fun l => D.int ((cls t (row.getD l 0) : Nat) : Int)) wJ2 (fun l H x H' _ y => ⟨y.1, ?_⟩) hL2 (by rw [List.length_map, hlr]; omega) (fun H6 s6 => hG2 H6 s6) (fun _ => rfl) (fun l2 x H6 hl hx s6 Kt ht => ?_) (fun ys H6 s6 e6 r6 => ?_)
            · have y2 := y.2
              rw [List.getElem?_map] at y2
              cases e : row[l]? with
              | none => rw [e] at y2; cases y2
              | some t => rw [e] at y2; exact ⟨t, rfl, (Option.some.inj y2).symm⟩
            · obtain ⟨t1, ht1, rfl⟩ := hx
              refine ⟨_, rfl, _, rfl, c, _, _, _, rfl, rfl, SqL.of (s6 _ _ ec5), catx (hin2 t1 (List.mem_of_getElem? ht1)), ht _ _ (Same.refl _) ?_⟩
              rw [List.getD_eq_getElem?_getD, ht1]
              exact .int _
            · have en2 : (List.range (row.map V.int).length).map (fun l => D.int ((cls t (row.getD l 0) : Nat) : Int)) = (((rowI mv (i : Int)).map (cls t)).map fun (n : Nat) => (n : Int)).map D.int := by
                rw [erow]
                refine List.ext_getElem? fun l => ?_
                simp only [List.getElem?_map, List.length_map]
                by_cases hl : l < row.length
                · rw [List.getElem?_range hl, List.getElem?_eq_getElem hl]
                  show some (D.int ((cls t (row.getD l 0) : Nat) : Int)) = some (D.int ((cls t row[l] : Nat) : Int))
                  rw [List.getD_eq_getElem?_getD, List.getElem?_eq_getElem hl]
                  rfl
                · rw [List.getElem?_eq_none (by simpa using hl), List.getElem?_eq_none (by simpa using hl)]
                  rfl
              rw [en2] at r6
              have ey := r6.ints_eq
              refine ⟨L2, ys, rfl, .inl ⟨SqL.of e6, fun p hp => ⟨by show 2 ≤ sizeLine; exact szl rfl, fun b2 hb2 => ?_⟩⟩⟩
              have s7 : Same H5 (upd (upd H6 p (.tup ys)) b2 (.tup [.int (cls t (i : Int) : Nat), .ref p])) := s6.trans ((Same.new hp).trans (Same.new hb2))
              have nv : NV (upd (upd H6 p (.tup ys)) b2 (.tup [.int (cls t (i : Int) : Nat), .ref p])) (.ref b2) (κ (i : Int)) := by
                refine .tup upd_same (.cons (.int _) (.cons (.tup ((Same.new hb2) _ _ upd_same) ?_) .nil))
                rw [ey]
                have e7 : ((keyC (rowI mv) (cls t) (i : Int)).2.map fun (n : Nat) => NestedKey.num (n : Int)) = (((rowI mv (i : Int)).map (cls t)).map fun (n : Nat) => (n : Int)).map NestedKey.num := by
                  rw [List.map_map]
                  rfl
                rw [e7]
                exact NVs.ints _
              generalize upd (upd H6 p (.tup ys)) b2 (.tup [.int (cls t (i : Int) : Nat), .ref p]) = H8 at s7 nv ⊢
              clear ey r6 e6 en2 s6 hp hb2
              have en8 := s7 _ _ en4
              have nk8 := nk4.keep fun a ys e => s7 _ _ e
              have L8 := s7 _ _ L4
              have k8 := k4.trans (Keep.same s7)
              have Dn : Dk (i + 1) = if κ (i : Int) ∈ ((iota mv.length).take i).map κ then Dk i else Dk i ++ [κ (i : Int)] := by
                show dd (((iota mv.length).take (i + 1)).map κ) = _
                rw [take_snoc hr, List.map_append, List.map_cons, List.map_nil, dd_snoc]
              have hin : κ (i : Int) ∈ Dk i ↔ κ (i : Int) ∈ ((iota mv.length).take i).map κ := mem_dd
              have lk := nd4.look (nodup_dd _) (κ (i : Int))
              obtain ⟨q2, eD⟩ : ∃ q2, dd ((iota mv.length).map κ) = Dk (i + 1) ++ q2 := by
                have e : (iota mv.length).map κ = ((iota mv.length).take (i + 1)).map κ ++ ((iota mv.length).drop (i + 1)).map κ := by rw [← List.map_append, List.take_append_drop]
                rw [e, dd_app]
                exact grow_pre _ _
              have hnum : cls (t + 1) (i : Int) = (Dk (i + 1)).idxOf (κ (i : Int)) := by
                rw [← hnk]
                unfold nk
                rw [eD, idx_app]
                exact mem_dd.mpr (List.mem_map_of_mem (by rw [take_snoc hr]; simp))
              have hkl : kvs.length ≤ 3600 := by
                rw [nd4.1]
                have h1 := nodup_le (nodup_dd (((iota mv.length).take i).map κ)) (m := ((iota mv.length).take i).map κ) fun x hx => mem_dd.mp hx
                rw [List.length_map, List.length_take] at h1
                have h2 : (Dk i).length ≤ min i (iota mv.length).length := h1
                omega
              refine ⟨fun σ' H' => ∃ kvs', Keep [n, l] H3 H' ∧ H' n = some (ndO P w n kvs') ∧ NKeys H' kvs' ∧ NDk kvs' (Dk (i + 1)) ∧ NV H' (.ref b2) (κ (i : Int)) ∧ H' l = some (.lst (((((iota mv.length).take i).map (cls (t + 1))).map fun (n : Nat) => (n : Int)).map V.int)) ∧
                σ' = [some (.ref a), some (.ref ag), some (.int (mx : Int)), some (.ref c0), b4, some (.ref c), some (.int (cnt t : Nat)), some (.int (t : Int)), some (.ref n), some (.ref l), some (.int (i : Int)), some (.ref b2), none], ?_, ?_⟩
              · refine ⟨_, rfl, _, rfl, n, kvs, b2, κ (i : Int), rfl, rfl, en8, nk8, nv, hκd _, _, rfl, ?_⟩
                by_cases hm : κ (i : Int) ∈ Dk i
                · rw [lk, if_pos hm]
                  refine iteF ⟨kvs, k8, en8, nk8, ?_, nv, L8, rfl⟩
                  rw [Dn, if_pos (hin.mp hm)]
                  exact nd4
                · rw [lk, if_neg hm]
                  refine iteT ⟨_, rfl, n, kvs, rfl, en8, nk8, _, rfl, _, rfl, n, kvs, b2, κ (i : Int), rfl, rfl, en8, nk8, nv, hκd _, ?_, Nat.lt_of_le_of_lt hkl (by decide), ?_⟩
                  · rw [lk, if_neg hm]
                  · have u7 : ∀ a ys, H8 a = some (.tup ys) → upd H8 n (ndO P w n (kvs ++ [(κ (i : Int), b2, V.int ((kvs.length : Nat) : Int))])) a = some (.tup ys) := fun a ys e => by
                      rw [upd_ne (fun z => by rw [z, en8] at e; cases e)]
                      exact e
                    refine ⟨_, k8.trans (Keep.upd (by simp)), upd_same, fun e he => ?_, ?_, nv.keep u7, (upd_ne (Ne.symm nl)).trans L8, rfl⟩
                    · rcases List.mem_append.mp he with he | he
                      · exact (nk8.keep u7) e he
                      · rw [List.mem_singleton.mp he]
                        exact ⟨nv.keep u7, hκd _⟩
                    · rw [Dn, if_neg (fun z => hm (hin.mpr z))]
                      exact nd4.snoc (κ (i : Int)) b2
              · rintro σ' H9 ⟨kvs', k9, en9, nk9, nd9, nv9, L9, rfl⟩
                have lk9 := nd9.look (nodup_dd _) (κ (i : Int))
                rw [if_pos (mem_dd.mpr (List.mem_map_of_mem (by rw [take_snoc hr]; simp)))] at lk9
                refine ⟨_, rfl, .inl ⟨rfl, _, SqL.of L9⟩, _, rfl, _, rfl, n, kvs', b2, κ (i : Int), _, rfl, rfl, en9, nk9, nv9, hκd _, lk9, l, _, _, rfl, rfl, L9, Nat.lt_of_le_of_lt (m := 3600) (by rw [List.length_map, List.length_map, List.length_map, List.length_take, iota_len]; omega) (by decide), .of ⟨k9.trans (Keep.upd (by simp)), kvs', (upd_ne nl).trans en9, nk9.keep fun a ys e => ?_, nd9, ?_, _, _, rfl⟩⟩
                · rw [upd_ne (fun z => by rw [z, L9] at e; cases e)]
                  exact e
                · rw [upd_same, take_snoc hr, List.map_append, List.map_append, List.map_append, ← hnum]
                  rfl
          · obtain ⟨k4, kvs, en4, nk4, nd4, L4, x10, x11, rfl⟩ := hp.get
            have eN : (((xs.length : Nat) : Int)).toNat = mv.length := by omega
            rw [eN] at nd4 L4
            rw [List.take_of_length_le (by rw [iota_len]; exact Nat.le_refl _)] at L4
            have eD : Dk mv.length = dd ((iota mv.length).map κ) := by
              show dd (((iota mv.length).take mv.length).map κ) = _
              rw [List.take_of_length_le (by rw [iota_len]; exact Nat.le_refl _)]
            rw [eD] at nd4
            have hlen : kvs.length = cnt (t + 1) := by rw [nd4.1, hcnt]
            have s4 : Same H7 H4 := fun a o e => k4 a o (fun z => by
              simp only [List.mem_cons, List.not_mem_nil, or_false] at z
              rcases z with rfl | rfl
              · rw [e] at hn; cases hn
              · rw [e] at hl0; cases hl0) (s3 _ _ e)
            have c4 : ∀ c2, H4 c2 = none → (upd H4 c2 (.lst ((((iota mv.length).map (cls (t + 1))).map fun (n : Nat) => (n : Int)).map V.int))) n = some (ndO P w n kvs) := fun c2 hc2 => (Same.new hc2) _ _ en4
            refine ⟨_, rfl, l, _, rfl, .inl (SqL.of L4), fun c2 hc2 => ?_⟩
            have s9 : Same H4 (upd H4 c2 (.lst ((((iota mv.length).map (cls (t + 1))).map fun (n : Nat) => (n : Int)).map V.int))) := Same.new hc2
            have e9 : (upd H4 c2 (.lst ((((iota mv.length).map (cls (t + 1))).map fun (n : Nat) => (n : Int)).map V.int))) c2 = some (.lst ((((iota mv.length).map (cls (t + 1))).map fun (n : Nat) => (n : Int)).map V.int)) := upd_same
            show tSeq _ _ _ _ (upd H4 c2 (.lst ((((iota mv.length).map (cls (t + 1))).map fun (n : Nat) => (n : Int)).map V.int)))
            generalize upd H4 c2 (.lst ((((iota mv.length).map (cls (t + 1))).map fun (n : Nat) => (n : Int)).map V.int)) = H8 at s9 e9 ⊢
            have en8 := s9 _ _ en4
            have nk8 := nk4.keep fun a ys e => s9 _ _ e
            have sH : Same H H8 := s6.trans (s4.trans s9)
            have hle : cnt (t + 1) ≤ mv.length := by
              have := gcnt_le (row := rowI mv) (R := iota mv.length) (cl0 := cl08 g) (t + 1)
              rwa [iota_len] at this
            have hmono : cnt t ≤ cnt (t + 1) := gcnt_mono t
            refine ⟨_, rfl, n, kvs, rfl, en8, nk8, _, rfl, rfl, ?_⟩
            rw [hlen]
            by_cases he : cnt (t + 1) = cnt t
            · rw [decide_eq_true (show V.int ((cnt (t + 1) : Nat) : Int) = V.int ((cnt t : Nat) : Int) by rw [he])]
              refine ⟨_, rfl, iteT (iteT ⟨_, rfl, n, kvs, rfl, en8, nk8, ?_⟩)⟩
              rw [hlen]
              exact kk _ _ hle (.inl ⟨t, by show cnt (t + 1) ≤ cnt t; omega, rfl⟩) sH
            · rw [decide_eq_false (show ¬ V.int ((cnt (t + 1) : Nat) : Int) = V.int ((cnt t : Nat) : Int) from fun z => he (by have := V.int.inj z; omega))]
              refine ⟨_, rfl, iteF ⟨_, rfl, n, kvs, rfl, en8, nk8, _, rfl, _, _, rfl, rfl, _, rfl, ?_⟩⟩
              rw [hlen]
              by_cases hb : mx < cnt (t + 1)
              · rw [decide_eq_true (show (mx : Int) < ((cnt (t + 1) : Nat) : Int) by omega)]
                refine iteT ⟨_, rfl, n, kvs, rfl, en8, nk8, ?_⟩
                rw [hlen]
                exact kk _ _ hle (.inr hb) sH
              · rw [decide_eq_false (show ¬ (mx : Int) < ((cnt (t + 1) : Nat) : Int) by omega)]
                refine iteF ⟨_, rfl, n, kvs, rfl, en8, nk8, ?_⟩
                rw [hlen]
                exact .of ⟨by omega, sH, c2, _, _, _, _, _, _, e9, rfl⟩
        · obtain ⟨ct, s6, c, b4, x7, x8, x9, x10, x11, ec, rfl⟩ := hp.get
          rw [show ((mx : Int) + 1).toNat = mx + 1 by omega] at ct ec
          have h8 : cnt (mx + 1) ≤ mv.length := by
            have := gcnt_le (row := rowI mv) (R := iota mv.length) (cl0 := cl08 g) (mx + 1)
            rwa [iota_len] at this
          have h9 : mx < cnt (mx + 1) := by omega
          exact ⟨_, rfl, kk (cnt (mx + 1)) _ h8 (.inr h9) s6⟩
end

/-! ### _law_tells -/
open MA
theorem same_upd {H H' : Hp} {o : Addr} {x : HO} (s : Same H H') (h : H o = none) : Same H (upd H' o x) := fun b y e => by
  rw [upd_ne (fun z => by rw [z, h] at e; cases e)]
  exact s b y e
/-- tuples that stand stay -/
def TupK (H H' : Hp) : Prop := ∀ a ys, H a = some (.tup ys) → H' a = some (.tup ys)
theorem TupK.refl (H : Hp) : TupK H H := fun _ _ e => e
theorem TupK.trans {H H' H'' : Hp} (a : TupK H H') (b : TupK H' H'') : TupK H H'' := fun x ys e => b x ys (a x ys e)
theorem TupK.same {H H' : Hp} (s : Same H H') : TupK H H' := fun _ _ e => s _ _ e
theorem TupK.upd {H : Hp} {o : Addr} {x : HO} (h : ∀ ys, H o ≠ some (.tup ys)) : TupK H (upd H o x) := fun a ys e => by
  rw [upd_ne (fun z => h ys (by rw [← z]; exact e))]
  exact e
/-- a list of pairs -/
def PrL (H : Hp) (G : Int → Int → Prop) (ws : List V) : Prop := ∀ w ∈ ws, ∃ b p q, w = .ref b ∧ H b = some (.tup [.int p, .int q]) ∧ G p q
theorem PrL.keep {H H' : Hp} {G : Int → Int → Prop} {ws : List V} (h : PrL H G ws) (t : TupK H H') : PrL H' G ws := fun w hw => by
  obtain ⟨b, p, q, e, eb, g⟩ := h w hw
  exact ⟨b, p, q, e, t _ _ eb, g⟩
theorem PrL.snoc {H : Hp} {G : Int → Int → Prop} {ws : List V} (h : PrL H G ws) {b : Addr} {p q : Int} (eb : H b = some (.tup [.int p, .int q])) (g : G p q) : PrL H G (ws ++ [.ref b]) := fun w hw => by
  rcases List.mem_append.mp hw with hw | hw
  · exact h w hw
  · exact ⟨b, p, q, List.mem_singleton.mp hw, eb, g⟩
theorem iteEf {b : Bool} {x y : Prop} (h : b = false) (hy : y) : if b = true then x else y := by rw [h]; exact hy
theorem iteEt {b : Bool} {x y : Prop} (h : b = true) (hx : x) : if b = true then x else y := by rw [h]; exact hx
def keyPQ (p q : Int) : NestedKey := .tup [.num p, .num q]
theorem sq_same {K : PySem.W.Frag} {H H' : Hp} {a : Addr} {xs : List V} (s : Same H H') (e : H a = some (.lst xs) ∨ H a = some (.tup xs)) : SqQ K H' a xs := e.elim (fun e => .inl (SqL.of (s _ _ e))) (fun e => .inr (.inl (.inl (s _ _ e))))
theorem row_at {row : List Int} {t : Nat} (h : t < row.length) (r : Int) : atI (row.map V.int) (t : Int) = some (.int (row.getD t r)) := by
  refine atI_nat ?_
  rw [List.getElem?_map, List.getElem?_eq_getElem h, List.getD_eq_getElem?_getD, List.getElem?_eq_getElem h]
  rfl
theorem keyPQ_depth (p q : Int) : (keyPQ p q).depth ≤ 8 := by
  show max 0 (max 0 0) + 1 ≤ 8
  decide
theorem NV.pq {H : Hp} {b : Addr} {p q : Int} (e : H b = some (.tup [.int p, .int q])) : NV H (.ref b) (keyPQ p q) := .tup e (.cons (.int p) (.cons (.int q) .nil))
theorem same_stepW {k : Nat} {m1 m2 : List (List Int)} {g1 g2 : List Int} (M1 : MachW k m1 g1) (M2 : MachW k m2 g2) {p q : Int} (hp : p ∈ iota m1.length) (hq : q ∈ iota m2.length) (h : SameSet m1 g1 m2 g2 p q) (j : Nat) : SameSet m1 g1 m2 g2 ((rowI m1 p).getD j p) ((rowI m2 q).getD j q) := fun w => h (j :: w)
abbrev sTells : Stmt := top 49
def spTells (ad : Ad) : Sp := fun vs H Q _ => ∃ (S U : List Addr) (al : Str) (v : V) (x : Addr) (mv lm : List (List Int)) (g lg : List Int), vs = [.str al, v, .ref x] ∧ IsAl al ∧ MAt S H v mv g ∧ MachW al.length mv g ∧ RdAt ad U H x al lm lg ∧ Canon al.length lm lg ∧ SameSet mv g lm lg 0 0 ∧ ∀ H', Same H H' → Q (.bl true) H'
section
open PyProof.Rows
variable {P : Program} {w : World} {K : PySem.W.Frag} {mg : Str → Option Value} {base : Heap} {ad : Ad}
theorem scTells : FnScope ["alphabet", "machine", "reader", "inside", "room", "met_v", "order", "at", "p", "q", "t", "pair", "size"] ["alphabet", "machine", "reader"] (C8.fnScope sTells) := C8.fnScope_by (by decide +kernel)
theorem ok_tells {f : Addr} {fd : FuncData} (R : RdC K ad.Reader) (F : C8.Def K mg "_law_tells" sTells f fd) (b : Binds K fd ["alphabet", "machine", "reader"] []) (T : Txt mg) (O : Own K mg ad) (c_law_is_reader : C8.Cal P w K mg base 2 "_law_is_reader" (spIsRd ad) []) (c_law_in_order : C8.Cal P w K mg base 1 "_law_in_order" spInOrder []) (c_law_classes : C8.Cal P w K mg base 1 "_law_classes" spClasses8 []) : C8.Cal P w K mg base 3 "_law_tells" (spTells ad) [] := by
  refine C8.cal0 F b .nil scTells (fun vs H Q E h => ?_) (fun cdv A outer s H vs Q E hr h => ?_)
  · obtain ⟨S, U, al, v, x, mv, lm, g, lg, rfl, _⟩ := h
    rfl
  · obtain ⟨S, U, al, v, x, mv, lm, g, lg, rfl, ial, mAt, M, hx, C, ss, kk⟩ := h
    have sc := scTells
    have hu : (A.deeper (envOfC "_law_tells" (C8.fnScope sTells) s.heap.objs.size f cdv)).units + 1 < cLine := by have := hr.un; omega
    have hu2 : (A.deeper (envOfC "_law_tells" (C8.fnScope sTells) s.heap.objs.size f cdv)).units + 16 < cLine := by have := hr.un; omega
    have hl := ial.len
    refine ⟨_, -- _law_tells: 0 alphabet 1 machine 2 reader 3 inside 4 room 5 met_v 6 order 7 at 8 p 9 q 10 t 11 pair 12 size

      (pss_cons (ps_if (PW.pt (pw_or (pt_not (pt_val (C8.pe_c c_law_is_reader hr (by decide) rfl (pa_cons (pv 2) (pa_cons (pv 0) pa_nil))))) (pw_or1 (pt_cmpR op_gt (pe_callB (call_lenQ (K := K) rfl) (by rfl) T.len PySem.boot_len (pa_cons (pe_fldK (K := K) rfl (pv 2)) pa_nil)) pe_int (nomark _))))) 
        (pss_one (ps_ret pe_bl)) pss_nil)
      (pss_cons (ps_set (i := 3) sc.nd rfl (Or.inl rfl) pe_dnewK)
      (pss_cons (ps_for PassesOwn.never rfl (pi_seqH (pe_ix (ixQ (K := K) rfl) (pv 1) pe_int (fun _ _ => rfl))) (pg_name (i := 4) sc.nd rfl (Or.inl rfl)) 
        (pss_one (ps_dput hu (pv 3) (pv 4) pe_bl rfl)))
      (pss_cons (ps_set (i := 5) sc.nd rfl (Or.inl rfl) (pe_nd1 hu2 (pe_tup (pa_cons pe_int (pa_cons pe_int pa_nil))) pe_bl))
      (pss_cons (ps_set (i := 6) sc.nd rfl (Or.inl rfl) (pe_lst (pa_cons (pe_tup (pa_cons pe_int (pa_cons pe_int pa_nil))) pa_nil)))
      (C8.pss_cut (ps_for PassesOwn.never rfl (pi_range1 (by rfl) T.range (pa_cons (pe_op op_mul (pe_callB (call_lenQ (K := K) rfl) (by rfl) T.len PySem.boot_len (pa_cons (pe_ix (ixQ (K := K) rfl) (pv 1) pe_int (fun _ _ => rfl)) pa_nil)) (pe_callB (call_lenQ (K := K) rfl) (by rfl) T.len PySem.boot_len (pa_cons (pe_fldK (K := K) rfl (pv 2)) pa_nil))) pa_nil)) (pg_name (i := 7) sc.nd rfl (Or.inl rfl)) 
        (pss_cons (ps_if (pt_cmpR op_eq (pv 7) (pe_callB (call_lenQ (K := K) rfl) (by rfl) T.len PySem.boot_len (pa_cons (pv 6) pa_nil)) (nomark _)) 
          (pss_one ps_break) pss_nil)
        (pss_cons (ps_asg (pe_ix ix_list (pv 6) (pv 7) (fun _ _ => rfl)) (pg_tup rfl (pgs_cons (pg_name (i := 8) sc.nd rfl (Or.inl rfl)) (pgs_cons (pg_name (i := 9) sc.nd rfl (Or.inl rfl)) pgs_nil))))
        (pss_cons (ps_if (pt_cmpR op_ne (pe_cmp (pc_din hu (pv 8) (pv 3)) rfl) (pe_cmpR (op_inQ (K := K) rfl) (pv 9) (pe_fldK (K := K) rfl (pv 2)) (by rfl)) (nomark _)) 
          (pss_one (ps_ret pe_bl)) pss_nil)
        (pss_one (ps_for PassesOwn.never rfl (pi_range1 (by rfl) T.range (pa_cons (pe_callB call_len_str (by rfl) T.len PySem.boot_len (pa_cons (pv 0) pa_nil)) pa_nil)) (pg_name (i := 10) sc.nd rfl (Or.inl rfl)) 
          (pss_cons (ps_set (i := 11) sc.nd rfl (Or.inl rfl) (pe_tup (pa_cons (pe_ix (ixQ (K := K) rfl) (pe_ix (ixQ (K := K) rfl) (pe_ix (ixQ (K := K) rfl) (pv 1) pe_int (fun _ _ => rfl)) (pv 8) (fun _ _ => rfl)) (pv 10) (fun _ _ => rfl)) (pa_cons (pe_ix (ixQ (K := K) rfl) (pe_ix (ixQ (K := K) rfl) (pe_fldK (K := K) rfl (pv 2)) (pv 9) (fun _ _ => rfl)) (pv 10) (fun _ _ => rfl)) pa_nil))))
          (pss_one (ps_if (pt_cmp (pc_ndnotin hu2 (pv 11) (pv 5))) 
            (pss_cons (ps_ndput hu2 (pv 5) (pv 11) pe_bl rfl)
            (pss_one (ps_expr (pe_append (K := K) rfl (pv 6) (pa_cons (pv 11) pa_nil))))) pss_nil)))))))))
      (pss_cons (ps_set (i := 12) sc.nd rfl (Or.inl rfl) (pe_callB (call_lenQ (K := K) rfl) (by rfl) T.len PySem.boot_len (pa_cons (pe_fldK (K := K) rfl (pv 2)) pa_nil)))
      (pss_one (ps_ret (pe_and (C8.pe_c c_law_in_order hr (by decide) rfl (pa_cons (pe_fldK (K := K) rfl (pv 2)) pa_nil)) (pe_one (pe_cmpR op_eq (C8.pe_c c_law_classes hr (by decide) rfl (pa_cons (pe_fldK (K := K) rfl (pv 2)) (pa_cons (pe_fldK (K := K) rfl (pv 2)) (pa_cons (pv 12) pa_nil)))) (pv 12) (nomark _))))))))))))), ?_⟩
    refine ⟨_, rfl, _, rfl, U, x, al, lm, lg, rfl, hx, by omega, fun H1 s1 => ⟨_, rfl, iteF ?_⟩⟩
    obtain ⟨dx, vm, vg, ex, rm, rg⟩ := hx.ex
    have CM := C.mach
    have ml := M.most
    have cml := CM.most
    have gl : g.length ≤ mv.length := asc_len M.asc M.inn
    obtain ⟨mt, mx, my, dm, dg, rfl, nt, et, rmx, rmy, md, gd⟩ := mAt.same s1
    have mAt1 : MAt S H1 (.ref mt) mv g := mAt.same s1
    obtain ⟨ag, rfl, nag, qg, eog⟩ := gd_at2 (K := K) rmy gd
    obtain ⟨am, xm, rfl, nam, qm, lxm, eom, hatm⟩ := mvq_at (K := K) rmx md
    obtain ⟨al2, xl, e0, hal, eal, rsl⟩ := (rm.same s1).tupItem
    subst e0
    have lxl := rsl.len
    rw [List.length_map] at lxl
    obtain ⟨alg, xlg, e0, halg, ealg, rslg⟩ := (rg.same s1).tupItem
    subst e0
    rw [rslg.ints_eq] at ealg
    have ex1 := s1 _ _ ex
    refine ⟨_, rfl, x, ad.Reader, dx, _, _, rfl, ex1, R.cl, R.n2, rfl, al2, xl, rfl, .inr (.inl (.inl eal)), _, _, rfl, rfl, _, rfl, ?_⟩
    rw [decide_eq_false (show ¬ (60 : Int) < ((xl.length : Nat) : Int) by omega)]
    refine iteF ?_
    refine fun c0 hc0 => ?_
    have Kc0 : Keep [c0] H1 (upd H1 c0 (.dK [])) := Keep.upd (by simp)
    have q0 : DkF (upd H1 c0 (.dK [])) c0 (insO (g.take 0)) 0 := ⟨[], upd_same, fun x => (if_neg (by simp)).symm, Nat.le_refl _⟩
    have nc0 : ∀ {b : Addr} {o : HO}, H1 b = some o → b ≠ c0 := fun {b o} e z => by rw [z, hc0] at e; cases e
    show tSeq _ _ _ _ (upd H1 c0 (.dK []))
    generalize upd H1 c0 (.dK []) = H0 at Kc0 q0 ⊢
    have et0 := Kc0 mt _ (by simpa using nc0 et) et
    have eog0 : H0 ag = some (.lst (g.map V.int)) ∨ H0 ag = some (.tup (g.map V.int)) := eog.imp (fun e => Kc0 ag _ (by simpa using nc0 e) e) (fun e => Kc0 ag _ (by simpa using nc0 e) e)
    have nag0 : ag ≠ c0 := eog.elim nc0 nc0
    refine ⟨_, rfl, mt, _, _, _, rfl, rfl, .inr (.inl (.inl et0)), rfl, ag, g.map V.int, rfl, eog0, fun J G wJ hG => ?_⟩
    rw [List.length_map] at wJ
    refine for_it wJ (fun i σ H' => Iv (Keep [c0] H0 H' ∧ DkF H' c0 (insO (g.take i)) i ∧ ∃ b4, σ = [some (.str al), some (.ref mt), some (.ref x), some (.ref c0), b4, none, none, none, none, none, none, none, none])) (.of ⟨Keep.refl _ _, q0, _, rfl⟩) (fun _ _ _ _ hp => ?_) (fun i y σ H2 H3 hi hp hy => ?_) (fun σ H2 hp => ?_)
    · obtain ⟨k2, _⟩ := hp.get
      have : ∀ o, H0 ag = some o → _ := fun o e => (k2 ag o (by simpa using nag0) e).trans e.symm
      exact hG _ (eog0.elim (this _) (this _))
    · obtain ⟨k2, D2, b4, rfl⟩ := hp.get
      obtain ⟨rfl, hy⟩ := hy
      obtain ⟨t, ht, rfl⟩ : ∃ t, g[i]? = some t ∧ y = .int t := by
        rw [List.getElem?_map] at hy
        cases e : g[i]? with
        | none => rw [e] at hy; cases hy
        | some t => rw [e] at hy; exact ⟨t, rfl, (Option.some.inj hy).symm⟩
      obtain ⟨H5, hput, D5, e5⟩ := D2.put (by omega) t (.bl true)
      refine ⟨_, rfl, _, rfl, c0, H5, rfl, hput, .of ⟨fun b o hb e => ?_, D5.fn (fun x => by rw [take_snoc ht]; exact insO_snoc _ t x) (Nat.le_refl _), _, rfl⟩⟩
      rw [e5 b (fun z => hb (by simp [z]))]
      exact k2 b o hb e
    · obtain ⟨k2, D2, b4, rfl⟩ := hp.get
      rw [List.take_length] at D2
      have s2 : Same H1 H2 := keep_new (Kc0.trans k2) fun a ha => by rw [List.mem_singleton.mp ha]; exact hc0
      clear hG wJ k2 et0 eog0 q0 Kc0
      refine fun d hd => ⟨by show 2 ≤ sizeLine; exact szl rfl, fun b1 hb1 => ?_⟩
      have db : d ≠ b1 := fun e => by rw [← e, upd_same] at hb1; cases hb1
      have hb10 : H2 b1 = none := by rw [upd_ne (Ne.symm db)] at hb1; exact hb1
      refine ⟨b1, keyPQ 0 0, .bl true, rfl, by rw [upd_ne db, upd_same], NV.pq upd_same, keyPQ_depth 0 0, ?_⟩
      have s3 : Same H2 (upd (upd (upd H2 d (ndO P w d [])) b1 (.tup [.int 0, .int 0])) d (ndO P w d [(keyPQ 0 0, b1, .bl true)])) := same_upd ((Same.new hd).trans (Same.new hb1)) hd
      have ed : upd (upd (upd H2 d (ndO P w d [])) b1 (.tup [.int 0, .int 0])) d (ndO P w d [(keyPQ 0 0, b1, .bl true)]) d = some (ndO P w d [(keyPQ 0 0, b1, .bl true)]) := upd_same
      have eb1 : upd (upd (upd H2 d (ndO P w d [])) b1 (.tup [.int 0, .int 0])) d (ndO P w d [(keyPQ 0 0, b1, .bl true)]) b1 = some (.tup [.int 0, .int 0]) := by rw [upd_ne (Ne.symm db), upd_same]
      show gName 5 _ _ (upd (upd (upd H2 d (ndO P w d [])) b1 (.tup [.int 0, .int 0])) d (ndO P w d [(keyPQ 0 0, b1, .bl true)])) _
      generalize upd (upd (upd H2 d (ndO P w d [])) b1 (.tup [.int 0, .int 0])) d (ndO P w d [(keyPQ 0 0, b1, .bl true)]) = H3 at s3 ed eb1 ⊢
      refine ⟨by show 2 ≤ sizeLine; exact szl rfl, fun b2 hb2 => ⟨by show 1 ≤ sizeLine; exact szl rfl, fun o ho => ?_⟩⟩
      have b2o : b2 ≠ o := fun e => by rw [← e, upd_same] at ho; cases ho
      have ho3 : H3 o = none := by rw [upd_ne (Ne.symm b2o)] at ho; exact ho
      have s4 : Same H3 (upd (upd H3 b2 (.tup [.int 0, .int 0])) o (.lst [.ref b2])) := (Same.new hb2).trans (Same.new ho)
      have eo : upd (upd H3 b2 (.tup [.int 0, .int 0])) o (.lst [.ref b2]) o = some (.lst [.ref b2]) := upd_same
      have eb2 : upd (upd H3 b2 (.tup [.int 0, .int 0])) o (.lst [.ref b2]) b2 = some (.tup [.int 0, .int 0]) := by rw [upd_ne b2o, upd_same]
      show gName 6 _ _ (upd (upd H3 b2 (.tup [.int 0, .int 0])) o (.lst [.ref b2])) _
      generalize upd (upd H3 b2 (.tup [.int 0, .int 0])) o (.lst [.ref b2]) = H4 at s4 eo eb2 ⊢
      have hdo : d ≠ o := fun e => by rw [← e, ed] at ho3; cases ho3
      have s24 := s3.trans s4
      have s14 : Same H1 H4 := s2.trans s24
      have ho2 : H2 o = none := by
        cases e : H2 o with
        | none => rfl
        | some y => rw [s3 _ _ e] at ho3; cases ho3
      have D4 : DkF H4 c0 (insO g) g.length := by
        obtain ⟨kvs2, e2, q2⟩ := D2
        exact ⟨kvs2, s24 _ _ e2, q2⟩
      have ed4 := s4 _ _ ed
      have nk4 : NKeys H4 [(keyPQ 0 0, b1, .bl true)] := fun e he => by
        rw [List.mem_singleton.mp he]
        exact ⟨NV.pq (s4 _ _ eb1), keyPQ_depth 0 0⟩
      have hd2 : H2 d = none := hd
      have keep2 : ∀ {H' : Hp}, Keep [d, o] H4 H' → Same H1 H' ∧ DkF H' c0 (insO g) g.length := fun {H'} k => by
        have s : Same H2 H' := fun a x e => k a x (by
          simp only [List.mem_cons, List.not_mem_nil, or_false]
          rintro (rfl | rfl)
          · rw [e] at hd2; cases hd2
          · rw [e] at ho2; cases ho2) (s24 _ _ e)
        refine ⟨s2.trans s, ?_⟩
        obtain ⟨kvs2, e2, q2⟩ := D2
        exact ⟨kvs2, s _ _ e2, q2⟩
      clear hb1 hb10 ho hd s3 s24 eb1 hb2 ho3 s4 ed
      refine ⟨fun σ' H' => Same H1 H' ∧ ∃ y4 y7 y8 y9 y10 y11, σ' = [some (.str al), some (.ref mt), some (.ref x), some (.ref c0), y4, some (.ref d), some (.ref o), y7, y8, y9, y10, y11, none], ?_, ?_⟩
      · have hN : ((xm.length : Nat) : Int) * ((xl.length : Nat) : Int) = ((mv.length * lm.length : Nat) : Int) := by rw [lxm, lxl]; rfl
        have hN2 : mv.length * lm.length ≤ 216000 := Nat.mul_le_mul ml cml
        refine ⟨_, rfl, mt, _, _, _, rfl, rfl, .inr (.inl (.inl (s14 _ _ et))), rfl, am, xm, rfl, sq_same s14 eom, _, rfl, x, ad.Reader, dx, _, _, rfl, s14 _ _ ex1, R.cl, R.n2, rfl, al2, xl, rfl, .inr (.inl (.inl (s14 _ _ eal))), _, _, rfl, rfl, Or.inl ⟨by omega, by omega⟩, ?_⟩
        refine ⟨((xm.length : Nat) : Int) * ((xl.length : Nat) : Int), rfl, by rw [hN]; omega, by rw [hN]; omega, ?_⟩
        rw [hN]
        let G : Int → Int → Prop := fun p q => p ∈ iota mv.length ∧ q ∈ iota lm.length ∧ SameSet mv g lm lg p q
        refine for_it (walk_range (lo := 0)) (fun i σ H' => Iv (Keep [d, o] H4 H' ∧ ∃ kvs ws, H' d = some (ndO P w d kvs) ∧ NKeys H' kvs ∧ kvs.length ≤ 1 + 3 * i ∧ H' o = some (.lst ws) ∧ i ≤ ws.length ∧ ws.length ≤ 1 + 3 * i ∧ PrL H' G ws ∧ ∃ y4 y7 y8 y9 y10 y11, σ = [some (.str al), some (.ref mt), some (.ref x), some (.ref c0), y4, some (.ref d), some (.ref o), y7, y8, y9, y10, y11, none])) (.of ⟨Keep.refl _ _, _, _, ed4, nk4, Nat.le_refl _, eo, Nat.zero_le _, Nat.le_refl _, fun w hw => ⟨b2, 0, 0, List.mem_singleton.mp hw, eb2, M.zero, CM.zero, ss⟩, _, _, _, _, _, _, rfl⟩) (fun _ _ _ _ _ => trivial) (fun i y σ H5 H6 hi hp hy => ?_) (fun σ H5 hp => ?_)
        · obtain ⟨k5, kvs, ws, ed5, nk5, lk5, eo5, li5, lw5, pr5, y4, y7, y8, y9, y10, y11, rfl⟩ := hp.get
          obtain ⟨rfl, rfl⟩ := hy
          have hi : i < 216000 := Nat.lt_of_lt_of_le (show i < mv.length * lm.length by omega) hN2
          obtain ⟨s15, D5⟩ := keep2 k5
          show gName 7 (V.int (0 + (i : Int))) _ _ _
          rw [Int.zero_add]
          refine ⟨_, rfl, _, rfl, o, _, rfl, .inl (SqL.of eo5), rfl, _, rfl, ?_⟩
          by_cases he : i = ws.length
          · rw [decide_eq_true (show V.int (i : Int) = V.int ((ws.length : Nat) : Int) by rw [← he])]
            exact iteT ⟨s15, _, _, _, _, _, _, rfl⟩
          · rw [decide_eq_false (show ¬ V.int (i : Int) = V.int ((ws.length : Nat) : Int) from fun z => he (by have := V.int.inj z; omega))]
            have hlt : i < ws.length := by omega
            obtain ⟨bw, p, q, ew, ebw, hp, hq, hpq⟩ := pr5 ws[i] (List.getElem_mem hlt)
            have hw : ws[i]? = some (.ref bw) := by rw [List.getElem?_eq_getElem hlt, ew]
            refine iteF ⟨_, rfl, _, rfl, o, _, _, _, rfl, rfl, SqL.of eo5, atI_nat hw, bw, _, rfl, .inl (.inl ebw), rfl, ?_⟩
            have hpg : decide (p ∈ g) = decide (q ∈ lg) := hpq []
            refine ⟨_, _, rfl, _, _, rfl, rfl, _, rfl, _, rfl, c0, _, rfl, D5.get p, _, rfl, _, rfl, x, ad.Reader, dx, _, _, rfl, s15 _ _ ex1, R.cl, R.n3, rfl, alg, _, rfl, .inr (.inl (.inl (s15 _ _ ealg))), rfl, flat_ints lg, rfl, ?_⟩
            rw [inV_ints, insO_some, hpg]
            refine ⟨_, rfl, ?_⟩
            refine iteEf (by simp) ?_
            refine ⟨_, rfl, al, rfl, by have : (1000 : Nat) ≤ sizeLine := szl rfl; omega, _, rfl, by omega, by omega, ?_⟩
            have hp' := mem_iota.mp hp
            have hq' := mem_iota.mp hq
            obtain ⟨row, hrow, erow, hlr, hin⟩ := M.rowI_at hp
            obtain ⟨row2, hrow2, erow2, hlr2, hin2⟩ := CM.rowI_at hq
            obtain ⟨br, ebr, nbr, _, eobr⟩ := hatm p row hp'.1 hrow
            obtain ⟨a9, xs9, b9, e0, ha9, ea9, eb9, hb9, eb10⟩ := rowT_at (rm.same s1) hq'.1 hrow2
            cases e0
            rw [(show xs9 = xl by rw [eal] at ea9; cases ea9; rfl)] at eb9
            refine for_it (walk_range (lo := 0)) (fun j σ H' => Iv (Keep [d, o] H4 H' ∧ ∃ kvs ws, H' d = some (ndO P w d kvs) ∧ NKeys H' kvs ∧ kvs.length ≤ 1 + 3 * i + j ∧ H' o = some (.lst ws) ∧ i < ws.length ∧ ws.length ≤ 1 + 3 * i + j ∧ PrL H' G ws ∧ ∃ y4 y10 y11, σ = [some (.str al), some (.ref mt), some (.ref x), some (.ref c0), y4, some (.ref d), some (.ref o), some (.int (i : Int)), some (.int p), some (.int q), y10, y11, none])) (.of ⟨k5, kvs, ws, ed5, nk5, lk5, eo5, hlt, lw5, pr5, _, _, _, rfl⟩) (fun _ _ _ _ _ => trivial) (fun j y σ H7 H8 hj hp3 hy => ?_) (fun σ H7 hp3 => ?_)
            · obtain ⟨k7, kvs7, ws7, ed7, nk7, lk7, eo7, li7, lw7, pr7, y4, y10, y11, rfl⟩ := hp3.get
              obtain ⟨rfl, rfl⟩ := hy
              have hj' : j < al.length := by omega
              obtain ⟨s17, D7⟩ := keep2 k7
              show gName 10 (V.int (0 + (j : Int))) _ _ _
              rw [Int.zero_add]
              refine ⟨_, rfl, mt, _, _, _, rfl, rfl, .inr (.inl (.inl (s17 _ _ et))), rfl, _, rfl, am, _, _, _, rfl, rfl, sq_same s17 eom, ebr, _, rfl, br, _, _, _, rfl, rfl, sq_same s17 eobr, row_at (by omega) p, ?_⟩
              refine ⟨_, rfl, x, ad.Reader, dx, _, _, rfl, s17 _ _ ex1, R.cl, R.n2, rfl, _, rfl, al2, _, _, _, rfl, rfl, .inr (.inl (.inl (s17 _ _ eal))), eb9, _, rfl, b9, _, _, _, rfl, rfl, .inr (.inl (.inl (s17 _ _ eb10))), row_at (by omega) q, by show 2 ≤ sizeLine; exact szl rfl, fun bp hbp => ?_⟩
              have pn : (rowI mv p).getD j p = row.getD j p := by rw [erow]
              have qn : (rowI lm q).getD j q = row2.getD j q := by rw [erow2]
              have hG : G (row.getD j p) (row2.getD j q) := by
                rw [← pn, ← qn]
                exact ⟨getD_in M.closed hp j, getD_in CM.closed hq j, same_stepW M CM.w hp hq hpq j⟩
              have s18 : Same H8 (upd H8 bp (.tup [.int (row.getD j p), .int (row2.getD j q)])) := Same.new hbp
              have ebp : upd H8 bp (.tup [.int (row.getD j p), .int (row2.getD j q)]) bp = some (.tup [.int (row.getD j p), .int (row2.getD j q)]) := upd_same
              show gName 11 _ _ (upd H8 bp (.tup [.int (row.getD j p), .int (row2.getD j q)])) _
              generalize upd H8 bp (.tup [.int (row.getD j p), .int (row2.getD j q)]) = H9 at s18 ebp ⊢
              have ed9 := s18 _ _ ed7
              have nk9 := nk7.keep (TupK.same s18)
              have eo9 := s18 _ _ eo7
              have pr9 := pr7.keep (TupK.same s18)
              have k9 := k7.trans (Keep.same s18)
              have hd9 : ∀ {n : Nat}, n ≤ 1 + 3 * i + j → n < sizeLine := fun {n} h => Nat.lt_of_le_of_lt (m := 1000000) (by omega) (by decide)
              refine ⟨_, rfl, _, rfl, d, kvs7, bp, _, rfl, rfl, ed9, nk9, NV.pq ebp, keyPQ_depth _ _, _, rfl, ?_⟩
              by_cases hm : (lookN kvs7 (keyPQ (row.getD j p) (row2.getD j q))).isSome = true
              · rw [hm]
                exact iteEf rfl (.of ⟨k9, kvs7, ws7, ed9, nk9, by omega, eo9, li7, by omega, pr9, _, _, _, rfl⟩)
              · have hm2 : (lookN kvs7 (keyPQ (row.getD j p) (row2.getD j q))).isSome = false := by simpa using hm
                rw [hm2]
                refine iteEt rfl ⟨_, rfl, _, rfl, d, kvs7, bp, _, rfl, rfl, ed9, nk9, NV.pq ebp, keyPQ_depth _ _, by simpa using hm2, hd9 lk7, ?_⟩
                have tk : TupK H9 (upd H9 d (ndO P w d (kvs7 ++ [(keyPQ (row.getD j p) (row2.getD j q), bp, V.bl true)]))) := TupK.upd fun ys z => by rw [ed9] at z; cases z
                have eo10 : upd H9 d (ndO P w d (kvs7 ++ [(keyPQ (row.getD j p) (row2.getD j q), bp, V.bl true)])) o = some (.lst ws7) := by rw [upd_ne (Ne.symm hdo)]; exact eo9
                have tk2 : TupK H9 (upd (upd H9 d (ndO P w d (kvs7 ++ [(keyPQ (row.getD j p) (row2.getD j q), bp, V.bl true)]))) o (.lst (ws7 ++ [.ref bp]))) := tk.trans (TupK.upd fun ys z => by rw [eo10] at z; cases z)
                have fin : Keep [d, o] H4 (upd (upd H9 d (ndO P w d (kvs7 ++ [(keyPQ (row.getD j p) (row2.getD j q), bp, V.bl true)]))) o (.lst (ws7 ++ [.ref bp]))) ∧ (upd (upd H9 d (ndO P w d (kvs7 ++ [(keyPQ (row.getD j p) (row2.getD j q), bp, V.bl true)]))) o (.lst (ws7 ++ [.ref bp]))) d = some (ndO P w d (kvs7 ++ [(keyPQ (row.getD j p) (row2.getD j q), bp, V.bl true)])) ∧ NKeys (upd (upd H9 d (ndO P w d (kvs7 ++ [(keyPQ (row.getD j p) (row2.getD j q), bp, V.bl true)]))) o (.lst (ws7 ++ [.ref bp]))) (kvs7 ++ [(keyPQ (row.getD j p) (row2.getD j q), bp, V.bl true)]) ∧ PrL (upd (upd H9 d (ndO P w d (kvs7 ++ [(keyPQ (row.getD j p) (row2.getD j q), bp, V.bl true)]))) o (.lst (ws7 ++ [.ref bp]))) G (ws7 ++ [.ref bp]) := by
                  refine ⟨k9.trans ((Keep.upd (by simp)).trans (Keep.upd (by simp))), by rw [upd_ne hdo, upd_same], fun e he => ?_, (pr9.keep tk2).snoc (tk2 _ _ ebp) hG⟩
                  rcases List.mem_append.mp he with he | he
                  · exact (nk9.keep tk2) e he
                  · rw [List.mem_singleton.mp he]
                    exact ⟨(NV.pq ebp).keep tk2, keyPQ_depth _ _⟩
                exact ⟨_, rfl, .inl ⟨rfl, _, SqL.of eo10⟩, _, rfl, o, ws7, .ref bp, rfl, rfl, eo10, hd9 lw7, .of ⟨fin.1, kvs7 ++ [(keyPQ (row.getD j p) (row2.getD j q), bp, V.bl true)], ws7 ++ [V.ref bp], fin.2.1, fin.2.2.1, by rw [List.length_append]; show kvs7.length + 1 ≤ _; omega, upd_same, by rw [List.length_append]; omega, by rw [List.length_append]; show ws7.length + 1 ≤ _; omega, fin.2.2.2, _, _, _, rfl⟩⟩
            · obtain ⟨k7, kvs7, ws7, ed7, nk7, lk7, eo7, li7, lw7, pr7, y4, y10, y11, rfl⟩ := hp3.get
              rw [show ((al.length : Nat) : Int).toNat = al.length by omega] at lk7 lw7
              exact .of ⟨k7, kvs7, ws7, ed7, nk7, by omega, eo7, by omega, by omega, pr7, _, _, _, _, _, _, rfl⟩
        · obtain ⟨k5, kvs, ws, ed5, nk5, lk5, eo5, li5, lw5, pr5, y4, y7, y8, y9, y10, y11, rfl⟩ := hp.get
          exact ⟨(keep2 k5).1, _, _, _, _, _, _, rfl⟩
      · rintro σ' H5 ⟨s5, y4, y7, y8, y9, y10, y11, rfl⟩
        refine ⟨_, rfl, x, ad.Reader, dx, _, _, rfl, s5 _ _ ex1, R.cl, R.n2, rfl, al2, xl, rfl, .inr (.inl (.inl (s5 _ _ eal))), ?_⟩
        refine ⟨_, rfl, x, ad.Reader, dx, _, _, rfl, s5 _ _ ex1, R.cl, R.n2, rfl, _, _, al.length, lm, lg, rfl, rm.same (s1.trans s5), C, by omega, fun H6 s6 => ?_⟩
        refine ⟨_, rfl, iteT ?_⟩
        have s16 := s5.trans s6
        have e2 : ((xl.length : Nat) : Int) = ((lm.length : Nat) : Int) := by rw [lxl]
        rw [e2]
        refine ⟨_, rfl, x, ad.Reader, dx, _, _, rfl, s16 _ _ ex1, R.cl, R.n2, rfl, _, rfl, x, ad.Reader, dx, _, _, rfl, s16 _ _ ex1, R.cl, R.n3, rfl, _, rfl, _, _, _, _, mvT lm, rowT lg, al.length, lm.length, lm, lg, rfl, rm.same (s1.trans s16), mvO_T lm, rg.same (s1.trans s16), rfl, CM.w, by omega, by omega, fun r H7 hr7 hc7 s7 => ⟨_, rfl, rfl, ?_⟩⟩
        have er : r = lm.length := by
          rcases hc7 with ⟨j, h1, h2⟩ | h
          · have h3 := canon_cls CM.w ⟨CM.w, C.order, C.parts⟩ (fun _ => rfl) (fun r _ s _ => cl08_iff lg r s) h1
            omega
          · omega
        rw [er, decide_eq_true (show V.int (lm.length : Int) = V.int (lm.length : Int) from rfl)]
        exact kk _ (s1.trans (s16.trans s7))
end

/-! ### joint_table -/
open MA
/-- pairs in a list, in order -/
def PrW (H : Hp) (ws : List V) (L : List (Int × Int)) : Prop := ws.length = L.length ∧ ∀ (i : Nat) (r : Int × Int), L[i]? = some r → ∃ b, ws[i]? = some (.ref b) ∧ H b = some (.tup [.int r.1, .int r.2])
theorem PrW.keep {H H' : Hp} {ws : List V} {L : List (Int × Int)} (h : PrW H ws L) (t : TupK H H') : PrW H' ws L := ⟨h.1, fun i r e => by
  obtain ⟨b, e1, e2⟩ := h.2 i r e
  exact ⟨b, e1, t _ _ e2⟩⟩
theorem PrW.snoc {H : Hp} {ws : List V} {L : List (Int × Int)} (h : PrW H ws L) {b : Addr} {r : Int × Int} (e : H b = some (.tup [.int r.1, .int r.2])) : PrW H (ws ++ [.ref b]) (L ++ [r]) := by
  refine ⟨by rw [List.length_append, List.length_append, h.1]; rfl, fun i q hj => ?_⟩
  by_cases hl : i < L.length
  · rw [List.getElem?_append_left hl] at hj
    obtain ⟨y, h1, h2⟩ := h.2 i q hj
    exact ⟨y, by rw [List.getElem?_append_left (by rw [h.1]; exact hl)]; exact h1, h2⟩
  · rw [List.getElem?_append_right (by omega)] at hj
    have hj0 : i - L.length = 0 := by
      have h9 : i - L.length < 1 := (List.getElem?_eq_some_iff.mp hj).1
      omega
    rw [hj0] at hj
    cases hj
    refine ⟨b, ?_, e⟩
    rw [List.getElem?_append_right (by rw [h.1]; omega), h.1, hj0]
    rfl
def keyR (r : Int × Int) : NestedKey := keyPQ r.1 r.2
theorem keyR_inj (r s : Int × Int) (h : keyR r = keyR s) : r = s := by
  obtain ⟨a, b⟩ := r
  obtain ⟨c, d⟩ := s
  unfold keyR keyPQ at h
  simp only [NestedKey.tup.injEq, List.cons.injEq, NestedKey.num.injEq, and_true] at h
  rw [h.1, h.2]
theorem keyR_nodup {L : List (Int × Int)} (h : L.Nodup) : (L.map keyR).Nodup := List.pairwise_map.mpr (h.imp fun h e => h (keyR_inj _ _ e))
theorem idxA_map {α β : Type} [DecidableEq α] [DecidableEq β] (c : α → β) (hc : ∀ x y, c x = c y → x = y) (l : List α) (x : α) : (l.map c).idxOf (c x) = idxA l x := idx_map c hc l x
theorem NDk.lookY {kvs : List NE} {L : List (Int × Int)} (h : NDk kvs (L.map keyR)) (hn : L.Nodup) {r : Int × Int} (hr : r ∈ L) : lookN kvs (keyR r) = some (.int (idxA L r : Nat)) := by
  rw [h.look (keyR_nodup hn), idxA_map keyR keyR_inj, if_pos (List.mem_map_of_mem hr)]
theorem NDk.lookN0 {kvs : List NE} {L : List (Int × Int)} (h : NDk kvs (L.map keyR)) (hn : L.Nodup) {r : Int × Int} (hr : ¬ r ∈ L) : lookN kvs (keyR r) = none := by
  rw [h.look (keyR_nodup hn), if_neg]
  intro z
  obtain ⟨s, hs, e⟩ := List.mem_map.mp z
  rw [keyR_inj _ _ e] at hs
  exact hr hs
theorem NDk.len {kvs : List NE} {L : List (Int × Int)} (h : NDk kvs (L.map keyR)) : kvs.length = L.length := by rw [h.1, List.length_map]
/-- the next joint rooms, so far -/
def jgrow (m1 m2 : List (List Int)) (i : Nat) (r : Int × Int) (t : Nat) : List (Int × Int) := grow (jord m1 m2 i) ((prow m1 m2 r).take t)
section
variable {k : Nat} {m1 m2 : List (List Int)} {g1 g2 : List Int} {i : Nat} {r : Int × Int}
theorem jgrow_zero : jgrow m1 m2 i r 0 = jord m1 m2 i := by unfold jgrow; rw [List.take_zero]; rfl
theorem jgrow_yes {t : Nat} {x : Int × Int} (h : (prow m1 m2 r)[t]? = some x) (hx : x ∈ jgrow m1 m2 i r t) : jgrow m1 m2 i r (t + 1) = jgrow m1 m2 i r t := by
  unfold jgrow at hx ⊢
  rw [take_snoc h]
  exact grow_yes hx
theorem jgrow_no {t : Nat} {x : Int × Int} (h : (prow m1 m2 r)[t]? = some x) (hx : ¬ x ∈ jgrow m1 m2 i r t) : jgrow m1 m2 i r (t + 1) = jgrow m1 m2 i r t ++ [x] := by
  unfold jgrow at hx ⊢
  rw [take_snoc h]
  exact grow_no hx
theorem jgrow_all (hr : (jord m1 m2 i)[i]? = some r) {t : Nat} (ht : (prow m1 m2 r).length ≤ t) : jgrow m1 m2 i r t = jord m1 m2 (i + 1) := by
  unfold jgrow jord
  rw [List.take_of_length_le ht]
  exact (ordN_some hr).symm
theorem jgrow_nodup {t : Nat} : (jgrow m1 m2 i r t).Nodup := nodup_grow (ordN_nodup i)
theorem jgrow_pre (M1 : MachW k m1 g1) (M2 : MachW k m2 g2) (hr : (jord m1 m2 i)[i]? = some r) (t : Nat) : ∃ q, jrooms m1 m2 = jgrow m1 m2 i r t ++ q := by
  obtain ⟨q1, e1⟩ := jord_pre M1 M2 (i + 1)
  have e2 : jord m1 m2 (i + 1) = grow (jgrow m1 m2 i r t) ((prow m1 m2 r).drop t) := by
    unfold jgrow
    rw [← grow_app, List.take_append_drop]
    exact ordN_some hr
  obtain ⟨q2, e3⟩ := grow_pre ((prow m1 m2 r).drop t) (jgrow m1 m2 i r t)
  exact ⟨q2 ++ q1, by rw [e1, e2, e3, List.append_assoc]⟩
theorem jgrow_len (M1 : MachW k m1 g1) (M2 : MachW k m2 g2) (hr : (jord m1 m2 i)[i]? = some r) (t : Nat) : (jgrow m1 m2 i r t).length ≤ m1.length * m2.length := by
  obtain ⟨q, e⟩ := jgrow_pre M1 M2 hr t
  have h := jord_len M1 M2 (m1.length * m2.length)
  have h2 : (jrooms m1 m2).length = (jgrow m1 m2 i r t).length + q.length := by rw [e, List.length_append]
  have h3 : (jrooms m1 m2).length ≤ m1.length * m2.length := h
  omega
theorem jgrow_ix (M1 : MachW k m1 g1) (M2 : MachW k m2 g2) (hr : (jord m1 m2 i)[i]? = some r) {t : Nat} {x : Int × Int} (hx : x ∈ jgrow m1 m2 i r t) : jix m1 m2 x = ((idxA (jgrow m1 m2 i r t) x : Nat) : Int) := by
  obtain ⟨q, e⟩ := jgrow_pre M1 M2 hr t
  unfold jix
  rw [e, idx_pre q hx]
end
theorem same_none {H H' : Hp} (s : Same H H') {p : Addr} (h : H' p = none) : H p = none := by
  cases e : H p with
  | none => rfl
  | some o => rw [s _ _ e] at h; cases h
/-- rows of numbers in a list -/
def RowsT (H : Hp) (ms : List V) (rs : List (List Int)) : Prop := ms.length = rs.length ∧ ∀ (j : Nat) (row : List Int), rs[j]? = some row → ∃ b, ms[j]? = some (.ref b) ∧ H b = some (.tup (row.map V.int))
theorem RowsT.keep {H H' : Hp} {ms : List V} {rs : List (List Int)} (h : RowsT H ms rs) (t : TupK H H') : RowsT H' ms rs := ⟨h.1, fun i r e => by
  obtain ⟨b, e1, e2⟩ := h.2 i r e
  exact ⟨b, e1, t _ _ e2⟩⟩
theorem RowsT.snoc {H : Hp} {ms : List V} {rs : List (List Int)} (h : RowsT H ms rs) {b : Addr} {r : List Int} (e : H b = some (.tup (r.map V.int))) : RowsT H (ms ++ [.ref b]) (rs ++ [r]) := by
  refine ⟨by rw [List.length_append, List.length_append, h.1]; rfl, fun i q hj => ?_⟩
  by_cases hl : i < rs.length
  · rw [List.getElem?_append_left hl] at hj
    obtain ⟨y, h1, h2⟩ := h.2 i q hj
    exact ⟨y, by rw [List.getElem?_append_left (by rw [h.1]; exact hl)]; exact h1, h2⟩
  · rw [List.getElem?_append_right (by omega)] at hj
    have hj0 : i - rs.length = 0 := by
      have h9 : i - rs.length < 1 := (List.getElem?_eq_some_iff.mp hj).1
      omega
    rw [hj0] at hj
    cases hj
    refine ⟨b, ?_, e⟩
    rw [List.getElem?_append_right (by rw [h.1]; omega), h.1, hj0]
    rfl
theorem RowsT.rps {H : Hp} {ms : List V} {rs : List (List Int)} (h : RowsT H ms rs) : Rps [] H ms (rs.map rowT) := by
  refine Rps.of_get (by rw [List.length_map]; exact h.1) fun j y d h1 h2 => ?_
  rw [List.getElem?_map] at h2
  cases hr : rs[j]? with
  | none => rw [hr] at h2; cases h2
  | some r =>
    rw [hr] at h2
    cases h2
    obtain ⟨b, e1, e2⟩ := h.2 j r hr
    rw [h1] at e1
    cases e1
    exact .tup (by simp) e2 (Rps.ints r)
/-- what the walk over joint rooms keeps: numbers at d, order at o -/
structure JW (P : Program) (w : World) (H H' : Hp) (d o : Addr) (L : List (Int × Int)) : Prop where
  same : Same H H'
  d0 : H d = none
  o0 : H o = none
  dict : ∃ kvs, H' d = some (ndO P w d kvs) ∧ NKeys H' kvs ∧ NDk kvs (L.map keyR)
  ord : ∃ ws, H' o = some (.lst ws) ∧ PrW H' ws L
theorem JW.other {P : Program} {w : World} {H H' : Hp} {d o q : Addr} {x : HO} {L : List (Int × Int)} (j : JW P w H H' d o L) (h0 : H q = none) (hd : q ≠ d) (ho : q ≠ o) (ht : ∀ ys, H' q ≠ some (.tup ys)) : JW P w H (upd H' q x) d o L := by
  have tk : TupK H' (upd H' q x) := TupK.upd ht
  obtain ⟨kvs, e1, e2, e3⟩ := j.dict
  obtain ⟨ws, f1, f2⟩ := j.ord
  exact ⟨same_upd j.same h0, j.d0, j.o0, ⟨kvs, by rw [upd_ne (Ne.symm hd)]; exact e1, e2.keep tk, e3⟩, ⟨ws, by rw [upd_ne (Ne.symm ho)]; exact f1, f2.keep tk⟩⟩
theorem JW.new {P : Program} {w : World} {H H' : Hp} {d o q : Addr} {x : HO} {L : List (Int × Int)} (j : JW P w H H' d o L) (h : H' q = none) : JW P w H (upd H' q x) d o L := by
  obtain ⟨kvs, e1, _⟩ := j.dict
  obtain ⟨ws, f1, _⟩ := j.ord
  refine j.other ?_ (fun e => by rw [e, e1] at h; cases h) (fun e => by rw [e, f1] at h; cases h) (fun ys e => by rw [h] at e; cases e)
  cases e : H q with
  | none => rfl
  | some y => rw [j.same _ _ e] at h; cases h
theorem JW.ne {P : Program} {w : World} {H H' : Hp} {d o : Addr} {L : List (Int × Int)} (j : JW P w H H' d o L) : d ≠ o := fun e => by
  obtain ⟨kvs, e1, _⟩ := j.dict
  obtain ⟨ws, f1, _⟩ := j.ord
  rw [e, f1] at e1
  cases e1
/-- a new pair, numbered and put behind -/
theorem JW.grow {P : Program} {w : World} {H H' : Hp} {d o b : Addr} {kvs : List NE} {ws : List V} {L : List (Int × Int)} {r : Int × Int} (j : JW P w H H' d o L) (e1 : H' d = some (ndO P w d kvs)) (e2 : NKeys H' kvs) (e3 : NDk kvs (L.map keyR)) (f1 : H' o = some (.lst ws)) (f2 : PrW H' ws L)
    (hb : H' b = some (.tup [.int r.1, .int r.2])) : JW P w H (upd (upd H' d (ndO P w d (kvs ++ [(keyR r, b, .int (kvs.length : Int))]))) o (.lst (ws ++ [.ref b]))) d o (L ++ [r]) ∧ TupK H' (upd (upd H' d (ndO P w d (kvs ++ [(keyR r, b, .int (kvs.length : Int))]))) o (.lst (ws ++ [.ref b]))) := by
  have hdo := j.ne
  have tk1 : TupK H' (upd H' d (ndO P w d (kvs ++ [(keyR r, b, .int (kvs.length : Int))]))) := TupK.upd fun ys z => by rw [e1] at z; cases z
  have tk : TupK H' (upd (upd H' d (ndO P w d (kvs ++ [(keyR r, b, .int (kvs.length : Int))]))) o (.lst (ws ++ [.ref b]))) := tk1.trans (TupK.upd fun ys z => by rw [upd_ne (Ne.symm hdo), f1] at z; cases z)
  refine ⟨⟨same_upd (same_upd j.same j.d0) j.o0, j.d0, j.o0, ⟨_, by rw [upd_ne hdo, upd_same], fun e he => ?_, ?_⟩, ⟨_, upd_same, (f2.keep tk).snoc (tk _ _ hb)⟩⟩, tk⟩
  · rcases List.mem_append.mp he with he | he
    · exact (e2.keep tk) e he
    · rw [List.mem_singleton.mp he]
      exact ⟨(NV.pq hb).keep tk, keyPQ_depth _ _⟩
  · rw [List.map_append]
    exact e3.snoc (keyR r) b
abbrev sJoint : Stmt := top 25
def spJoint : Sp := fun vs H Q _ => ∃ (S : List Addr) (v u : V) (k : Nat) (m1 m2 : List (List Int)) (g1 g2 : List Int), vs = [v, u] ∧ MvQ S H v m1 ∧ MvQ S H u m2 ∧ MachW k m1 g1 ∧ MachW k m2 g2 ∧ k ≤ 3 ∧ m1.length * m2.length ≤ 3600 ∧
  ∀ (p o mo : Addr) (ws : List V) (H' : Hp), Same H H' → H' p = some (.tup [.ref o, .ref mo]) → H' o = some (.lst ws) → PrW H' ws (jrooms m1 m2) → Rp [] H' (.ref mo) (.lst ((jmoves m1 m2).map rowT)) → Q (.ref p) H'
section
open PyProof.Rows
variable {P : Program} {w : World} {K : PySem.W.Frag} {mg : Str → Option Value} {base : Heap}
theorem scJoint : FnScope ["one", "other", "numbers", "order", "moves", "at", "first", "second", "row", "k", "target", "pair"] ["one", "other"] (C8.fnScope sJoint) := C8.fnScope_by (by decide +kernel)
theorem ok_joint {f : Addr} {fd : FuncData} (F : C8.Def K mg "joint_table" sJoint f fd) (b : Binds K fd ["one", "other"] []) (T : Txt mg) : C8.Cal P w K mg base 1 "joint_table" spJoint [] := by
  refine C8.cal0 F b .nil scJoint (fun vs H Q E h => ?_) (fun cdv A outer s H vs Q E hr h => ?_)
  · obtain ⟨S, v, u, k, m1, m2, g1, g2, rfl, _⟩ := h
    rfl
  · obtain ⟨S, v, u, k, m1, m2, g1, g2, rfl, r1, r2, M1, M2, hk, hN, kk⟩ := h
    have sc := scJoint
    have hu2 : (A.deeper (envOfC "joint_table" (C8.fnScope sJoint) s.heap.objs.size f cdv)).units + 16 < cLine := by have := hr.un; omega
    refine ⟨_, -- joint_table: 0 one 1 other 2 numbers 3 order 4 moves 5 at 6 first 7 second 8 row 9 k 10 target 11 pair

      (pss_cons (ps_set (i := 2) sc.nd rfl (Or.inl rfl) (pe_nd1 hu2 (pe_tup (pa_cons pe_int (pa_cons pe_int pa_nil))) pe_int))
      (pss_cons (ps_set (i := 3) sc.nd rfl (Or.inl rfl) (pe_lst (pa_cons (pe_tup (pa_cons pe_int (pa_cons pe_int pa_nil))) pa_nil)))
      (pss_cons (ps_set (i := 4) sc.nd rfl (Or.inl rfl) (pe_lst pa_nil))
      (pss_cons (ps_set (i := 5) sc.nd rfl (Or.inl rfl) pe_int)
      (pss_cons (ps_while PassesOwn.never (pt_cmpR op_lt (pv 5) (pe_callB (call_lenQ (K := K) rfl) (by rfl) T.len PySem.boot_len (pa_cons (pv 3) pa_nil)) (nomark _)) 
        (pss_cons (ps_asg (pe_ix ix_list (pv 3) (pv 5) (fun _ _ => rfl)) (pg_tup rfl (pgs_cons (pg_name (i := 6) sc.nd rfl (Or.inl rfl)) (pgs_cons (pg_name (i := 7) sc.nd rfl (Or.inl rfl)) pgs_nil))))
        (pss_cons (ps_set (i := 8) sc.nd rfl (Or.inl rfl) (pe_lst pa_nil))
        (pss_cons (ps_for PassesOwn.never rfl (pi_enumH (by rfl) T.enumerate (pa_cons (pe_ix (ixQ (K := K) rfl) (pv 0) (pv 6) (fun _ _ => rfl)) pa_nil)) (pg_tup rfl (pgs_cons (pg_name (i := 9) sc.nd rfl (Or.inl rfl)) (pgs_cons (pg_name (i := 10) sc.nd rfl (Or.inl rfl)) pgs_nil))) 
          (pss_cons (ps_set (i := 11) sc.nd rfl (Or.inl rfl) (pe_tup (pa_cons (pv 10) (pa_cons (pe_ix (ixQ (K := K) rfl) (pe_ix (ixQ (K := K) rfl) (pv 1) (pv 7) (fun _ _ => rfl)) (pv 9) (fun _ _ => rfl)) pa_nil))))
          (C8.pss_cut (ps_if (pt_cmp (pc_ndnotin hu2 (pv 11) (pv 2))) 
            (pss_cons (ps_ndput hu2 (pv 2) (pv 11) (pe_callB (call_lenQ (K := K) rfl) (by rfl) T.len PySem.boot_len (pa_cons (pv 3) pa_nil)) rfl)
            (pss_one (ps_expr (pe_append (K := K) rfl (pv 3) (pa_cons (pv 11) pa_nil))))) pss_nil)
          (pss_one (ps_expr (pe_append (K := K) rfl (pv 8) (pa_cons (pe_ndget hu2 (pv 2) (pv 11) (fun _ _ => rfl)) pa_nil)))))))
        (pss_cons (ps_expr (pe_append (K := K) rfl (pv 4) (pa_cons (pe_callTy (T := "tuple") (call_tupQ (K := K) rfl) (by rfl) T.tuple (by decide +kernel) (pa_cons (pv 8) pa_nil)) pa_nil)))
        (pss_one (ps_set (i := 5) sc.nd rfl (Or.inl rfl) (pe_op op_add (pv 5) pe_int))))))))
      (pss_one (ps_ret (pe_tup (pa_cons (pv 3) (pa_cons (pv 4) pa_nil)))))))))), ?_⟩
    refine fun d hd => ⟨by show 2 ≤ sizeLine; exact szl rfl, fun b1 hb1 => ?_⟩
    have db : d ≠ b1 := fun e => by rw [← e, upd_same] at hb1; cases hb1
    have hb10 : H b1 = none := by rw [upd_ne (Ne.symm db)] at hb1; exact hb1
    refine ⟨b1, keyR (0, 0), .int 0, rfl, by rw [upd_ne db, upd_same], NV.pq upd_same, keyPQ_depth 0 0, ?_⟩
    have s1 : Same H (upd (upd (upd H d (ndO P w d [])) b1 (.tup [.int 0, .int 0])) d (ndO P w d [(keyR (0, 0), b1, .int 0)])) := same_upd ((Same.new hd).trans (Same.new hb1)) hd
    have ed : upd (upd (upd H d (ndO P w d [])) b1 (.tup [.int 0, .int 0])) d (ndO P w d [(keyR (0, 0), b1, .int 0)]) d = some (ndO P w d [(keyR (0, 0), b1, .int 0)]) := upd_same
    have eb1 : upd (upd (upd H d (ndO P w d [])) b1 (.tup [.int 0, .int 0])) d (ndO P w d [(keyR (0, 0), b1, .int 0)]) b1 = some (.tup [.int 0, .int 0]) := by rw [upd_ne (Ne.symm db), upd_same]
    show gName 2 _ _ (upd (upd (upd H d (ndO P w d [])) b1 (.tup [.int 0, .int 0])) d (ndO P w d [(keyR (0, 0), b1, .int 0)])) _
    generalize upd (upd (upd H d (ndO P w d [])) b1 (.tup [.int 0, .int 0])) d (ndO P w d [(keyR (0, 0), b1, .int 0)]) = H1 at s1 ed eb1 ⊢
    refine ⟨by show 2 ≤ sizeLine; exact szl rfl, fun b2 hb2 => ⟨by show 1 ≤ sizeLine; exact szl rfl, fun o ho => ?_⟩⟩
    have b2o : b2 ≠ o := fun e => by rw [← e, upd_same] at ho; cases ho
    have ho1 : H1 o = none := by rw [upd_ne (Ne.symm b2o)] at ho; exact ho
    have ho0 : H o = none := same_none s1 ho1
    have s2 : Same H1 (upd (upd H1 b2 (.tup [.int 0, .int 0])) o (.lst [.ref b2])) := (Same.new hb2).trans (Same.new ho)
    have J2 : JW P w H (upd (upd H1 b2 (.tup [.int 0, .int 0])) o (.lst [.ref b2])) d o [(0, 0)] := by
      refine ⟨s1.trans s2, hd, ho0, ⟨_, s2 _ _ ed, fun e he => ?_, NDk.nil.snoc (keyR (0, 0)) b1⟩, ⟨_, upd_same, rfl, fun i r e => ?_⟩⟩
      · rw [List.mem_singleton.mp he]
        exact ⟨NV.pq (s2 _ _ eb1), keyPQ_depth 0 0⟩
      · match i, e with
        | 0, e => cases e; exact ⟨b2, rfl, by rw [upd_ne b2o, upd_same]⟩
        | i + 1, e => simp at e
    show gName 3 _ _ (upd (upd H1 b2 (.tup [.int 0, .int 0])) o (.lst [.ref b2])) _
    generalize upd (upd H1 b2 (.tup [.int 0, .int 0])) o (.lst [.ref b2]) = H2 at J2 ⊢
    clear s1 s2 ed eb1 hb1 hb2 ho ho1
    refine ⟨by show 0 ≤ sizeLine; exact szl rfl, fun mo hmo => ?_⟩
    have J3 : JW P w H (upd H2 mo (.lst [])) d o [(0, 0)] := J2.new hmo
    have mo0 : H mo = none := same_none J2.same hmo
    have mod : mo ≠ d := fun e => by obtain ⟨kvs, e1, _⟩ := J2.dict; rw [e, e1] at hmo; cases hmo
    have moo : mo ≠ o := fun e => by obtain ⟨kvs, e1, _⟩ := J2.ord; rw [e, e1] at hmo; cases hmo
    have em3 : upd H2 mo (.lst []) mo = some (.lst ([] : List V)) := upd_same
    show gName 4 _ _ (upd H2 mo (.lst [])) _
    generalize upd H2 mo (.lst []) = H3 at J3 em3 ⊢
    clear J2 hmo
    have hJ := jord_len M1 M2
    refine ⟨fun m σ H' => ∃ i, m = m1.length * m2.length + 1 - i ∧ i ≤ (jord m1 m2 i).length ∧ JW P w H H' d o (jord m1 m2 i) ∧ (∃ ms, H' mo = some (.lst ms) ∧ RowsT H' ms (((jrooms m1 m2).take i).map (jrow m1 m2))) ∧
      ∃ x6 x7 x8 x9 x10 x11, σ = [some v, some u, some (.ref d), some (.ref o), some (.ref mo), some (.int (i : Int)), x6, x7, x8, x9, x10, x11], ⟨_, 0, rfl, Nat.zero_le _, J3, ⟨_, em3, rfl, fun j row e => by simp at e⟩, _, _, _, _, _, _, rfl⟩, ?_⟩
    rintro m σ H4 ⟨i, rfl, hi, J4, ⟨ms, em4, rt4⟩, x6, x7, x8, x9, x10, x11, rfl⟩
    obtain ⟨ws, eo4, pw4⟩ := J4.ord
    refine ⟨_, rfl, _, rfl, o, _, rfl, .inl (SqL.of eo4), _, _, rfl, rfl, _, rfl, ?_⟩
    rw [pw4.1]
    by_cases hlt : i < (jord m1 m2 i).length
    · rw [decide_eq_true (show (i : Int) < (((jord m1 m2 i).length : Nat) : Int) by omega)]
      obtain ⟨r, hr⟩ : ∃ r, (jord m1 m2 i)[i]? = some r := ⟨_, List.getElem?_eq_getElem hlt⟩
      have hrP := jord_in M1 M2 i r (List.mem_of_getElem? hr)
      obtain ⟨row1, hrow1, erow1, hl1, hin1⟩ := M1.rowI_at (mem_allP.mp hrP).1
      obtain ⟨row2, hrow2, erow2, hl2, hin2⟩ := M2.rowI_at (mem_allP.mp hrP).2
      obtain ⟨bw, hbw, ebw⟩ := pw4.2 i r hr
      have hp1 := mem_iota.mp (mem_allP.mp hrP).1
      have hp2 := mem_iota.mp (mem_allP.mp hrP).2
      have hJr : (jrooms m1 m2)[i]? = some r := by
        obtain ⟨q, e⟩ := jord_pre M1 M2 i
        rw [e, List.getElem?_append_left hlt]
        exact hr
      refine iteT ⟨fun σ' H' => (i + 1 ≤ (jord m1 m2 (i + 1)).length ∧ JW P w H H' d o (jord m1 m2 (i + 1)) ∧ (∃ ms, H' mo = some (.lst ms) ∧ RowsT H' ms (((jrooms m1 m2).take (i + 1)).map (jrow m1 m2))) ∧
        ∃ x6 x7 x8 x9 x10 x11, σ' = [some v, some u, some (.ref d), some (.ref o), some (.ref mo), some (.int ((i + 1 : Nat) : Int)), x6, x7, x8, x9, x10, x11]), fun σ' H' h => ⟨m1.length * m2.length + 1 - (i + 1), by have := hJ i; omega, i + 1, rfl, h.1, h.2.1, h.2.2.1, h.2.2.2⟩, ?_⟩
      refine ⟨_, rfl, _, rfl, o, _, _, _, rfl, rfl, SqL.of eo4, atI_nat hbw, bw, _, rfl, .inl (.inl ebw), rfl, ?_⟩
      refine ⟨_, _, rfl, _, _, rfl, rfl, by show 0 ≤ sizeLine; exact szl rfl, fun rl hrl => ?_⟩
      have J5 : JW P w H (upd H4 rl (.lst [])) d o (jord m1 m2 i) := J4.new hrl
      have rl0 : H rl = none := same_none J4.same hrl
      have rld : rl ≠ d := fun e => by obtain ⟨kvs, e1, _⟩ := J4.dict; rw [e, e1] at hrl; cases hrl
      have rlo : rl ≠ o := fun e => by rw [e, eo4] at hrl; cases hrl
      have rlm : rl ≠ mo := fun e => by rw [e, em4] at hrl; cases hrl
      have el5 : upd H4 rl (.lst []) rl = some (.lst ([] : List V)) := upd_same
      have em5 : upd H4 rl (.lst []) mo = some (.lst ms) := (Same.new hrl) _ _ em4
      have rt5 := rt4.keep (TupK.same (Same.new (o := .lst []) hrl))
      show gName 8 _ _ (upd H4 rl (.lst [])) _
      generalize upd H4 rl (.lst []) = H5 at J5 el5 em5 rt5 ⊢
      obtain ⟨a1, xs1, c1, rfl, na1, ea1, hat1, nc1, ec1⟩ := mvQ_at r1 hp1.1 hrow1
      obtain ⟨a2, xs2, c2, rfl, na2, ea2, hat2, nc2, ec2⟩ := mvQ_at r2 hp2.1 hrow2
      have S5 := J5.same
      refine ⟨_, rfl, _, rfl, a1, xs1, _, _, rfl, rfl, sqo (ea1.imp (S5 _ _) (S5 _ _)), hat1, c1, row1.map V.int, rfl, .inr (S5 _ _ ec1), fun J G wJ hG => ?_⟩
      have hpl : (prow m1 m2 r).length = k := prow_len M1 M2 hrP
      refine for_it wJ (fun t σ H' => Iv (JW P w H H' d o (jgrow m1 m2 i r t) ∧ H' rl = some (.lst ((((prow m1 m2 r).take t).map (jix m1 m2)).map V.int)) ∧ H' mo = some (.lst ms) ∧ RowsT H' ms (((jrooms m1 m2).take i).map (jrow m1 m2)) ∧ ∃ x9 x10 x11, σ = [some (.ref a1), some (.ref a2), some (.ref d), some (.ref o), some (.ref mo), some (.int (i : Int)), some (.int r.1), some (.int r.2), some (.ref rl), x9, x10, x11])) (.of ⟨by rw [jgrow_zero]; exact J5, el5, em5, rt5, _, _, _, rfl⟩) (fun _ _ _ _ hp => ?_) (fun t y σ H6 H7 ht hp hy => ?_) (fun σ H6 hp => ?_)
      · obtain ⟨J6, _⟩ := hp.get
        exact hG _ ((J6.same _ _ ec1).trans (S5 _ _ ec1).symm)
      · obtain ⟨J6, el6, em6, rt6, x9, x10, x11, rfl⟩ := hp.get
        obtain ⟨p, y1, y2, rfl, hp0, rfl, e1, e2⟩ := hy
        cases e1
        obtain ⟨tt, htt, rfl⟩ : ∃ tt, row1[t]? = some tt ∧ y2 = .int tt := by
          have e2 : (row1.map V.int)[t]? = some y2 := e2
          rw [List.getElem?_map] at e2
          cases e : row1[t]? with
          | none => rw [e] at e2; cases e2
          | some z => rw [e] at e2; exact ⟨z, rfl, (Option.some.inj e2).symm⟩
        have htl : t < k := by rw [← hl1]; exact (List.getElem?_eq_some_iff.mp htt).1
        have J7 : JW P w H (upd H6 p (.tup [.int ((t : Nat) : Int), .int tt])) d o (jgrow m1 m2 i r t) := J6.new hp0
        have s7 : Same H6 (upd H6 p (.tup [.int ((t : Nat) : Int), .int tt])) := Same.new hp0
        have el7 := s7 _ _ el6
        have em7 := s7 _ _ em6
        have rt7 := rt6.keep (TupK.same s7)
        refine gTup2 ?_
        generalize upd H6 p (.tup [.int ((t : Nat) : Int), .int tt]) = H7 at J7 el7 em7 rt7 ⊢
        clear s7 J6 el6 em6 rt6
        have S7 := J7.same
        have hx : (prow m1 m2 r)[t]? = some (tt, row2.getD t r.2) := by
          have h2 : t < row2.length := by omega
          rw [prow_at, erow1, erow2, htt, List.getElem?_eq_getElem h2, List.getD_eq_getElem?_getD, List.getElem?_eq_getElem h2]
          rfl
        refine ⟨_, rfl, _, rfl, _, rfl, a2, xs2, _, _, rfl, rfl, sqo (ea2.imp (S7 _ _) (S7 _ _)), hat2, _, rfl, c2, _, _, _, rfl, rfl, .inr (.inl (.inl (S7 _ _ ec2))), row_at (by omega) r.2, by show 2 ≤ sizeLine; exact szl rfl, fun bp hbp => ?_⟩
        generalize row2.getD t r.2 = uu at hx ⊢
        have J8 : JW P w H (upd H7 bp (.tup [.int tt, .int uu])) d o (jgrow m1 m2 i r t) := J7.new hbp
        have s8 : Same H7 (upd H7 bp (.tup [.int tt, .int uu])) := Same.new hbp
        have el8 := s8 _ _ el7
        have em8 := s8 _ _ em7
        have rt8 := rt7.keep (TupK.same s8)
        have ebp : upd H7 bp (.tup [.int tt, .int uu]) bp = some (.tup [.int tt, .int uu]) := upd_same
        show gName 11 _ _ (upd H7 bp (.tup [.int tt, .int uu])) _
        generalize upd H7 bp (.tup [.int tt, .int uu]) = H8 at J8 el8 em8 rt8 ebp ⊢
        clear s8 J7 el7 em7 rt7
        have hlen := jgrow_len M1 M2 hr t
        have big : ∀ {n : Nat}, n ≤ 3600 → n < sizeLine := fun {n} h => Nat.lt_of_le_of_lt h (by decide)
        refine ⟨fun σ' H' => JW P w H H' d o (jgrow m1 m2 i r (t + 1)) ∧ H' rl = some (.lst ((((prow m1 m2 r).take t).map (jix m1 m2)).map V.int)) ∧ H' mo = some (.lst ms) ∧ RowsT H' ms (((jrooms m1 m2).take i).map (jrow m1 m2)) ∧ H' bp = some (.tup [.int tt, .int uu]) ∧ σ' = [some (.ref a1), some (.ref a2), some (.ref d), some (.ref o), some (.ref mo), some (.int (i : Int)), some (.int r.1), some (.int r.2), some (.ref rl), some (.int (t : Int)), some (.int tt), some (.ref bp)], ?_, ?_⟩
        · obtain ⟨kvs, ed8, nk8, nd8⟩ := J8.dict
          obtain ⟨ws8, eo8, pw8⟩ := J8.ord
          refine ⟨_, rfl, _, rfl, d, kvs, bp, keyR (tt, uu), rfl, rfl, ed8, nk8, NV.pq ebp, keyPQ_depth _ _, _, rfl, ?_⟩
          by_cases hm : (tt, uu) ∈ jgrow m1 m2 i r t
          · rw [nd8.lookY jgrow_nodup hm]
            refine iteF ⟨?_, el8, em8, rt8, ebp, rfl⟩
            rw [jgrow_yes hx hm]
            exact J8
          · rw [nd8.lookN0 jgrow_nodup hm]
            obtain ⟨J9, tk9⟩ := J8.grow (r := (tt, uu)) ed8 nk8 nd8 eo8 pw8 ebp
            have hwk : ((ws8.length : Nat) : Int) = ((kvs.length : Nat) : Int) := by rw [pw8.1, nd8.len]
            refine iteT ⟨_, rfl, o, _, rfl, .inl (SqL.of eo8), _, rfl, _, rfl, d, kvs, bp, keyR (tt, uu), rfl, rfl, ed8, nk8, NV.pq ebp, keyPQ_depth _ _, nd8.lookN0 jgrow_nodup hm, big (by rw [nd8.len]; omega), ?_⟩
            rw [hwk]
            have eo9 : upd H8 d (ndO P w d (kvs ++ [(keyR (tt, uu), bp, .int (kvs.length : Int))])) o = some (.lst ws8) := by rw [upd_ne (Ne.symm J8.ne)]; exact eo8
            have fin : JW P w H (upd (upd H8 d (ndO P w d (kvs ++ [(keyR (tt, uu), bp, .int (kvs.length : Int))]))) o (.lst (ws8 ++ [V.ref bp]))) d o (jgrow m1 m2 i r (t + 1)) ∧ (upd (upd H8 d (ndO P w d (kvs ++ [(keyR (tt, uu), bp, .int (kvs.length : Int))]))) o (.lst (ws8 ++ [V.ref bp]))) rl = some (.lst ((((prow m1 m2 r).take t).map (jix m1 m2)).map V.int)) ∧ (upd (upd H8 d (ndO P w d (kvs ++ [(keyR (tt, uu), bp, .int (kvs.length : Int))]))) o (.lst (ws8 ++ [V.ref bp]))) mo = some (.lst ms) ∧ RowsT (upd (upd H8 d (ndO P w d (kvs ++ [(keyR (tt, uu), bp, .int (kvs.length : Int))]))) o (.lst (ws8 ++ [V.ref bp]))) ms (((jrooms m1 m2).take i).map (jrow m1 m2)) ∧ (upd (upd H8 d (ndO P w d (kvs ++ [(keyR (tt, uu), bp, .int (kvs.length : Int))]))) o (.lst (ws8 ++ [V.ref bp]))) bp = some (.tup [.int tt, .int uu]) := by
              refine ⟨by rw [jgrow_no hx hm]; exact J9, ?_, ?_, rt8.keep tk9, tk9 _ _ ebp⟩
              · rw [upd_ne rlo, upd_ne rld]; exact el8
              · rw [upd_ne moo, upd_ne mod]; exact em8
            exact ⟨_, rfl, .inl ⟨rfl, _, SqL.of eo9⟩, _, rfl, o, ws8, .ref bp, rfl, rfl, eo9, big (by rw [pw8.1]; omega), fin.1, fin.2.1, fin.2.2.1, fin.2.2.2.1, fin.2.2.2.2, rfl⟩
        · rintro σ' H9 ⟨J9, el9, em9, rt9, ebp9, rfl⟩
          obtain ⟨kvs, ed9, nk9, nd9⟩ := J9.dict
          have hm9 : (tt, uu) ∈ jgrow m1 m2 i r (t + 1) := by
            by_cases hm : (tt, uu) ∈ jgrow m1 m2 i r t
            · rw [jgrow_yes hx hm]; exact hm
            · rw [jgrow_no hx hm]; exact List.mem_append_right _ (List.mem_singleton.mpr rfl)
          have hix := jgrow_ix M1 M2 hr hm9
          refine ⟨_, rfl, .inl ⟨rfl, _, SqL.of el9⟩, _, rfl, _, rfl, d, kvs, bp, keyR (tt, uu), _, rfl, rfl, ed9, nk9, NV.pq ebp9, keyPQ_depth _ _, nd9.lookY jgrow_nodup hm9, rl, _, _, rfl, rfl, el9, big (by rw [List.length_map, List.length_map, List.length_take]; omega), .of ⟨J9.other rl0 rld rlo (fun ys e => by rw [el9] at e; cases e), ?_, by rw [upd_ne (Ne.symm rlm)]; exact em9, rt9.keep (TupK.upd fun ys e => by rw [el9] at e; cases e), _, _, _, rfl⟩⟩
          rw [upd_same, take_snoc hx, List.map_append, List.map_append, ← hix]
          rfl
      · obtain ⟨J6, el6, em6, rt6, x9, x10, x11, rfl⟩ := hp.get
        rw [List.length_map, hl1] at J6 el6
        rw [jgrow_all hr (by omega)] at J6
        rw [List.take_of_length_le (by omega)] at el6
        have erow : ((prow m1 m2 r).map (jix m1 m2)).map V.int = (jrow m1 m2 r).map V.int := rfl
        rw [erow] at el6
        refine ⟨_, rfl, .inl ⟨rfl, _, SqL.of em6⟩, _, rfl, rl, _, rfl, .inl ⟨SqL.of el6, fun tp htp => ?_⟩⟩
        have J7 : JW P w H (upd H6 tp (.tup ((jrow m1 m2 r).map V.int))) d o (jord m1 m2 (i + 1)) := J6.new htp
        have s7 : Same H6 (upd H6 tp (.tup ((jrow m1 m2 r).map V.int))) := Same.new htp
        have em7 := s7 _ _ em6
        have rt7 := rt6.keep (TupK.same s7)
        have etp : upd H6 tp (.tup ((jrow m1 m2 r).map V.int)) tp = some (.tup ((jrow m1 m2 r).map V.int)) := upd_same
        have hi2 : i + 1 ≤ (jord m1 m2 (i + 1)).length := by
          obtain ⟨q, e2⟩ := ordN_pre1 (row := prow m1 m2) (r0 := (0, 0)) i
          have e3 : (jord m1 m2 (i + 1)).length = (jord m1 m2 i).length + q.length := by
            unfold jord
            rw [e2, List.length_append]
          by_cases hq : q.length = 0
          · omega
          · omega
        generalize upd H6 tp (.tup ((jrow m1 m2 r).map V.int)) = H7 at J7 em7 rt7 etp ⊢
        have tk : TupK H7 (upd H7 mo (.lst (ms ++ [V.ref tp]))) := TupK.upd fun ys e => by rw [em7] at e; cases e
        refine ⟨mo, _, _, rfl, rfl, em7, Nat.lt_of_le_of_lt (m := 3600) (by rw [rt7.1, List.length_map, List.length_take]; have := hJ i; omega) (by decide), ?_⟩
        have fin : JW P w H (upd H7 mo (.lst (ms ++ [V.ref tp]))) d o (jord m1 m2 (i + 1)) ∧ ∃ ms', (upd H7 mo (.lst (ms ++ [V.ref tp]))) mo = some (.lst ms') ∧ RowsT (upd H7 mo (.lst (ms ++ [V.ref tp]))) ms' (((jrooms m1 m2).take (i + 1)).map (jrow m1 m2)) := by
          refine ⟨J7.other mo0 mod moo (fun ys e => by rw [em7] at e; cases e), _, upd_same, ?_⟩
          rw [take_snoc hJr, List.map_append]
          exact (rt7.keep tk).snoc (tk _ _ etp)
        exact ⟨_, rfl, _, _, rfl, rfl, hi2, fin.1, fin.2, _, _, _, _, _, _, rfl⟩
    · rw [decide_eq_false (show ¬ (i : Int) < (((jord m1 m2 i).length : Nat) : Int) by omega)]
      have ej : jord m1 m2 i = jrooms m1 m2 := jord_stop M1 M2 (by omega)
      rw [ej] at pw4 hi hlt
      rw [List.take_of_length_le (by omega)] at rt4
      refine iteF ⟨_, rfl, _, rfl, by show 2 ≤ sizeLine; exact szl rfl, fun p hp => ?_⟩
      have s5 : Same H4 (upd H4 p (.tup [.ref o, .ref mo])) := Same.new hp
      exact kk p o mo ws _ (J4.same.trans s5) upd_same (s5 _ _ eo4) (pw4.keep (TupK.same s5)) (.lst (by simp) (s5 _ _ em4) (rt4.keep (TupK.same s5)).rps)
end

/-! ### check_same_letters, met, the operators -/
open MA
abbrev sSame : Stmt := top 33
abbrev sMet : Stmt := top 34
abbrev sAnd : Stmt := sub 29 7
abbrev sOr : Stmt := sub 29 8
abbrev sSub : Stmt := sub 29 9
abbrev sInv : Stmt := sub 29 10
def spSame (ad : Ad) : Sp := fun vs H Q E => ∃ (U1 U2 : List Addr) (x y : Addr) (al1 al2 : Str) (m1 m2 : List (List Int)) (g1 g2 : List Int), vs = [.ref x, .ref y] ∧ RdAt ad U1 H x al1 m1 g1 ∧ RdAt ad U2 H y al2 m2 g2 ∧ (al1 = al2 → Q .non H) ∧ (al1 ≠ al2 → Ex ad .unlike (.str "alphabet") H E)
theorem op_notInQ {X : Cx} {K : PySem.W.Frag} (h : X.K = K) : OpR X (compareOp .NotIn) (rIn K true) := by
  subst h
  exact op_notIn_seq
theorem MvQ.nil {S : List Addr} {H : Hp} {v : V} {mv : List (List Int)} (r : MvQ S H v mv) : MvQ [] H v mv := by
  obtain ⟨a, xs, rfl, ha, e, rs⟩ := r.ex
  exact ⟨a, xs, rfl, by simp, e, rs.less fun _ q => by cases q⟩
theorem MvQ.ofL {S : List Addr} {H : Hp} {v : V} {mv : List (List Int)} (r : Rp S H v (.lst (mv.map rowT))) : MvQ S H v mv := by
  cases r with
  | lst n e rs => exact ⟨_, _, rfl, n, .inl e, rs⟩
theorem jgood_at {m1 m2 : List (List Int)} {acc : Int × Int → Bool} {i : Nat} (h : i < (jrooms m1 m2).length) : accI (jgood m1 m2 acc) ((i : Nat) : Int) = acc ((jrooms m1 m2).getD i (0, 0)) := by
  unfold accI jgood
  cases ha : acc ((jrooms m1 m2).getD i (0, 0)) with
  | true => exact decide_eq_true (List.mem_map.mpr ⟨i, List.mem_filter.mpr ⟨List.mem_range.mpr h, ha⟩, rfl⟩)
  | false =>
    refine decide_eq_false fun z => ?_
    obtain ⟨j, hj, e⟩ := List.mem_map.mp z
    have e2 : j = i := by omega
    have h2 := (List.mem_filter.mp hj).2
    rw [e2, ha] at h2
    cases h2
theorem jmarks (m1 m2 : List (List Int)) (acc : Int × Int → Bool) : marksL (jmoves m1 m2).length (jgood m1 m2 acc) = (jrooms m1 m2).map fun r => V.bl (acc r) := by
  unfold marksL
  rw [jmoves_len]
  refine List.ext_getElem? fun i => ?_
  rw [List.getElem?_map, List.getElem?_map]
  by_cases h : i < (jrooms m1 m2).length
  · rw [iota_at h, List.getElem?_eq_getElem h]
    show some (V.bl (accI (jgood m1 m2 acc) (i : Int))) = some (V.bl (acc (jrooms m1 m2)[i]))
    rw [jgood_at h, List.getD_eq_getElem?_getD, List.getElem?_eq_getElem h]
    rfl
  · rw [List.getElem?_eq_none (by rw [iota_len]; omega), List.getElem?_eq_none (by omega)]
    rfl
/-- a comprehension over pairs -/
theorem lc_P {K : PySem.W.Frag} {a : Addr} {ws : List V} {Lp : List (Int × Int)} {te : TE} {vs : List Nat} {σ : L2.St} {H1 : Hp} {L : Addr} {Qd : Hp → Prop} {i1 i2 : Nat} (f : Int × Int → V) (e : H1 a = some (.lst ws)) (pw : PrW H1 ws Lp) (hL : H1 L = none) (hn : Lp.length ≤ 3600) (hw : ∀ x y, wipe (((wipe σ vs).set i1 (some x)).set i2 (some y)) vs = wipe σ vs)
    (hs : ∀ r ∈ Lp, ∀ H, Same H1 H → ∀ Kt : V → Hp → Prop, Kt (f r) H → te (((wipe σ vs).set i1 (some (.int r.1))).set i2 (some (.int r.2))) H Kt) (hd : ∀ H, Same H1 H → H L = some (.lst (Lp.map f)) → Qd H) :
    ∃ W : Nat → Nat → Hp → Prop, (∃ m, W 0 m (upd H1 L (.lst []))) ∧ ∀ i m H, W i m H →
      ((Itl K a).stop i H ∧ Qd H) ∨ ((Itl K a).go i H ∧ ∃ Nx : Hp → Prop, (∀ H', Nx H' → ∃ m', m' < m ∧ W (i + 1) m' H') ∧ ∀ x H', (Itl K a).yld i H x H' → gTup K 2 (gCons (gName i1) (gCons (gName i2) gNil)) x (wipe σ vs) H' fun σ2 H2 => wipe σ2 vs = wipe σ vs ∧ tYes σ2 H2 fun b H3 =>
        if b = true then te σ2 H3 fun y H4 => ∃ acc, H4 L = some (.lst acc) ∧ acc.length < sizeLine ∧ Nx (upd H4 L (.lst (acc ++ [y]))) else Nx H3) := by
  refine lc_it (walk_list (K := K) (a := a) (xs := ws)) (fun i H => Same H1 H ∧ H L = some (.lst ((Lp.take i).map f))) ⟨Same.new hL, by rw [upd_same]; rfl⟩ (fun i H _ p => SqL.of (p.1 _ _ e)) (fun i x H H' hi p y => ?_) (fun H p => ?_)
  · obtain ⟨rfl, hx⟩ := y
    obtain ⟨s, el⟩ := p
    have hl : i < Lp.length := by rw [← pw.1]; exact hi
    obtain ⟨b, hb, eb⟩ := pw.2 i _ (List.getElem?_eq_getElem hl)
    have ex : x = .ref b := by
      have h2 : ws[i]? = some x := hx
      rw [hb] at h2
      exact (Option.some.inj h2).symm
    subst ex
    refine ⟨b, _, rfl, .inl (.inl (s _ _ eb)), rfl, _, _, rfl, _, _, rfl, rfl, hw _ _, yes_go ?_⟩
    refine hs _ (List.getElem_mem hl) H' s _ ⟨_, el, Nat.lt_of_le_of_lt (m := 3600) (by rw [List.length_map, List.length_take]; omega) (by decide), same_upd s hL, ?_⟩
    rw [upd_same, take_snoc (List.getElem?_eq_getElem hl), List.map_append]
    rfl
  · obtain ⟨s, el⟩ := p
    rw [pw.1, List.take_length] at el
    exact hd H s el
/-- which joint rooms are wanted -/
def wantR (g1 g2 ws : List Int) (r : Int × Int) : Bool := decide (((if accI g1 r.1 = true then 1 else 0) + (if accI g2 r.2 = true then 2 else 0) : Int) ∈ ws)
def spMet (ad : Ad) : Sp := fun vs H Q E => ∃ (U1 U2 U : List Addr) (x y t : Addr) (al1 al2 : Str) (m1 m2 : List (List Int)) (g1 g2 ws : List Int), vs = [.ref x, .ref y, .ref t] ∧ RdAt ad U1 H x al1 m1 g1 ∧ RdAt ad U2 H y al2 m2 g2 ∧ H t = some (.tup (ws.map V.int)) ∧ alOk al1 = true ∧ al1.length ≤ 3 ∧ (∀ a ∈ U, ∃ xs, H a = some (.lst xs)) ∧
  (al1 ≠ al2 → Ex ad .unlike (.str "alphabet") H E) ∧ (al1 = al2 → LeastW ad U al1 (jmoves m1 m2) (jgood m1 m2 (wantR g1 g2 ws)) H Q E)
/-- the reader of the texts told by f, or told that it has too many rooms -/
def OpTo (ad : Ad) (U : List Addr) (al : Str) (m1 m2 : List (List Int)) (g1 g2 : List Int) (f : Bool → Bool → Bool) (H : Hp) (Q : VK) (E : XK) : Prop := ∀ (lm : List (List Int)) (lg : List Int), CanonW al.length lm lg → (∀ w, accI lg (run (rowI lm) 0 w) = f (accI g1 (run (rowI m1) 0 w)) (accI g2 (run (rowI m2) 0 w))) →
  (lm.length ≤ 60 → ∀ (x : Addr) (H' : Hp), Same H H' → RdAt ad U H' x al lm lg → Q (.ref x) H') ∧ (60 < lm.length → Ex ad .many (.str "room") H E)
def spOp (ad : Ad) (f : Bool → Bool → Bool) : Sp := fun vs H Q E => ∃ (U1 U2 U : List Addr) (x y : Addr) (al1 al2 : Str) (m1 m2 : List (List Int)) (g1 g2 : List Int), vs = [.ref x, .ref y] ∧ RdAt ad U1 H x al1 m1 g1 ∧ RdAt ad U2 H y al2 m2 g2 ∧ alOk al1 = true ∧ al1.length ≤ 3 ∧ (∀ a ∈ U, ∃ xs, H a = some (.lst xs)) ∧
  (al1 ≠ al2 → Ex ad .unlike (.str "alphabet") H E) ∧ (al1 = al2 → OpTo ad U al1 m1 m2 g1 g2 f H Q E)
def spInv (ad : Ad) : Sp := fun vs H Q E => ∃ (U1 U : List Addr) (x : Addr) (al1 : Str) (m1 : List (List Int)) (g1 : List Int), vs = [.ref x] ∧ RdAt ad U1 H x al1 m1 g1 ∧ alOk al1 = true ∧ al1.length ≤ 3 ∧ (∀ a ∈ U, ∃ xs, H a = some (.lst xs)) ∧ OpTo ad U al1 m1 m1 g1 g1 (fun a _ => !a) H Q E
section
open PyProof.Rows
variable {P : Program} {w : World} {K : PySem.W.Frag} {mg : Str → Option Value} {base : Heap} {ad : Ad}
theorem scSame : FnScope ["one", "other"] ["one", "other"] (C8.fnScope sSame) := C8.fnScope_by (by decide +kernel)
theorem ok_same {f : Addr} {fd : FuncData} (R : RdC K ad.Reader) (F : C8.Def K mg "check_same_letters" sSame f fd) (b : Binds K fd ["one", "other"] []) (T : Txt mg) (O : Own K mg ad) (SU : Sup P w K mg ad .unlike) : CalZ ZT P w K mg base 1 "check_same_letters" (spSame ad) := by
  refine calZ (fun _ _ _ => trivial) F b scSame (fun vs H Q E h => ?_) (fun cdv A outer s H vs Q E hz hr h => ?_)
  · obtain ⟨U1, U2, x, y, al1, al2, m1, m2, g1, g2, rfl, _⟩ := h
    rfl
  · obtain ⟨U1, U2, x, y, al1, al2, m1, m2, g1, g2, rfl, rx, ry, k1, k2⟩ := h
    have sc := scSame
    obtain ⟨D0, fI, arg, ok, ST, hok⟩ := SU.ex
    obtain ⟨dx, vm, vg, ex, _, _⟩ := rx.ex
    obtain ⟨dy, wm, wg, ey, _, _⟩ := ry.ex
    refine ⟨_, -- check_same_letters: 0 one 1 other

      (pss_one (ps_if (pt_cmpR op_ne (pe_fldK (K := K) rfl (pv 0)) (pe_fldK (K := K) rfl (pv 1)) (nomark _)) 
        (pss_one (ps_raiseSup (okV := Er.okV .unlike) rfl takesG ST hok hr O.g_Unlike (pa_cons pe_str pa_nil))) pss_nil)), ?_⟩
    refine ⟨_, rfl, x, ad.Reader, dx, _, _, rfl, ex, R.cl, R.n1, rfl, _, rfl, y, ad.Reader, dy, _, _, rfl, ey, R.cl, R.n1, rfl, ?_⟩
    refine ⟨rfl, _, rfl, ?_⟩
    by_cases h : al1 = al2
    · rw [decide_eq_true (show V.str al1 = V.str al2 by rw [h])]
      exact iteEf rfl (k1 h)
    · rw [decide_eq_false (show ¬ V.str al1 = V.str al2 from fun z => h (V.str.inj z))]
      exact iteEt rfl ⟨_, rfl, ⟨_, rfl, by decide⟩, fun dd hdd => k2 h dd H (Same.refl _) hdd⟩
theorem scMet : FnScope ["one", "other", "wanted", "rooms", "moves", "first", "second", "marks", "a", "b"] ["one", "other", "wanted"] (C8.fnScope sMet) := C8.fnScope_by (by decide +kernel)
theorem ok_met {f : Addr} {fd : FuncData} (R : RdC K ad.Reader) (F : C8.Def K mg "met" sMet f fd) (b : Binds K fd ["one", "other", "wanted"] []) (T : Txt mg) (O : Own K mg ad) (c_check_same_letters : CalZ ZT P w K mg base 1 "check_same_letters" (spSame ad)) (c_joint_table : C8.Cal P w K mg base 1 "joint_table" spJoint []) (c_good_marks : C8.Cal P w K mg base 1 "good_marks" (spMarks ad) []) (c_reader_of_table : CalZ ZT P w K mg base 5 "reader_of_table" (spRdTab ad)) : CalZ ZT P w K mg base 6 "met" (spMet ad) := by
  refine calZ (fun _ _ _ => trivial) F b scMet (fun vs H Q E h => ?_) (fun cdv A outer s H vs Q E hz hr h => ?_)
  · obtain ⟨U1, U2, U, x, y, t, al1, al2, m1, m2, g1, g2, ws, rfl, _⟩ := h
    rfl
  · obtain ⟨U1, U2, U, x, y, t, al1, al2, m1, m2, g1, g2, ws, rfl, rx, ry, et, hok, hal, hU, k1, k2⟩ := h
    have sc := scMet
    have pw := passW (takesG (P := P) (w := w) (K := K) (mg := mg) (base := base) (N := ["one", "other", "wanted", "rooms", "moves", "first", "second", "marks", "a", "b"]) (qual := "met") (scope := C8.fnScope sMet) (f := f) (cd := cdv) (A := A) (outer := outer) (s := s) (H := H) (E := E))
    refine ⟨_, -- met: 0 one 1 other 2 wanted* 3 rooms 4 moves 5 first* 6 second* 7 marks 8 a 9 b

      (pss_cons (ps_expr (pe_z (E := WE (fun cls d _ H => E cls d H)) c_check_same_letters trivial hr (by decide) rfl pw (pa_cons (pv 0) (pa_cons (pv 1) pa_nil))))
      (pss_cons (ps_asg (C8.pe_c c_joint_table hr (by decide) rfl (pa_cons (pe_fldK (K := K) rfl (pv 0)) (pa_cons (pe_fldK (K := K) rfl (pv 1)) pa_nil))) (pg_tup rfl (pgs_cons (pg_name (i := 3) sc.nd rfl (Or.inl rfl)) (pgs_cons (pg_name (i := 4) sc.nd rfl (Or.inl rfl)) pgs_nil))))
      (pss_cons (ps_set (i := 5) sc.nd rfl (Or.inr rfl) (C8.pe_c c_good_marks hr (by decide) rfl (pa_cons (pv 0) pa_nil)))
      (pss_cons (ps_set (i := 6) sc.nd rfl (Or.inr rfl) (C8.pe_c c_good_marks hr (by decide) rfl (pa_cons (pv 1) pa_nil)))
      (pss_cons (ps_setLc (i := 7) (own := [("a", 8), ("b", 9)]) (g := gTup K 2 (gCons (gName 8) (gCons (gName 9) gNil))) rfl sc.nd rfl rfl (sw_true rfl rfl rfl (by decide +kernel)) (pi_list (pv 3)) (blkOk_by (own := [("a", 8), ("b", 9)]) (by kernel_rfl)) (fun _ _ _ _ _ => (pg_tup rfl (pgs_cons (pg_name (i := 8) sc.nd rfl (Or.inl rfl)) (pgs_cons (pg_name (i := 9) sc.nd rfl (Or.inl rfl)) pgs_nil)))) (fun _ _ _ _ _ => pts_nil) (fun _ _ _ _ _ => (pe_cmpR (op_inQ (K := K) rfl) (pe_op op_add (pe_ifExp (pt_val (pe_ix (ixLK (K := K) rfl) (pv 5) (pv 8) (fun _ _ => rfl))) pe_int pe_int) (pe_ifExp (pt_val (pe_ix (ixLK (K := K) rfl) (pv 6) (pv 9) (fun _ _ => rfl))) pe_int pe_int)) (pv 2) (by rfl))))
      (pss_one (ps_ret (pe_z (E := WE (fun cls d _ H => E cls d H)) c_reader_of_table trivial hr (by decide) rfl pw (pa_cons (pe_fldK (K := K) rfl (pv 0)) (pa_cons (pv 4) (pa_cons (pv 7) pa_nil))))))))))), ?_⟩
    refine ⟨_, rfl, _, rfl, U1, U2, x, y, al1, al2, m1, m2, g1, g2, rfl, rx, ry, fun hal12 => ?_, k1⟩
    subst hal12
    obtain ⟨dx, vm, vg, ex, rm, rg⟩ := rx.ex
    obtain ⟨dy, wm, wg, ey, sm, sg⟩ := ry.ex
    have M1 := rx.mach
    have M2 := ry.mach
    have ml1 := M1.most
    have ml2 := M2.most
    have hN : m1.length * m2.length ≤ 3600 := Nat.mul_le_mul ml1 ml2
    refine ⟨_, rfl, x, ad.Reader, dx, _, _, rfl, ex, R.cl, R.n2, rfl, _, rfl, y, ad.Reader, dy, _, _, rfl, ey, R.cl, R.n2, rfl, [], vm, wm, al1.length, m1, m2, g1, g2, rfl, (MvQ.ofT rm).nil, (MvQ.ofT sm).nil, M1.w, M2.w, hal, hN, fun p o mo ws1 H1 s1 ep eo pw1 rmo => ?_⟩
    refine ⟨p, _, rfl, .inl (.inl ep), rfl, _, _, rfl, _, _, rfl, rfl, ?_⟩
    refine ⟨_, rfl, U1, x, al1, m1, g1, rfl, rx.same s1, fun f1 H2 hf1 s2 ef1 => ?_⟩
    refine ⟨_, rfl, U2, y, al1, m2, g2, rfl, ry.same (s1.trans s2), fun f2 H3 hf2 s3 ef2 => ?_⟩
    have s23 := s2.trans s3
    have s13 := s1.trans s23
    have hjl : (jrooms m1 m2).length ≤ m1.length * m2.length := jord_len M1.w M2.w _
    have jm := jmach (acc := wantR g1 g2 ws) M1.w M2.w hN
    refine ⟨_, rfl, _, rfl, ⟨_, SqL.of (s23 _ _ eo)⟩, fun L hL => lc_P (fun r => V.bl (wantR g1 g2 ws r)) (s23 _ _ eo) (pw1.keep (TupK.same s23)) hL (by omega) (fun _ _ => rfl) (fun r hr H4 s4 Kt ht => ?_) (fun H4 s4 e4 => ?_)⟩
    · have hrP := jrooms_in M1.w M2.w r hr
      have hr1 := mem_iota.mp (mem_allP.mp hrP).1
      have hr2 := mem_iota.mp (mem_allP.mp hrP).2
      have at1 : ∀ {n : Nat} {g : List Int} {p : Int}, 0 ≤ p → p < (n : Int) → atI (marksL n g) p = some (.bl (accI g p)) := fun {n g p} h0 h1 => by
        rw [show p = ((p.toNat : Nat) : Int) by omega]
        refine atI_nat ?_
        unfold marksL
        rw [List.getElem?_map, iota_at (by omega)]
        rfl
      have ef1' := s4 _ _ (s3 _ _ ef1)
      have ef2' := s4 _ _ ef2
      have et' := s4 _ _ (s13 _ _ et)
      refine ⟨_, rfl, _, rfl, f1, _, _, _, rfl, rfl, SqL.of ef1', at1 hr1.1 hr1.2, _, rfl, ?_⟩
      unfold wantR at ht
      cases hA : accI g1 r.1 with
      | false =>
        refine iteF ⟨_, rfl, _, rfl, f2, _, _, _, rfl, rfl, SqL.of ef2', at1 hr2.1 hr2.2, _, rfl, ?_⟩
        cases hB : accI g2 r.2 with
        | false =>
          rw [hA, hB] at ht
          refine iteF ⟨_, _, rfl, rfl, _, rfl, t, _, rfl, .inr (.inl (.inl et')), rfl, flat_ints ws, ?_⟩
          rw [inV_ints]
          exact ht
        | true =>
          rw [hA, hB] at ht
          refine iteT ⟨_, _, rfl, rfl, _, rfl, t, _, rfl, .inr (.inl (.inl et')), rfl, flat_ints ws, ?_⟩
          rw [inV_ints]
          exact ht
      | true =>
        refine iteT ⟨_, rfl, _, rfl, f2, _, _, _, rfl, rfl, SqL.of ef2', at1 hr2.1 hr2.2, _, rfl, ?_⟩
        cases hB : accI g2 r.2 with
        | false =>
          rw [hA, hB] at ht
          refine iteF ⟨_, _, rfl, rfl, _, rfl, t, _, rfl, .inr (.inl (.inl et')), rfl, flat_ints ws, ?_⟩
          rw [inV_ints]
          exact ht
        | true =>
          rw [hA, hB] at ht
          refine iteT ⟨_, _, rfl, rfl, _, rfl, t, _, rfl, .inr (.inl (.inl et')), rfl, flat_ints ws, ?_⟩
          rw [inV_ints]
          exact ht
    · have s14 := s13.trans s4
      have s24 := s23.trans s4
      rw [← jmarks] at e4
      refine ⟨_, rfl, x, ad.Reader, dx, _, _, rfl, s14 _ _ ex, R.cl, R.n1, rfl, _, rfl, _, rfl, [], U, al1, .ref mo, L, jmoves m1 m2, jgood m1 m2 (wantR g1 g2 ws), rfl, hok, hal, MvQ.ofL (rmo.same s24), jm, e4, fun a ha => by obtain ⟨zs, e⟩ := hU a ha; exact ⟨zs, s14 _ _ e⟩, fun lm lg C ss => ?_⟩
      obtain ⟨q1, q2⟩ := k2 rfl lm lg C ss
      exact ⟨fun h z H' s r => q1 h z H' (s14.trans s) r, fun h dd H' s hd => q2 h dd H' (s14.trans s) hd⟩
/-- an operator is told by the rooms wanted -/
theorem op_least {ad : Ad} {U : List Addr} {al : Str} {m1 m2 : List (List Int)} {g1 g2 ws : List Int} {f : Bool → Bool → Bool} {H : Hp} {Q : VK} {E : XK} (M1 : MachW al.length m1 g1) (M2 : MachW al.length m2 g2) (hf : ∀ r, wantR g1 g2 ws r = f (accI g1 r.1) (accI g2 r.2)) (k : OpTo ad U al m1 m2 g1 g2 f H Q E) : LeastW ad U al (jmoves m1 m2) (jgood m1 m2 (wantR g1 g2 ws)) H Q E := fun lm lg C ss => k lm lg C fun w => by
  have h := ss w
  rw [jset M1 M2 w, hf] at h
  exact h.symm
theorem want3 (g1 g2 : List Int) (r : Int × Int) : wantR g1 g2 [3] r = (accI g1 r.1 && accI g2 r.2) := by
  unfold wantR
  cases accI g1 r.1 <;> cases accI g2 r.2 <;> decide
theorem want123 (g1 g2 : List Int) (r : Int × Int) : wantR g1 g2 [1, 2, 3] r = (accI g1 r.1 || accI g2 r.2) := by
  unfold wantR
  cases accI g1 r.1 <;> cases accI g2 r.2 <;> decide
theorem want1 (g1 g2 : List Int) (r : Int × Int) : wantR g1 g2 [1] r = (accI g1 r.1 && !accI g2 r.2) := by
  unfold wantR
  cases accI g1 r.1 <;> cases accI g2 r.2 <;> decide
theorem scAnd : FnScope ["self", "other"] ["self", "other"] (C8.fnScope sAnd) := C8.fnScope_by (by decide +kernel)
theorem ok_and {f : Addr} {fd : FuncData} (R : RdC K ad.Reader) (me : Meth K ad.Reader "__and__" f) (F : C8.Fun K "__and__" "Reader.__and__" sAnd f fd) (b : Binds K fd ["self", "other"] []) (T : Txt mg) (c_met : CalZ ZT P w K mg base 6 "met" (spMet ad)) : MetZ P w K mg base 7 ad.Reader "__and__" (spOp ad fun a b => a && b) := by
  refine metZ R.cl me F b scAnd (fun vs H Q E h => ?_) (fun cdv A outer s H vs Q E hr h => ?_)
  · obtain ⟨U1, U2, U, x, y, al1, al2, m1, m2, g1, g2, rfl, _⟩ := h
    rfl
  · obtain ⟨U1, U2, U, x, y, al1, al2, m1, m2, g1, g2, rfl, rx, ry, hok, hal, hU, k1, k2⟩ := h
    have sc := scAnd
    have pw := passW (takesG (P := P) (w := w) (K := K) (mg := mg) (base := base) (N := ["self", "other"]) (qual := "Reader.__and__") (scope := C8.fnScope sAnd) (f := f) (cd := cdv) (A := A) (outer := outer) (s := s) (H := H) (E := E))
    refine ⟨_, -- Reader.__and__: 0 self 1 other

      (pss_one (ps_ret (pe_z (E := WE (fun cls d _ H => E cls d H)) c_met trivial hr (by decide) rfl pw (pa_cons (pv 0) (pa_cons (pv 1) (pa_cons (pe_tup (pa_cons pe_int pa_nil)) pa_nil)))))), ?_⟩
    refine ⟨_, rfl, _, rfl, by show 1 ≤ sizeLine; exact szl rfl, fun t ht => ?_⟩
    have s1 : Same H (upd H t (.tup [.int 3])) := Same.new ht
    refine ⟨U1, U2, U, x, y, t, al1, al2, m1, m2, g1, g2, [3], rfl, rx.same s1, ry.same s1, upd_same, hok, hal, fun a ha => by obtain ⟨zs, e⟩ := hU a ha; exact ⟨zs, s1 _ _ e⟩, fun h dd H' s hd => k1 h dd H' (s1.trans s) hd, fun h => ?_⟩
    subst h
    refine op_least rx.mach.w ry.mach.w (want3 g1 g2) fun lm lg C ss => ?_
    obtain ⟨q1, q2⟩ := k2 rfl lm lg C ss
    exact ⟨fun h z H' s r => q1 h z H' (s1.trans s) r, fun h dd H' s hd => q2 h dd H' (s1.trans s) hd⟩
theorem scOr : FnScope ["self", "other"] ["self", "other"] (C8.fnScope sOr) := C8.fnScope_by (by decide +kernel)
theorem ok_or {f : Addr} {fd : FuncData} (R : RdC K ad.Reader) (me : Meth K ad.Reader "__or__" f) (F : C8.Fun K "__or__" "Reader.__or__" sOr f fd) (b : Binds K fd ["self", "other"] []) (T : Txt mg) (c_met : CalZ ZT P w K mg base 6 "met" (spMet ad)) : MetZ P w K mg base 7 ad.Reader "__or__" (spOp ad fun a b => a || b) := by
  refine metZ R.cl me F b scOr (fun vs H Q E h => ?_) (fun cdv A outer s H vs Q E hr h => ?_)
  · obtain ⟨U1, U2, U, x, y, al1, al2, m1, m2, g1, g2, rfl, _⟩ := h
    rfl
  · obtain ⟨U1, U2, U, x, y, al1, al2, m1, m2, g1, g2, rfl, rx, ry, hok, hal, hU, k1, k2⟩ := h
    have sc := scOr
    have pw := passW (takesG (P := P) (w := w) (K := K) (mg := mg) (base := base) (N := ["self", "other"]) (qual := "Reader.__or__") (scope := C8.fnScope sOr) (f := f) (cd := cdv) (A := A) (outer := outer) (s := s) (H := H) (E := E))
    refine ⟨_, -- Reader.__or__: 0 self 1 other

      (pss_one (ps_ret (pe_z (E := WE (fun cls d _ H => E cls d H)) c_met trivial hr (by decide) rfl pw (pa_cons (pv 0) (pa_cons (pv 1) (pa_cons (pe_tup (pa_cons pe_int (pa_cons pe_int (pa_cons pe_int pa_nil)))) pa_nil)))))), ?_⟩
    refine ⟨_, rfl, _, rfl, by show 3 ≤ sizeLine; exact szl rfl, fun t ht => ?_⟩
    have s1 : Same H (upd H t (.tup [.int 1, .int 2, .int 3])) := Same.new ht
    refine ⟨U1, U2, U, x, y, t, al1, al2, m1, m2, g1, g2, [1, 2, 3], rfl, rx.same s1, ry.same s1, upd_same, hok, hal, fun a ha => by obtain ⟨zs, e⟩ := hU a ha; exact ⟨zs, s1 _ _ e⟩, fun h dd H' s hd => k1 h dd H' (s1.trans s) hd, fun h => ?_⟩
    subst h
    refine op_least rx.mach.w ry.mach.w (want123 g1 g2) fun lm lg C ss => ?_
    obtain ⟨q1, q2⟩ := k2 rfl lm lg C ss
    exact ⟨fun h z H' s r => q1 h z H' (s1.trans s) r, fun h dd H' s hd => q2 h dd H' (s1.trans s) hd⟩
theorem scSub : FnScope ["self", "other"] ["self", "other"] (C8.fnScope sSub) := C8.fnScope_by (by decide +kernel)
theorem ok_sub {f : Addr} {fd : FuncData} (R : RdC K ad.Reader) (me : Meth K ad.Reader "__sub__" f) (F : C8.Fun K "__sub__" "Reader.__sub__" sSub f fd) (b : Binds K fd ["self", "other"] []) (T : Txt mg) (c_met : CalZ ZT P w K mg base 6 "met" (spMet ad)) : MetZ P w K mg base 7 ad.Reader "__sub__" (spOp ad fun a b => a && !b) := by
  refine metZ R.cl me F b scSub (fun vs H Q E h => ?_) (fun cdv A outer s H vs Q E hr h => ?_)
  · obtain ⟨U1, U2, U, x, y, al1, al2, m1, m2, g1, g2, rfl, _⟩ := h
    rfl
  · obtain ⟨U1, U2, U, x, y, al1, al2, m1, m2, g1, g2, rfl, rx, ry, hok, hal, hU, k1, k2⟩ := h
    have sc := scSub
    have pw := passW (takesG (P := P) (w := w) (K := K) (mg := mg) (base := base) (N := ["self", "other"]) (qual := "Reader.__sub__") (scope := C8.fnScope sSub) (f := f) (cd := cdv) (A := A) (outer := outer) (s := s) (H := H) (E := E))
    refine ⟨_, -- Reader.__sub__: 0 self 1 other

      (pss_one (ps_ret (pe_z (E := WE (fun cls d _ H => E cls d H)) c_met trivial hr (by decide) rfl pw (pa_cons (pv 0) (pa_cons (pv 1) (pa_cons (pe_tup (pa_cons pe_int pa_nil)) pa_nil)))))), ?_⟩
    refine ⟨_, rfl, _, rfl, by show 1 ≤ sizeLine; exact szl rfl, fun t ht => ?_⟩
    have s1 : Same H (upd H t (.tup [.int 1])) := Same.new ht
    refine ⟨U1, U2, U, x, y, t, al1, al2, m1, m2, g1, g2, [1], rfl, rx.same s1, ry.same s1, upd_same, hok, hal, fun a ha => by obtain ⟨zs, e⟩ := hU a ha; exact ⟨zs, s1 _ _ e⟩, fun h dd H' s hd => k1 h dd H' (s1.trans s) hd, fun h => ?_⟩
    subst h
    refine op_least (f := fun a b => a && !b) rx.mach.w ry.mach.w (want1 g1 g2) fun lm lg C ss => ?_
    obtain ⟨q1, q2⟩ := k2 rfl lm lg C ss
    exact ⟨fun h z H' s r => q1 h z H' (s1.trans s) r, fun h dd H' s hd => q2 h dd H' (s1.trans s) hd⟩
theorem scInv : FnScope ["self", "room"] ["self"] (C8.fnScope sInv) := C8.fnScope_by (by decide +kernel)
theorem ok_inv {f : Addr} {fd : FuncData} (R : RdC K ad.Reader) (me : Meth K ad.Reader "__invert__" f) (F : C8.Fun K "__invert__" "Reader.__invert__" sInv f fd) (b : Binds K fd ["self"] []) (T : Txt mg) (c_reader_of_table : CalZ ZT P w K mg base 5 "reader_of_table" (spRdTab ad)) : MetZ P w K mg base 6 ad.Reader "__invert__" (spInv ad) := by
  refine metZ R.cl me F b scInv (fun vs H Q E h => ?_) (fun cdv A outer s H vs Q E hr h => ?_)
  · obtain ⟨U1, U, x, al1, m1, g1, rfl, _⟩ := h
    rfl
  · obtain ⟨U1, U, x, al1, m1, g1, rfl, rx, hok, hal, hU, k2⟩ := h
    have sc := scInv
    have pw := passW (takesG (P := P) (w := w) (K := K) (mg := mg) (base := base) (N := ["self", "room"]) (qual := "Reader.__invert__") (scope := C8.fnScope sInv) (f := f) (cd := cdv) (A := A) (outer := outer) (s := s) (H := H) (E := E))
    have M := rx.mach
    have ml := M.most
    obtain ⟨dx, vm, vg, ex, rm, rg⟩ := rx.ex
    obtain ⟨pm, ms, rfl, _, em, hms⟩ := rm.tupItem
    obtain ⟨pg, gs, rfl, _, eg, hgs⟩ := rg.tupItem
    rw [hgs.ints_eq] at eg
    have wl := hms.len
    rw [List.length_map] at wl
    refine ⟨_, -- Reader.__invert__: 0 self* 1 room

      (pss_one (ps_ret (pe_z (E := WE (fun cls d _ H => E cls d H)) c_reader_of_table trivial hr (by decide) rfl pw (pa_cons (pe_fldK (K := K) rfl (pv 0)) (pa_cons (pe_fldK (K := K) rfl (pv 0)) (pa_cons (pe_lc (own := [("room", 1)]) (g := gName 1) rfl sc.nd (pi_range1 (by rfl) T.range (pa_cons (pe_callB (call_lenQ (K := K) rfl) (by rfl) T.len PySem.boot_len (pa_cons (pe_fldK (K := K) rfl (pv 0)) pa_nil)) pa_nil)) (blkOk_by (own := [("room", 1)]) (by kernel_rfl)) (fun _ _ _ _ _ => (pg_name (i := 1) sc.nd rfl (Or.inl rfl))) (fun _ _ _ _ _ => pts_nil) (fun _ _ _ _ _ => (pe_cmpR (op_notInQ (K := K) rfl) (pv 1) (pe_fldK (K := K) rfl (pv 0)) (by rfl)))) pa_nil)))))), ?_⟩
    refine ⟨_, rfl, x, ad.Reader, dx, _, _, rfl, ex, R.cl, R.n1, rfl, _, rfl, x, ad.Reader, dx, _, _, rfl, ex, R.cl, R.n2, rfl, _, rfl, x, ad.Reader, dx, _, _, rfl, ex, R.cl, R.n2, rfl, pm, ms, rfl, .inr (.inl (.inl em)), (ms.length : Int), rfl, by omega, by omega, fun L hL => lc_F (j := 1) (Xp := fun i x => x = .int (0 + (i : Int))) (fun i => D.bl (accI (coG m1.length g1) (i : Int))) (walk_range (lo := 0)) (fun i H x H' _ y => ⟨y.1, y.2⟩) hL (show (ms.length : Int).toNat ≤ 100000 by omega) (fun _ _ => trivial) (fun _ => rfl) (fun i x5 H5 hi hx5 s5 Kt ht => ?_) (fun ys H5 s5 e5 r5 => ?_)⟩
    · subst hx5
      refine ⟨_, rfl, _, rfl, x, ad.Reader, dx, _, _, rfl, s5 _ _ ex, R.cl, R.n3, rfl, pg, _, rfl, .inr (.inl (.inl (s5 _ _ eg))), rfl, flat_ints g1, ?_⟩
      rw [inV_ints]
      refine ht _ _ (Same.refl _) ?_
      have hi2 : i < m1.length := by
        have : i < (ms.length : Int).toNat := hi
        omega
      rw [show (0 + (i : Int)) = (i : Int) by omega, coG_acc (mem_iota.mpr ⟨by omega, by omega⟩)]
      exact .bl _
    · have ey := r5.bls_eq (n := 0)
      have e6 : H5 L = some (.lst (marksL m1.length (coG m1.length g1))) := by
        rw [e5, ey]
        refine congrArg (fun z => some (HO.lst z)) ?_
        unfold marksL iota
        rw [List.map_map, List.map_map, show (ms.length : Int).toNat = m1.length by omega]
        rfl
      refine ⟨[], U, al1, .ref pm, L, m1, coG m1.length g1, rfl, hok, hal, (MvQ.ofT (rm.same s5)).nil, coG_mach M.w, e6, fun a ha => by obtain ⟨zs, e⟩ := hU a ha; exact ⟨zs, s5 _ _ e⟩, fun lm lg C ss => ?_⟩
      obtain ⟨q1, q2⟩ := k2 lm lg C fun w => (ss w).symm.trans (coG_set M.w w)
      exact ⟨fun h z H' s r => q1 h z H' (s5.trans s) r, fun h dd H' s hd => q2 h dd H' (s5.trans s) hd⟩
end

/-! ### _law_words -/
abbrev sWords : Stmt := top 46
def spWords (ad : Ad) (a : Addr) (c : Value) (d : Option Addr) : Sp := fun vs H Q _ => vs = [.ref a] ∧ ∃ (e : Wr) (dd : Addr), c = .ref (e.er.cls ad) ∧ d = some dd ∧ H dd = some (.xd [("what", .str e.what)]) ∧
  ∀ (p : Addr) (H' : Hp), H p = none → Same H H' → H' p = some (.lst (e.words.map V.str)) → Q (.ref p) H'
/-- the words are told -/
def ToldW (e : Wr) (H : Hp) (Q : VK) : Prop := ∀ (p : Addr) (H' : Hp), Same H H' → H' p = some (.lst (e.words.map V.str)) → Q (.ref p) H'
theorem words_of {ad : Ad} {e : Wr} {H H' : Hp} {dd a : Addr} {Q : VK} {E : XK} (s : Same H H') (hd : H' dd = none) (k : ToldW e H Q) : spWords ad a (.ref (e.er.cls ad)) (some dd) [.ref a] (upd H' dd (.xd [(e.er.fld, .str e.what)])) Q E := by
  have s2 := s.trans (Same.new (o := .xd [(e.er.fld, .str e.what)]) hd)
  refine ⟨rfl, e, dd, rfl, rfl, ?_, fun p H2 hp s3 e2 => k p H2 (s2.trans s3) e2⟩
  cases e <;> exact upd_same
theorem Sh.go {H H1 : Hp} {v : V} {pd : PyData} (h : Sh H v pd) (s : Same H H1) : Sh H1 v pd := by
  cases h with
  | non => exact .non
  | bl b => exact .bl b
  | int i => exact .int i
  | str x => exact .str x
  | lst e => exact .lst (s _ _ e)
  | tup e => exact .tup (s _ _ e)
structure Wk (H : Hp) (dd : Addr) (fs : List (Str × V)) (l : Addr) (xs : List Str) (H1 : Hp) : Prop where
  same : Same H H1
  ex : H1 dd = some (.xd fs)
  at_ : H1 l = some (.lst (xs.map V.str))
theorem Wk.new {H : Hp} {dd l : Addr} {fs : List (Str × V)} (hd : H dd = some (.xd fs)) (hl : H l = none) : Wk H dd fs l [] (upd H l (.lst [])) := ⟨Same.new hl, by rw [upd_ne (ne_of_none hd hl)]; exact hd, upd_same⟩
theorem Wk.app {H H1 : Hp} {dd l : Addr} {fs : List (Str × V)} {xs : List Str} (h : Wk H dd fs l xs H1) (hl : H l = none) (y : Str) : Wk H dd fs l (xs ++ [y]) (upd H1 l (.lst (xs.map V.str ++ [V.str y]))) :=
  ⟨fun b u e => by rw [upd_ne (ne_of_none e hl)]; exact h.same b u e, by rw [upd_ne (ne_of h.ex h.at_ (fun z => by cases z))]; exact h.ex, by rw [upd_same, List.map_append]; rfl⟩
section
variable {K : PySem.W.Frag} {D dd a l : Addr} {y : V} {u : Value} {tA tN : TS} {E : Ends} {σ : L2.St} {H H1 : Hp} {fs : List (Str × V)} {xs : List Str}
theorem isP_yes (h0 : σ[0]? = some (some (.ref a))) (hy : ClsV y u) (hk : PySem.W.kitOne K (.ref D) u = some true) (w : Wk H dd fs l xs H1) (h : tA E σ H1) : tIfS (tB (tCB (rIsP K D dd a) (tCons (tVar 0) (tCons (tC y) tNil)))) tA tN E σ H1 :=
  ⟨_, h0, _, _, _, _, rfl, hy, hk, w.ex, _, rfl, iteT h⟩
theorem isP_no (h0 : σ[0]? = some (some (.ref a))) (hy : ClsV y u) (hk : PySem.W.kitOne K (.ref D) u = some false) (w : Wk H dd fs l xs H1) (h : tN E σ H1) : tIfS (tB (tCB (rIsP K D dd a) (tCons (tVar 0) (tCons (tC y) tNil)))) tA tN E σ H1 :=
  ⟨_, h0, _, _, _, _, rfl, hy, hk, w.ex, _, rfl, iteF h⟩
theorem app_step {z : Str} (hl : H l = none) (h0 : σ[1]? = some (some (.ref l))) (w : Wk H dd fs l xs H1) (hz : Nat.ble xs.length 100 = true) (h : ∀ H2, Wk H dd fs l (xs ++ [z]) H2 → E.nx σ H2) :
    tDrop (tBM K "list" rAppend (tVar 1) (tCons (tC (V.str z)) tNil)) E σ H1 :=
  ⟨_, h0, .inl ⟨rfl, _, SqL.of w.at_⟩, _, _, _, rfl, rfl, w.at_, Nat.lt_of_le_of_lt (by rw [List.length_map]; exact Nat.le_of_ble_eq_true hz) (by decide), h _ (w.app hl z)⟩
end
section
open PyProof.Rows
variable {P : Program} {w : World} {K : PySem.W.Frag} {mg : Str → Option Value} {base : Heap} {ad : Ad}
theorem scWords : FnScope ["error", "words"] ["error"] (C8.fnScope sWords) := C8.fnScope_by (by decide +kernel)
theorem ok_words {f : Addr} {fd : FuncData} (F : C8.Def K mg "_law_words" sWords f fd) (b : Binds K fd ["error"] []) (T : Txt mg) (O : Own K mg ad) : CalE Gd P w K mg base 1 "_law_words" (spWords ad) := by
  refine calE (fun A env h => h.deeper env) F b scWords (fun a c d vs H Q E h => ?_) (fun cdv A outer s H vs Q E p c d hz hr hc hf h => ?_)
  · rw [h.1]; rfl
  · obtain ⟨rfl, e, dd, rfl, rfl, hd, k⟩ := h
    have sc := scWords
    have hp : (p.1, p.2) ∈ ([p] : List (Addr × Obj)) := List.mem_cons_self ..
    have hg := hz
    have hu : (A.deeper (envOfC "_law_words" (C8.fnScope sWords) s.heap.objs.size f cdv)).units + 64 < cLine := by have := hr.un; omega
    have C := O.err e
    have fin : ∀ (l q : Addr) (H3 : Hp), H l = none → Wk H dd [("what", .str e.what)] l e.words H3 → H3 q = none → Q (.ref l) (upd H3 q (.tup [V.ref ad.NoName, V.ref ad.WrongItem, V.ref ad.WrongThing])) := fun l q H3 hl w3 hq => by
      have w4 := Same.new (o := .tup [V.ref ad.NoName, V.ref ad.WrongItem, V.ref ad.WrongThing]) hq
      exact k l _ hl (w3.same.trans w4) (w4 _ _ w3.at_)
    have s3 : ∀ (H3 : Hp) (q : Addr), H3 q = none → Same H3 (upd H3 q (.tup [V.ref ad.NoName, V.ref ad.WrongItem, V.ref ad.WrongThing])) := fun H3 q hq => Same.new hq
    refine ⟨_, -- _law_words: 0 error 1 words

      (pss_cons (ps_set (i := 1) sc.nd rfl (Or.inl rfl) (pe_lst pa_nil))
      (pss_cons (ps_if (pt_val (pe_callB (call_isP C.exc hp hc hf) (by rfl) T.isinstance (by decide +kernel) (pa_cons (pv 0) (pa_cons (pe_bltn (v := .ty "ValueError") (u := .type "ValueError") rfl T.ValueError (by decide +kernel) rfl) pa_nil)))) 
        (pss_one (ps_expr (pe_append (K := K) rfl (pv 1) (pa_cons pe_str pa_nil)))) pss_nil)
      (pss_cons (ps_if (pt_val (pe_callB (call_isP C.exc hp hc hf) (by rfl) T.isinstance (by decide +kernel) (pa_cons (pv 0) (pa_cons (pe_glob (v := .ref ad.TooMany) rfl O.g_TooMany rfl) pa_nil)))) 
        (pss_one (ps_expr (pe_append (K := K) rfl (pv 1) (pa_cons (pe_op op_add_str pe_str (pe_callB (call_repr hg hu) (by rfl) T.repr (by decide +kernel) (pa_cons (pe_xfP C.xf C.no hp hc hf (pv 0)) pa_nil))) pa_nil)))) pss_nil)
      (pss_cons (ps_if (pt_val (pe_callB (call_isP C.exc hp hc hf) (by rfl) T.isinstance (by decide +kernel) (pa_cons (pv 0) (pa_cons (pe_glob (v := .ref ad.Unlike) rfl O.g_Unlike rfl) pa_nil)))) 
        (pss_one (ps_expr (pe_append (K := K) rfl (pv 1) (pa_cons (pe_op op_add_str pe_str (pe_callB (call_repr hg hu) (by rfl) T.repr (by decide +kernel) (pa_cons (pe_xfP C.xf C.no hp hc hf (pv 0)) pa_nil))) pa_nil)))) pss_nil)
      (pss_cons (ps_if (pt_val (pe_callB (call_isPT C.exc hp hc hf) (by rfl) T.isinstance (by decide +kernel) (pa_cons (pv 0) (pa_cons (pe_tup (pa_cons (pe_glob (v := .ref ad.NoName) rfl O.g_NoName rfl) (pa_cons (pe_glob (v := .ref ad.WrongItem) rfl O.g_WrongItem rfl) (pa_cons (pe_glob (v := .ref ad.WrongThing) rfl O.g_WrongThing rfl) pa_nil)))) pa_nil)))) 
        (pss_one (ps_expr (pe_append (K := K) rfl (pv 1) (pa_cons pe_str pa_nil)))) pss_nil)
      (pss_one (ps_ret (pv 1)))))))), ?_⟩
    refine ⟨by show 0 ≤ sizeLine; exact Nat.zero_le _, fun l hl => ?_⟩
    refine isP_yes rfl (.ty _) C.kV (Wk.new hd hl) (app_step hl rfl (Wk.new hd hl) rfl fun H1 w1 => ?_)
    cases e
    · refine isP_yes rfl (.own _) (C.kE .many) w1 ?_
      refine ⟨_, rfl, .inl ⟨rfl, _, SqL.of w1.at_⟩, ?_⟩
      refine ⟨_, rfl, rfl, _, _, w1.ex, rfl, ?_⟩
      refine ⟨_, _, rfl, .str _, Nat.le_trans (m := 100) (by decide +kernel) (by decide), fun i e => (by cases e), ?_⟩
      refine ⟨_, _, rfl, rfl, Nat.le_trans (m := 100) (by decide +kernel) (by decide), _, _, _, rfl, rfl, w1.at_, by show 1 < sizeLine; decide, ?_⟩
      have e9 : ("many " : Str) ++ (PyData.str Wr.many.what).shown = "many 'room'" := by decide +kernel
      have w2 := w1.app hl ("many " ++ (PyData.str Wr.many.what).shown)
      revert w2
      generalize upd H1 l _ = H2
      rw [e9]
      intro w2
      refine isP_no rfl (.own _) (C.kE .unlike) w2 ?_
      refine ⟨_, rfl, by show 3 ≤ sizeLine; decide, fun q hq => ?_⟩
      refine ⟨_, _, _, _, _, rfl, upd_same, .cons (.own _) (.cons (.own _) (.cons (.own _) .nil)), C.kO, s3 _ _ hq _ _ w2.ex, _, rfl, iteF ?_⟩
      exact ⟨_, rfl, fin l q _ hl w2 hq⟩
    · refine isP_no rfl (.own _) (C.kE .many) w1 ?_
      refine isP_yes rfl (.own _) (C.kE .unlike) w1 ?_
      refine ⟨_, rfl, .inl ⟨rfl, _, SqL.of w1.at_⟩, ?_⟩
      refine ⟨_, rfl, rfl, _, _, w1.ex, rfl, ?_⟩
      refine ⟨_, _, rfl, .str _, Nat.le_trans (m := 100) (by decide +kernel) (by decide), fun i e => (by cases e), ?_⟩
      refine ⟨_, _, rfl, rfl, Nat.le_trans (m := 100) (by decide +kernel) (by decide), _, _, _, rfl, rfl, w1.at_, by show 1 < sizeLine; decide, ?_⟩
      have e9 : ("unlike " : Str) ++ (PyData.str Wr.unlike.what).shown = "unlike 'alphabet'" := by decide +kernel
      have w2 := w1.app hl ("unlike " ++ (PyData.str Wr.unlike.what).shown)
      revert w2
      generalize upd H1 l _ = H2
      rw [e9]
      intro w2
      refine ⟨_, rfl, by show 3 ≤ sizeLine; decide, fun q hq => ?_⟩
      refine ⟨_, _, _, _, _, rfl, upd_same, .cons (.own _) (.cons (.own _) (.cons (.own _) .nil)), C.kO, s3 _ _ hq _ _ w2.ex, _, rfl, iteF ?_⟩
      exact ⟨_, rfl, fin l q _ hl w2 hq⟩
end

/-! ### _law_done, _law_due -/
open MA
def DoneTo (ad : Ad) (U : List Addr) (al : Str) (m1 m2 : List (List Int)) (g1 g2 : List Int) (op : Op) (H : Hp) (Q : VK) : Prop := ∀ (lm : List (List Int)) (lg : List Int), CanonW al.length lm lg → (∀ w, accI lg (run (rowI lm) 0 w) = op.acc (accI g1 (run (rowI m1) 0 w)) (accI g2 (run (rowI m2) 0 w))) →
  (lm.length ≤ 60 → ∀ (x : Addr) (H' : Hp), Same H H' → RdAt ad U H' x al lm lg → Q (.ref x) H') ∧ (60 < lm.length → ToldW .many H Q)
abbrev sDone : Stmt := top 50
abbrev sDue : Stmt := top 51
def spDone (ad : Ad) : Sp := fun vs H Q _ => ∃ (U1 U2 U : List Addr) (op : Op) (x y : Addr) (al1 al2 : Str) (m1 m2 : List (List Int)) (g1 g2 : List Int), vs = [.str op.str, .ref x, .ref y] ∧ RdAt ad U1 H x al1 m1 g1 ∧ RdAt ad U2 H y al2 m2 g2 ∧ alOk al1 = true ∧ al1.length ≤ 3 ∧ (∀ a ∈ U, ∃ xs, H a = some (.lst xs)) ∧
  (op ≠ .not → al1 ≠ al2 → ToldW .unlike H Q) ∧ (op = .not ∨ al1 = al2 → DoneTo ad U al1 m1 m2 g1 g2 op H Q)
def spDue : Sp := fun vs H Q _ => ∃ (op : Op) (a b : Bool), vs = [.str op.str, .bl a, .bl b] ∧ Q (.bl (op.acc a b)) H
section
open PyProof.Rows
variable {P : Program} {w : World} {K : PySem.W.Frag} {mg : Str → Option Value} {base : Heap} {ad : Ad}
theorem scDone : FnScope ["word", "one", "other", "error"] ["word", "one", "other"] (C8.fnScope sDone) := C8.fnScope_by (by decide +kernel)
theorem ok_done {f : Addr} {fd : FuncData} (F : C8.Def K mg "_law_done" sDone f fd) (b : Binds K fd ["word", "one", "other"] []) (T : Txt mg) (O : Own K mg ad) (sf_R : PySem.W.selfFirst K ad.Reader = true) (mt_and : MetZ P w K mg base 7 ad.Reader "__and__" (spOp ad fun a b => a && b)) (mt_or : MetZ P w K mg base 7 ad.Reader "__or__" (spOp ad fun a b => a || b)) (mt_sub : MetZ P w K mg base 7 ad.Reader "__sub__" (spOp ad fun a b => a && !b)) (mt_invert : MetZ P w K mg base 6 ad.Reader "__invert__" (spInv ad)) (c_law_words : CalE Gd P w K mg base 1 "_law_words" (spWords ad)) :
    CalZ Gd P w K mg base 9 "_law_done" (spDone ad) := by
  refine calZ (fun A env h => h.deeper env) F b scDone (fun vs H Q E h => ?_) (fun cdv A outer s H vs Q E hG hr h => ?_)
  · obtain ⟨U1, U2, U, op, x, y, al1, al2, m1, m2, g1, g2, rfl, _⟩ := h
    rfl
  · obtain ⟨U1, U2, U, op, x, y, al1, al2, m1, m2, g1, g2, rfl, rx, ry, hok, hal, hU, k1, k2⟩ := h
    have sc := scDone
    obtain ⟨dx, vm, vg, ex, rm, rg⟩ := rx.ex
    obtain ⟨dy, wm, wg, ey, sm, sg⟩ := ry.ex
    refine ⟨_, -- _law_done: 0 word 1 one 2 other 3 error

      (pss_one (ps_tryN (i := 3) (Wout := fun _ _ _ _ => False) rfl rfl sc.nd rfl rfl ⟨rfl, by decide, Or.inl O.g_LotsError⟩ takesF
      (fun W pn xe tk _ => 
        (pss_cons (ps_if (pt_cmpR op_eq (pv 0) pe_str (nomark _)) 
          (pss_one (ps_ret (pe_opZ (E := WE W) sf_R mt_and hr (by decide) (passW tk) (pv 1) (pv 2)))) pss_nil)
        (pss_cons (ps_if (pt_cmpR op_eq (pv 0) pe_str (nomark _)) 
          (pss_one (ps_ret (pe_opZ (E := WE W) sf_R mt_or hr (by decide) (passW tk) (pv 1) (pv 2)))) pss_nil)
        (pss_cons (ps_if (pt_cmpR op_eq (pv 0) pe_str (nomark _)) 
          (pss_one (ps_ret (pe_opZ (E := WE W) sf_R mt_sub hr (by decide) (passW tk) (pv 1) (pv 2)))) pss_nil)
        (pss_one (ps_ret (pe_invZ (E := WE W) mt_invert hr (by decide) (passW tk) (pv 1)))))))) (fun a oe cls d pn hz hf => 
        (pss_one (ps_ret (pe_e (E := fun _ _ _ _ => False) c_law_words hG (roomM hr) (by decide) (List.mem_cons_self ..) hz.zc hf rfl (fun σ => passF σ) (pa_cons (pv 3) pa_nil))))))), ?_⟩
    refine ⟨_, rfl, rfl, _, rfl, ?_⟩
    cases op with
    | and =>
      refine iteEt rfl ⟨_, rfl, _, rfl, x, dx, _, y, dy, _, rfl, rfl, ex, ey, U1, U2, U, x, y, al1, al2, m1, m2, g1, g2, rfl, rx, ry, hok, hal, hU, fun h dd H' s hdd => ?_, fun h lm lg C ss => ?_⟩
      · exact ⟨true, (O.err .unlike).kL, fun _ a ha => ⟨_, rfl, words_of (e := .unlike) (E := fun _ _ _ => False) s hdd (k1 (fun z => by cases z) h)⟩, fun h => by cases h⟩
      · obtain ⟨q1, q2⟩ := k2 (.inr h) lm lg C ss
        exact ⟨fun h z H' s r => ⟨z, rfl, q1 h z H' s r⟩, fun h dd H' s hdd => ⟨true, (O.err .many).kL, fun _ a ha => ⟨_, rfl, words_of (e := .many) (E := fun _ _ _ => False) s hdd (q2 h)⟩, fun h => by cases h⟩⟩
    | or =>
      refine iteEf rfl ⟨_, rfl, rfl, _, rfl, ?_⟩
      refine iteEt rfl ⟨_, rfl, _, rfl, x, dx, _, y, dy, _, rfl, rfl, ex, ey, U1, U2, U, x, y, al1, al2, m1, m2, g1, g2, rfl, rx, ry, hok, hal, hU, fun h dd H' s hdd => ?_, fun h lm lg C ss => ?_⟩
      · exact ⟨true, (O.err .unlike).kL, fun _ a ha => ⟨_, rfl, words_of (e := .unlike) (E := fun _ _ _ => False) s hdd (k1 (fun z => by cases z) h)⟩, fun h => by cases h⟩
      · obtain ⟨q1, q2⟩ := k2 (.inr h) lm lg C ss
        exact ⟨fun h z H' s r => ⟨z, rfl, q1 h z H' s r⟩, fun h dd H' s hdd => ⟨true, (O.err .many).kL, fun _ a ha => ⟨_, rfl, words_of (e := .many) (E := fun _ _ _ => False) s hdd (q2 h)⟩, fun h => by cases h⟩⟩
    | less =>
      refine iteEf rfl ⟨_, rfl, rfl, _, rfl, ?_⟩
      refine iteEf rfl ⟨_, rfl, rfl, _, rfl, ?_⟩
      refine iteEt rfl ⟨_, rfl, _, rfl, x, dx, _, y, dy, _, rfl, rfl, ex, ey, U1, U2, U, x, y, al1, al2, m1, m2, g1, g2, rfl, rx, ry, hok, hal, hU, fun h dd H' s hdd => ?_, fun h lm lg C ss => ?_⟩
      · exact ⟨true, (O.err .unlike).kL, fun _ a ha => ⟨_, rfl, words_of (e := .unlike) (E := fun _ _ _ => False) s hdd (k1 (fun z => by cases z) h)⟩, fun h => by cases h⟩
      · obtain ⟨q1, q2⟩ := k2 (.inr h) lm lg C ss
        exact ⟨fun h z H' s r => ⟨z, rfl, q1 h z H' s r⟩, fun h dd H' s hdd => ⟨true, (O.err .many).kL, fun _ a ha => ⟨_, rfl, words_of (e := .many) (E := fun _ _ _ => False) s hdd (q2 h)⟩, fun h => by cases h⟩⟩
    | not =>
      refine iteEf rfl ⟨_, rfl, rfl, _, rfl, ?_⟩
      refine iteEf rfl ⟨_, rfl, rfl, _, rfl, ?_⟩
      refine iteEf rfl ⟨_, rfl, x, dx, _, rfl, ex, U1, U, x, al1, m1, g1, rfl, rx, hok, hal, hU, fun lm lg C ss => ?_⟩
      obtain ⟨q1, q2⟩ := k2 (.inl rfl) lm lg C ss
      exact ⟨fun h z H' s r => q1 h z H' s r, fun h dd H' s hdd => ⟨true, (O.err .many).kL, fun _ a ha => ⟨_, rfl, words_of (e := .many) (E := fun _ _ _ => False) s hdd (q2 h)⟩, fun h => by cases h⟩⟩
theorem scDue : FnScope ["word", "first", "second"] ["word", "first", "second"] (C8.fnScope sDue) := C8.fnScope_by (by decide +kernel)
theorem ok_due {f : Addr} {fd : FuncData} (F : C8.Def K mg "_law_due" sDue f fd) (b : Binds K fd ["word", "first", "second"] []) (T : Txt mg) : C8.Cal P w K mg base 1 "_law_due" spDue [] := by
  refine C8.cal0 F b .nil scDue (fun vs H Q E h => ?_) (fun cdv A outer s H vs Q E hr h => ?_)
  · obtain ⟨op, a, b, rfl, _⟩ := h
    rfl
  · obtain ⟨op, a, b, rfl, k⟩ := h
    have sc := scDue
    refine ⟨_, -- _law_due: 0 word 1 first 2 second

      (pss_cons (ps_if (pt_cmpR op_eq (pv 0) pe_str (nomark _)) 
        (pss_one (ps_ret (pe_and (pv 1) (pe_one (pv 2))))) pss_nil)
      (pss_cons (ps_if (pt_cmpR op_eq (pv 0) pe_str (nomark _)) 
        (pss_one (ps_ret (pe_or (pv 1) (pe_one (pv 2))))) pss_nil)
      (pss_cons (ps_if (pt_cmpR op_eq (pv 0) pe_str (nomark _)) 
        (pss_one (ps_ret (pe_and (pv 1) (pe_one (pe_not (pv 2)))))) pss_nil)
      (pss_one (ps_ret (pe_not (pv 1))))))), ?_⟩
    refine ⟨_, rfl, rfl, _, rfl, ?_⟩
    cases op with
    | and =>
      refine iteEt rfl ⟨_, rfl, _, rfl, ?_⟩
      cases a with
      | false => exact iteF k
      | true => exact iteT ⟨_, rfl, k⟩
    | or =>
      refine iteEf rfl ⟨_, rfl, rfl, _, rfl, ?_⟩
      refine iteEt rfl ⟨_, rfl, _, rfl, ?_⟩
      cases a with
      | false => exact iteF ⟨_, rfl, k⟩
      | true => exact iteT k
    | less =>
      refine iteEf rfl ⟨_, rfl, rfl, _, rfl, ?_⟩
      refine iteEf rfl ⟨_, rfl, rfl, _, rfl, ?_⟩
      refine iteEt rfl ⟨_, rfl, _, rfl, ?_⟩
      cases a with
      | false => exact iteF k
      | true => exact iteT ⟨_, rfl, _, rfl, k⟩
    | not =>
      refine iteEf rfl ⟨_, rfl, rfl, _, rfl, ?_⟩
      refine iteEf rfl ⟨_, rfl, rfl, _, rfl, ?_⟩
      exact iteEf rfl ⟨_, rfl, _, rfl, k⟩
end

/-! ### _law_joint -/
open MA
abbrev sLJoint : Stmt := top 52
/-- a joint room's mark -/
def opR (op : Op) (g1 g2 : List Int) (r : Int × Int) : Bool := op.acc (accI g1 r.1) (accI g2 r.2)
def spLJoint : Sp := fun vs H Q _ => ∃ (S1 S2 : List Addr) (op : Op) (v u : V) (k : Nat) (m1 m2 : List (List Int)) (g1 g2 : List Int), vs = [v, u, .str op.str] ∧ MAt S1 H v m1 g1 ∧ MAt S2 H u m2 g2 ∧ MachW k m1 g1 ∧ MachW k m2 g2 ∧ k ≤ 3 ∧ m1.length * m2.length ≤ 3600 ∧
  ∀ (p : V) (H' : Hp), Same H H' → Rp [] H' p (.tup [mvD (jmoves m1 m2), rowD (jgood m1 m2 (opR op g1 g2))]) → Q p H'
section
open PyProof.Rows
variable {P : Program} {w : World} {K : PySem.W.Frag} {mg : Str → Option Value} {base : Heap}
theorem scLJoint : FnScope ["one", "other", "word", "numbers", "order", "moves", "at", "p", "q", "row", "t", "pair", "marks", "k"] ["one", "other", "word"] (C8.fnScope sLJoint) := C8.fnScope_by (by decide +kernel)
theorem ok_ljoint {f : Addr} {fd : FuncData} (F : C8.Def K mg "_law_joint" sLJoint f fd) (b : Binds K fd ["one", "other", "word"] []) (T : Txt mg) (c_law_due : C8.Cal P w K mg base 1 "_law_due" spDue []) : C8.Cal P w K mg base 2 "_law_joint" spLJoint [] := by
  refine C8.cal0 F b .nil scLJoint (fun vs H Q E h => ?_) (fun cdv A outer s H vs Q E hr h => ?_)
  · obtain ⟨S1, S2, op, v, u, k, m1, m2, g1, g2, rfl, _⟩ := h
    rfl
  · obtain ⟨S1, S2, op, v, u, k, m1, m2, g1, g2, rfl, mA1, mA2, M1, M2, hk, hN, kk⟩ := h
    have sc := scLJoint
    have hu2 : (A.deeper (envOfC "_law_joint" (C8.fnScope sLJoint) s.heap.objs.size f cdv)).units + 16 < cLine := by have := hr.un; omega
    obtain ⟨t1, mx1, my1, dm1, dg1, rfl, nt1, et1, rmx1, rmy1, md1, gd1⟩ := mA1
    obtain ⟨t2, mx2, my2, dm2, dg2, rfl, nt2, et2, rmx2, rmy2, md2, gd2⟩ := mA2
    obtain ⟨a1, xs1, rfl, na1, qa1, lx1, ea1, hat1⟩ := mvq_at (K := K) rmx1 md1
    obtain ⟨a2, xs2, rfl, na2, qa2, lx2, ea2, hat2⟩ := mvq_at (K := K) rmx2 md2
    obtain ⟨gb1, rfl, ng1, qg1, eg1⟩ := gd_at2 (K := K) rmy1 gd1
    obtain ⟨gb2, rfl, ng2, qg2, eg2⟩ := gd_at2 (K := K) rmy2 gd2
    refine ⟨_, -- _law_joint: 0 one* 1 other* 2 word* 3 numbers 4 order 5 moves 6 at 7 p 8 q 9 row 10 t 11 pair 12 marks* 13 k

      (pss_cons (ps_set (i := 3) sc.nd rfl (Or.inl rfl) (pe_nd1 hu2 (pe_tup (pa_cons pe_int (pa_cons pe_int pa_nil))) pe_int))
      (pss_cons (ps_set (i := 4) sc.nd rfl (Or.inl rfl) (pe_lst (pa_cons (pe_tup (pa_cons pe_int (pa_cons pe_int pa_nil))) pa_nil)))
      (pss_cons (ps_set (i := 5) sc.nd rfl (Or.inl rfl) (pe_lst pa_nil))
      (C8.pss_cut (ps_for PassesOwn.never rfl (pi_range1 (by rfl) T.range (pa_cons (pe_op op_mul (pe_callB (call_lenQ (K := K) rfl) (by rfl) T.len PySem.boot_len (pa_cons (pe_ix (ixQ (K := K) rfl) (pv 0) pe_int (fun _ _ => rfl)) pa_nil)) (pe_callB (call_lenQ (K := K) rfl) (by rfl) T.len PySem.boot_len (pa_cons (pe_ix (ixQ (K := K) rfl) (pv 1) pe_int (fun _ _ => rfl)) pa_nil))) pa_nil)) (pg_name (i := 6) sc.nd rfl (Or.inl rfl)) 
        (pss_cons (ps_if (pt_cmpR op_eq (pv 6) (pe_callB (call_lenQ (K := K) rfl) (by rfl) T.len PySem.boot_len (pa_cons (pv 4) pa_nil)) (nomark _)) 
          (pss_one ps_break) pss_nil)
        (pss_cons (ps_asg (pe_ix ix_list (pv 4) (pv 6) (fun _ _ => rfl)) (pg_tup rfl (pgs_cons (pg_name (i := 7) sc.nd rfl (Or.inl rfl)) (pgs_cons (pg_name (i := 8) sc.nd rfl (Or.inl rfl)) pgs_nil))))
        (pss_cons (ps_set (i := 9) sc.nd rfl (Or.inl rfl) (pe_lst pa_nil))
        (pss_cons (ps_for PassesOwn.never rfl (pi_range1 (by rfl) T.range (pa_cons (pe_callB (call_lenQ (K := K) rfl) (by rfl) T.len PySem.boot_len (pa_cons (pe_ix (ixQ (K := K) rfl) (pe_ix (ixQ (K := K) rfl) (pv 0) pe_int (fun _ _ => rfl)) pe_int (fun _ _ => rfl)) pa_nil)) pa_nil)) (pg_name (i := 10) sc.nd rfl (Or.inl rfl)) 
          (pss_cons (ps_set (i := 11) sc.nd rfl (Or.inl rfl) (pe_tup (pa_cons (pe_ix (ixQ (K := K) rfl) (pe_ix (ixQ (K := K) rfl) (pe_ix (ixQ (K := K) rfl) (pv 0) pe_int (fun _ _ => rfl)) (pv 7) (fun _ _ => rfl)) (pv 10) (fun _ _ => rfl)) (pa_cons (pe_ix (ixQ (K := K) rfl) (pe_ix (ixQ (K := K) rfl) (pe_ix (ixQ (K := K) rfl) (pv 1) pe_int (fun _ _ => rfl)) (pv 8) (fun _ _ => rfl)) (pv 10) (fun _ _ => rfl)) pa_nil))))
          (C8.pss_cut (ps_if (pt_cmp (pc_ndnotin hu2 (pv 11) (pv 3))) 
            (pss_cons (ps_ndput hu2 (pv 3) (pv 11) (pe_callB (call_lenQ (K := K) rfl) (by rfl) T.len PySem.boot_len (pa_cons (pv 4) pa_nil)) rfl)
            (pss_one (ps_expr (pe_append (K := K) rfl (pv 4) (pa_cons (pv 11) pa_nil))))) pss_nil)
          (pss_one (ps_expr (pe_append (K := K) rfl (pv 9) (pa_cons (pe_ndget hu2 (pv 3) (pv 11) (fun _ _ => rfl)) pa_nil)))))))
        (pss_one (ps_expr (pe_append (K := K) rfl (pv 5) (pa_cons (pv 9) pa_nil)))))))))
      (pss_cons (ps_set (i := 12) sc.nd rfl (Or.inr rfl) (pe_lc (own := [("pair", 11)]) (g := gName 11) rfl sc.nd (pi_list (pv 4)) (blkOk_by (own := [("pair", 11)]) (by kernel_rfl)) (fun _ _ _ _ _ => (pg_name (i := 11) sc.nd rfl (Or.inl rfl))) (fun _ _ _ _ _ => pts_nil) (fun _ _ _ _ _ => (C8.pe_c c_law_due hr (by decide) rfl (pa_cons (pv 2) (pa_cons (pe_cmpR (op_inQ (K := K) rfl) (pe_ix (ixQ (K := K) rfl) (pv 11) pe_int (fun _ _ => rfl)) (pe_ix (ixQ (K := K) rfl) (pv 0) pe_int (fun _ _ => rfl)) (by rfl)) (pa_cons (pe_cmpR (op_inQ (K := K) rfl) (pe_ix (ixQ (K := K) rfl) (pv 11) pe_int (fun _ _ => rfl)) (pe_ix (ixQ (K := K) rfl) (pv 1) pe_int (fun _ _ => rfl)) (by rfl)) pa_nil)))))))
      (pss_one (ps_ret (pe_tup (pa_cons (pv 5) (pa_cons (pe_lc (own := [("k", 13)]) (g := gName 13) rfl sc.nd (pi_range1 (by rfl) T.range (pa_cons (pe_callB (call_lenQ (K := K) rfl) (by rfl) T.len PySem.boot_len (pa_cons (pv 4) pa_nil)) pa_nil)) (blkOk_by (own := [("k", 13)]) (by kernel_rfl)) (fun _ _ _ _ _ => (pg_name (i := 13) sc.nd rfl (Or.inl rfl))) (fun _ _ _ _ _ => (pts_one (pt_val (pe_ix (ixLK (K := K) rfl) (pv 12) (pv 13) (fun _ _ => rfl))))) (fun _ _ _ _ _ => (pv 13))) pa_nil)))))))))), ?_⟩
    refine fun d hd => ⟨by show 2 ≤ sizeLine; exact szl rfl, fun b1 hb1 => ?_⟩
    have db : d ≠ b1 := fun e => by rw [← e, upd_same] at hb1; cases hb1
    have hb10 : H b1 = none := by rw [upd_ne (Ne.symm db)] at hb1; exact hb1
    refine ⟨b1, keyR (0, 0), .int 0, rfl, by rw [upd_ne db, upd_same], NV.pq upd_same, keyPQ_depth 0 0, ?_⟩
    have s1 : Same H (upd (upd (upd H d (ndO P w d [])) b1 (.tup [.int 0, .int 0])) d (ndO P w d [(keyR (0, 0), b1, .int 0)])) := same_upd ((Same.new hd).trans (Same.new hb1)) hd
    have ed : upd (upd (upd H d (ndO P w d [])) b1 (.tup [.int 0, .int 0])) d (ndO P w d [(keyR (0, 0), b1, .int 0)]) d = some (ndO P w d [(keyR (0, 0), b1, .int 0)]) := upd_same
    have eb1 : upd (upd (upd H d (ndO P w d [])) b1 (.tup [.int 0, .int 0])) d (ndO P w d [(keyR (0, 0), b1, .int 0)]) b1 = some (.tup [.int 0, .int 0]) := by rw [upd_ne (Ne.symm db), upd_same]
    show gName 3 _ _ (upd (upd (upd H d (ndO P w d [])) b1 (.tup [.int 0, .int 0])) d (ndO P w d [(keyR (0, 0), b1, .int 0)])) _
    generalize upd (upd (upd H d (ndO P w d [])) b1 (.tup [.int 0, .int 0])) d (ndO P w d [(keyR (0, 0), b1, .int 0)]) = H1 at s1 ed eb1 ⊢
    refine ⟨by show 2 ≤ sizeLine; exact szl rfl, fun b2 hb2 => ⟨by show 1 ≤ sizeLine; exact szl rfl, fun o ho => ?_⟩⟩
    have b2o : b2 ≠ o := fun e => by rw [← e, upd_same] at ho; cases ho
    have ho1 : H1 o = none := by rw [upd_ne (Ne.symm b2o)] at ho; exact ho
    have ho0 : H o = none := same_none s1 ho1
    have s2 : Same H1 (upd (upd H1 b2 (.tup [.int 0, .int 0])) o (.lst [.ref b2])) := (Same.new hb2).trans (Same.new ho)
    have J2 : JW P w H (upd (upd H1 b2 (.tup [.int 0, .int 0])) o (.lst [.ref b2])) d o [(0, 0)] := by
      refine ⟨s1.trans s2, hd, ho0, ⟨_, s2 _ _ ed, fun e he => ?_, NDk.nil.snoc (keyR (0, 0)) b1⟩, ⟨_, upd_same, rfl, fun i r e => ?_⟩⟩
      · rw [List.mem_singleton.mp he]
        exact ⟨NV.pq (s2 _ _ eb1), keyPQ_depth 0 0⟩
      · match i, e with
        | 0, e => cases e; exact ⟨b2, rfl, by rw [upd_ne b2o, upd_same]⟩
        | i + 1, e => simp at e
    show gName 4 _ _ (upd (upd H1 b2 (.tup [.int 0, .int 0])) o (.lst [.ref b2])) _
    generalize upd (upd H1 b2 (.tup [.int 0, .int 0])) o (.lst [.ref b2]) = H2 at J2 ⊢
    clear s1 s2 ed eb1 hb1 hb2 ho ho1
    refine ⟨by show 0 ≤ sizeLine; exact szl rfl, fun mo hmo => ?_⟩
    have J3 : JW P w H (upd H2 mo (.lst [])) d o [(0, 0)] := J2.new hmo
    have mo0 : H mo = none := same_none J2.same hmo
    have mod : mo ≠ d := fun e => by obtain ⟨kvs, e1, _⟩ := J2.dict; rw [e, e1] at hmo; cases hmo
    have moo : mo ≠ o := fun e => by obtain ⟨kvs, e1, _⟩ := J2.ord; rw [e, e1] at hmo; cases hmo
    have em3 : upd H2 mo (.lst []) mo = some (.lst ([] : List V)) := upd_same
    show gName 5 _ _ (upd H2 mo (.lst [])) _
    generalize upd H2 mo (.lst []) = H3 at J3 em3 ⊢
    clear J2 hmo
    have hJ := jord_len M1 M2
    have big : ∀ {n : Nat}, n ≤ 3600 → n < sizeLine := fun {n} h => Nat.lt_of_le_of_lt h (by decide)
    refine ⟨fun σ' H' => JW P w H H' d o (jrooms m1 m2) ∧ (∃ ms, H' mo = some (.lst ms) ∧ Rps [d, o, mo] H' ms ((jmoves m1 m2).map rowD)) ∧ ∃ x6 x7 x8 x9 x10 x11, σ' = [some (.ref t1), some (.ref t2), some (.str op.str), some (.ref d), some (.ref o), some (.ref mo), x6, x7, x8, x9, x10, x11, none, none], ?_, ?_⟩
    · obtain ⟨row0, hrow0, erow0, hl0, hin0⟩ := M1.rowI_at M1.zero
      obtain ⟨c0, hc0, nc0, qc0, ec0⟩ := hat1 0 row0 (Int.le_refl 0) hrow0
      have S3 := J3.same
      have hM : ((xs1.length : Nat) : Int) * ((xs2.length : Nat) : Int) = ((m1.length * m2.length : Nat) : Int) := by rw [lx1, lx2]; rfl
      have ml1 := M1.most
      have ml2 := M2.most
      refine ⟨_, rfl, t1, _, _, _, rfl, rfl, .inr (.inl (.inl (S3 _ _ et1))), rfl, a1, xs1, rfl, sqo (ea1.imp (S3 _ _) (S3 _ _)), _, rfl, t2, _, _, _, rfl, rfl, .inr (.inl (.inl (S3 _ _ et2))), rfl, a2, xs2, rfl, sqo (ea2.imp (S3 _ _) (S3 _ _)), _, _, rfl, rfl, Or.inl ⟨by omega, by omega⟩, ?_⟩
      refine ⟨((xs1.length : Nat) : Int) * ((xs2.length : Nat) : Int), rfl, by rw [hM]; omega, by rw [hM]; omega, ?_⟩
      rw [hM]
      refine for_it (walk_range (lo := 0)) (fun i σ H' => Iv (i ≤ (jord m1 m2 i).length ∧ JW P w H H' d o (jord m1 m2 i) ∧ (∃ ms, H' mo = some (.lst ms) ∧ Rps [d, o, mo] H' ms (((jrooms m1 m2).take i).map fun r => rowD (jrow m1 m2 r))) ∧ ∃ x6 x7 x8 x9 x10 x11, σ = [some (.ref t1), some (.ref t2), some (.str op.str), some (.ref d), some (.ref o), some (.ref mo), x6, x7, x8, x9, x10, x11, none, none])) (.of ⟨Nat.zero_le _, J3, ⟨_, em3, .nil⟩, _, _, _, _, _, _, rfl⟩) (fun _ _ _ _ _ => trivial) (fun i y σ H4 H5 hiN hp hy => ?_) (fun σ H4 hp => ?_)
      · obtain ⟨hi, J4, ⟨ms, em4, rt4⟩, x6, x7, x8, x9, x10, x11, rfl⟩ := hp.get
        obtain ⟨rfl, rfl⟩ := hy
        obtain ⟨ws, eo4, pw4⟩ := J4.ord
        show gName 6 (V.int (0 + (i : Int))) _ _ _
        rw [Int.zero_add]
        refine ⟨_, rfl, _, rfl, o, _, rfl, .inl (SqL.of eo4), rfl, _, rfl, ?_⟩
        rw [pw4.1]
        by_cases he : i = (jord m1 m2 i).length
        · rw [decide_eq_true (show V.int (i : Int) = V.int (((jord m1 m2 i).length : Nat) : Int) by rw [← he])]
          have ej : jord m1 m2 i = jrooms m1 m2 := jord_stop M1 M2 (by omega)
          rw [List.take_of_length_le (by rw [← ej]; omega)] at rt4
          rw [ej] at J4
          refine iteT ⟨J4, ⟨ms, em4, ?_⟩, _, _, _, _, _, _, rfl⟩
          unfold jmoves
          rw [List.map_map]
          exact rt4
        · rw [decide_eq_false (show ¬ V.int (i : Int) = V.int (((jord m1 m2 i).length : Nat) : Int) from fun z => he (by have := V.int.inj z; omega))]
          have hlt : i < (jord m1 m2 i).length := by omega
          obtain ⟨r, hr⟩ : ∃ r, (jord m1 m2 i)[i]? = some r := ⟨_, List.getElem?_eq_getElem hlt⟩
          have hrP := jord_in M1 M2 i r (List.mem_of_getElem? hr)
          obtain ⟨row1, hrow1, erow1, hl1, hin1⟩ := M1.rowI_at (mem_allP.mp hrP).1
          obtain ⟨row2, hrow2, erow2, hl2, hin2⟩ := M2.rowI_at (mem_allP.mp hrP).2
          obtain ⟨bw, hbw, ebw⟩ := pw4.2 i r hr
          have hp1 := mem_iota.mp (mem_allP.mp hrP).1
          have hp2 := mem_iota.mp (mem_allP.mp hrP).2
          have hJr : (jrooms m1 m2)[i]? = some r := by
            obtain ⟨q, e⟩ := jord_pre M1 M2 i
            rw [e, List.getElem?_append_left hlt]
            exact hr
          obtain ⟨c1, hc1, nc1, qc1, ec1⟩ := hat1 _ _ hp1.1 hrow1
          obtain ⟨c2, hc2, nc2, qc2, ec2⟩ := hat2 _ _ hp2.1 hrow2
          refine iteF ⟨_, rfl, _, rfl, o, _, _, _, rfl, rfl, SqL.of eo4, atI_nat hbw, bw, _, rfl, .inl (.inl ebw), rfl, ?_⟩
          refine ⟨_, _, rfl, _, _, rfl, rfl, by show 0 ≤ sizeLine; exact szl rfl, fun rl hrl => ?_⟩
          have J5' : JW P w H (upd H5 rl (.lst [])) d o (jord m1 m2 i) := J4.new hrl
          have rl0 : H rl = none := same_none J4.same hrl
          have rld : rl ≠ d := fun e => by obtain ⟨kvs, e1, _⟩ := J4.dict; rw [e, e1] at hrl; cases hrl
          have rlo : rl ≠ o := fun e => by rw [e, eo4] at hrl; cases hrl
          have rlm : rl ≠ mo := fun e => by rw [e, em4] at hrl; cases hrl
          have el5' : upd H5 rl (.lst []) rl = some (.lst ([] : List V)) := upd_same
          have em5' : upd H5 rl (.lst []) mo = some (.lst ms) := (Same.new hrl) _ _ em4
          have rt5' : Rps [rl, d, o, mo] (upd H5 rl (.lst [])) ms (((jrooms m1 m2).take i).map fun r => rowD (jrow m1 m2 r)) := (rt4.more fun a ha => (List.mem_cons.mp ha).elim (fun e => .inr (by rw [e]; exact hrl)) .inl).same (Same.new hrl)
          show gName 9 _ _ (upd H5 rl (.lst [])) _
          generalize upd H5 rl (.lst []) = H5' at J5' el5' em5' rt5' ⊢
          have S5 := J5'.same
          refine ⟨_, rfl, t1, _, _, _, rfl, rfl, .inr (.inl (.inl (S5 _ _ et1))), rfl, a1, _, _, _, rfl, rfl, sqo (ea1.imp (S5 _ _) (S5 _ _)), hc0, c0, _, rfl, sqo (ec0.imp (S5 _ _) (S5 _ _)), _, rfl, by rw [List.length_map]; omega, by rw [List.length_map]; omega, ?_⟩
          have hpl : (prow m1 m2 r).length = k := prow_len M1 M2 hrP
          refine for_it (walk_range (lo := 0)) (fun t σ H' => Iv (JW P w H H' d o (jgrow m1 m2 i r t) ∧ H' rl = some (.lst ((((prow m1 m2 r).take t).map (jix m1 m2)).map V.int)) ∧ H' mo = some (.lst ms) ∧ Rps [rl, d, o, mo] H' ms (((jrooms m1 m2).take i).map fun r => rowD (jrow m1 m2 r)) ∧ ∃ x10 x11, σ = [some (.ref t1), some (.ref t2), some (.str op.str), some (.ref d), some (.ref o), some (.ref mo), some (.int (i : Int)), some (.int r.1), some (.int r.2), some (.ref rl), x10, x11, none, none])) (.of ⟨by rw [jgrow_zero]; exact J5', el5', em5', rt5', _, _, rfl⟩) (fun _ _ _ _ _ => trivial) (fun t y σ H6 H7 ht hp hy => ?_) (fun σ H6 hp => ?_)
          · obtain ⟨J7, el7, em7, rt7, x10, x11, rfl⟩ := hp.get
            obtain ⟨rfl, rfl⟩ := hy
            have htl : t < k := by
              have h9 : t < (((row0.map V.int).length : Nat) : Int).toNat := ht
              rw [List.length_map] at h9
              omega
            show gName 10 (V.int (0 + (t : Int))) _ _ _
            rw [Int.zero_add]
            have S7 := J7.same
            have hx : (prow m1 m2 r)[t]? = some (row1.getD t r.1, row2.getD t r.2) := by
              have h1 : t < row1.length := by omega
              have h2 : t < row2.length := by omega
              rw [prow_at, erow1, erow2, List.getElem?_eq_getElem h1, List.getElem?_eq_getElem h2, List.getD_eq_getElem?_getD, List.getElem?_eq_getElem h1, List.getD_eq_getElem?_getD, List.getElem?_eq_getElem h2]
              rfl
            refine ⟨_, rfl, t1, _, _, _, rfl, rfl, .inr (.inl (.inl (S7 _ _ et1))), rfl, _, rfl, a1, _, _, _, rfl, rfl, sqo (ea1.imp (S7 _ _) (S7 _ _)), hc1, _, rfl, c1, _, _, _, rfl, rfl, sqo (ec1.imp (S7 _ _) (S7 _ _)), row_at (by omega) r.1, ?_⟩
            refine ⟨_, rfl, t2, _, _, _, rfl, rfl, .inr (.inl (.inl (S7 _ _ et2))), rfl, _, rfl, a2, _, _, _, rfl, rfl, sqo (ea2.imp (S7 _ _) (S7 _ _)), hc2, _, rfl, c2, _, _, _, rfl, rfl, sqo (ec2.imp (S7 _ _) (S7 _ _)), row_at (by omega) r.2, by show 2 ≤ sizeLine; exact szl rfl, fun bp hbp => ?_⟩
            generalize row1.getD t r.1 = tt at hx ⊢
            generalize row2.getD t r.2 = uu at hx ⊢
            have J8 : JW P w H (upd H7 bp (.tup [.int tt, .int uu])) d o (jgrow m1 m2 i r t) := J7.new hbp
            have s8 : Same H7 (upd H7 bp (.tup [.int tt, .int uu])) := Same.new hbp
            have el8 := s8 _ _ el7
            have em8 := s8 _ _ em7
            have rt8 := rt7.same s8
            have ebp : upd H7 bp (.tup [.int tt, .int uu]) bp = some (.tup [.int tt, .int uu]) := upd_same
            show gName 11 _ _ (upd H7 bp (.tup [.int tt, .int uu])) _
            generalize upd H7 bp (.tup [.int tt, .int uu]) = H8 at J8 el8 em8 rt8 ebp ⊢
            clear s8 J7 el7 em7 rt7
            have hlen := jgrow_len M1 M2 hr t
            refine ⟨fun σ' H' => JW P w H H' d o (jgrow m1 m2 i r (t + 1)) ∧ H' rl = some (.lst ((((prow m1 m2 r).take t).map (jix m1 m2)).map V.int)) ∧ H' mo = some (.lst ms) ∧ Rps [rl, d, o, mo] H' ms (((jrooms m1 m2).take i).map fun r => rowD (jrow m1 m2 r)) ∧ H' bp = some (.tup [.int tt, .int uu]) ∧ σ' = [some (.ref t1), some (.ref t2), some (.str op.str), some (.ref d), some (.ref o), some (.ref mo), some (.int (i : Int)), some (.int r.1), some (.int r.2), some (.ref rl), some (.int (t : Int)), some (.ref bp), none, none], ?_, ?_⟩
            · obtain ⟨kvs, ed8, nk8, nd8⟩ := J8.dict
              obtain ⟨ws8, eo8, pw8⟩ := J8.ord
              refine ⟨_, rfl, _, rfl, d, kvs, bp, keyR (tt, uu), rfl, rfl, ed8, nk8, NV.pq ebp, keyPQ_depth _ _, _, rfl, ?_⟩
              by_cases hm : (tt, uu) ∈ jgrow m1 m2 i r t
              · rw [nd8.lookY jgrow_nodup hm]
                refine iteF ⟨?_, el8, em8, rt8, ebp, rfl⟩
                rw [jgrow_yes hx hm]
                exact J8
              · rw [nd8.lookN0 jgrow_nodup hm]
                obtain ⟨J9, tk9⟩ := J8.grow (r := (tt, uu)) ed8 nk8 nd8 eo8 pw8 ebp
                have hwk : ((ws8.length : Nat) : Int) = ((kvs.length : Nat) : Int) := by rw [pw8.1, nd8.len]
                refine iteT ⟨_, rfl, o, _, rfl, .inl (SqL.of eo8), _, rfl, _, rfl, d, kvs, bp, keyR (tt, uu), rfl, rfl, ed8, nk8, NV.pq ebp, keyPQ_depth _ _, nd8.lookN0 jgrow_nodup hm, big (by rw [nd8.len]; omega), ?_⟩
                rw [hwk]
                have eo9 : upd H8 d (ndO P w d (kvs ++ [(keyR (tt, uu), bp, .int (kvs.length : Int))])) o = some (.lst ws8) := by rw [upd_ne (Ne.symm J8.ne)]; exact eo8
                have fin : JW P w H (upd (upd H8 d (ndO P w d (kvs ++ [(keyR (tt, uu), bp, .int (kvs.length : Int))]))) o (.lst (ws8 ++ [V.ref bp]))) d o (jgrow m1 m2 i r (t + 1)) ∧ (upd (upd H8 d (ndO P w d (kvs ++ [(keyR (tt, uu), bp, .int (kvs.length : Int))]))) o (.lst (ws8 ++ [V.ref bp]))) rl = some (.lst ((((prow m1 m2 r).take t).map (jix m1 m2)).map V.int)) ∧ (upd (upd H8 d (ndO P w d (kvs ++ [(keyR (tt, uu), bp, .int (kvs.length : Int))]))) o (.lst (ws8 ++ [V.ref bp]))) mo = some (.lst ms) ∧ Rps [rl, d, o, mo] (upd (upd H8 d (ndO P w d (kvs ++ [(keyR (tt, uu), bp, .int (kvs.length : Int))]))) o (.lst (ws8 ++ [V.ref bp]))) ms (((jrooms m1 m2).take i).map fun r => rowD (jrow m1 m2 r)) ∧ (upd (upd H8 d (ndO P w d (kvs ++ [(keyR (tt, uu), bp, .int (kvs.length : Int))]))) o (.lst (ws8 ++ [V.ref bp]))) bp = some (.tup [.int tt, .int uu]) := by
                  refine ⟨by rw [jgrow_no hx hm]; exact J9, ?_, ?_, (rt8.keep (Keep.upd (by simp))).keep (Keep.upd (by simp)), tk9 _ _ ebp⟩
                  · rw [upd_ne rlo, upd_ne rld]; exact el8
                  · rw [upd_ne moo, upd_ne mod]; exact em8
                exact ⟨_, rfl, .inl ⟨rfl, _, SqL.of eo9⟩, _, rfl, o, ws8, .ref bp, rfl, rfl, eo9, big (by rw [pw8.1]; omega), fin.1, fin.2.1, fin.2.2.1, fin.2.2.2.1, fin.2.2.2.2, rfl⟩
            · rintro σ' H9 ⟨J9, el9, em9, rt9, ebp9, rfl⟩
              obtain ⟨kvs, ed9, nk9, nd9⟩ := J9.dict
              have hm9 : (tt, uu) ∈ jgrow m1 m2 i r (t + 1) := by
                by_cases hm : (tt, uu) ∈ jgrow m1 m2 i r t
                · rw [jgrow_yes hx hm]; exact hm
                · rw [jgrow_no hx hm]; exact List.mem_append_right _ (List.mem_singleton.mpr rfl)
              have hix := jgrow_ix M1 M2 hr hm9
              refine ⟨_, rfl, .inl ⟨rfl, _, SqL.of el9⟩, _, rfl, _, rfl, d, kvs, bp, keyR (tt, uu), _, rfl, rfl, ed9, nk9, NV.pq ebp9, keyPQ_depth _ _, nd9.lookY jgrow_nodup hm9, rl, _, _, rfl, rfl, el9, big (by rw [List.length_map, List.length_map, List.length_take]; omega), .of ⟨J9.other rl0 rld rlo (fun ys e => by rw [el9] at e; cases e), ?_, by rw [upd_ne (Ne.symm rlm)]; exact em9, rt9.keep (Keep.upd (by simp)), _, _, rfl⟩⟩
              rw [upd_same, take_snoc hx, List.map_append, List.map_append, ← hix]
              rfl
          · obtain ⟨J6, el6, em6, rt6, x10, x11, rfl⟩ := hp.get
            rw [show (((row0.map V.int).length : Nat) : Int).toNat = k by rw [List.length_map]; omega] at J6 el6
            rw [jgrow_all hr (by omega)] at J6
            rw [List.take_of_length_le (by omega)] at el6
            have erow : ((prow m1 m2 r).map (jix m1 m2)).map V.int = (jrow m1 m2 r).map V.int := rfl
            rw [erow] at el6
            have hi2 : i + 1 ≤ (jord m1 m2 (i + 1)).length := by
              obtain ⟨q, e2⟩ := ordN_pre1 (row := prow m1 m2) (r0 := (0, 0)) i
              have e3 : (jord m1 m2 (i + 1)).length = (jord m1 m2 i).length + q.length := by
                unfold jord
                rw [e2, List.length_append]
              omega
            refine ⟨_, rfl, .inl ⟨rfl, _, SqL.of em6⟩, _, rfl, mo, _, _, rfl, rfl, em6, big (by have h1 := rt6.len; rw [List.length_map, List.length_take] at h1; have := hJ i; omega), .of ⟨hi2, J6.other mo0 mod moo (fun ys e => by rw [em6] at e; cases e), ⟨_, upd_same, ?_⟩, _, _, _, _, _, _, rfl⟩⟩
            rw [take_snoc hJr, List.map_append]
            exact ((rt6.less fun _ q => List.mem_cons_of_mem _ q).keep (Keep.upd (by simp))).snoc (.lst (by simp [rld, rlo, rlm]) (by rw [upd_ne rlm]; exact el6) (Rps.ints _))
      · obtain ⟨hi, J4, ⟨ms, em4, rt4⟩, x6, x7, x8, x9, x10, x11, rfl⟩ := hp.get
        rw [show (((m1.length * m2.length : Nat) : Int)).toNat = m1.length * m2.length by omega] at J4 rt4
        rw [List.take_of_length_le (show (jrooms m1 m2).length ≤ m1.length * m2.length from hJ _)] at rt4
        refine ⟨J4, ⟨ms, em4, ?_⟩, _, _, _, _, _, _, rfl⟩
        unfold jmoves
        rw [List.map_map]
        exact rt4
    · rintro σ' H4 ⟨J4, ⟨ms, em4, rt4⟩, x6, x7, x8, x9, x10, x11, rfl⟩
      obtain ⟨ws, eo4, pw4⟩ := J4.ord
      have S4 := J4.same
      have hjl : (jrooms m1 m2).length ≤ m1.length * m2.length := hJ _
      refine ⟨_, rfl, _, rfl, ⟨_, SqL.of eo4⟩, fun L hL => lc_F (j := 11) (Xp := fun i x => ws[i]? = some x) (fun i => D.bl (opR op g1 g2 ((jrooms m1 m2).getD i (0, 0)))) walk_list (fun i H x H' _ y => ⟨y.1, y.2⟩) hL (by rw [pw4.1]; omega) (fun H5 s5 => SqL.of (s5 _ _ eo4)) (fun _ => rfl) (fun i x H5 hi hx s5 Kt ht => ?_) (fun ys H5 s5 e5 r5 => ?_)⟩
      · have hl : i < (jrooms m1 m2).length := by rw [← pw4.1]; exact hi
        obtain ⟨bw, hbw, ebw⟩ := pw4.2 i _ (List.getElem?_eq_getElem hl)
        rw [hbw] at hx
        have ex := Option.some.inj hx
        subst ex
        have S5 := S4.trans s5
        refine ⟨_, rfl, _, rfl, bw, _, _, _, rfl, rfl, .inr (.inl (.inl (s5 _ _ ebw))), rfl, _, rfl, t1, _, _, _, rfl, rfl, .inr (.inl (.inl (S5 _ _ et1))), rfl, gb1, _, rfl, sqo (eg1.imp (S5 _ _) (S5 _ _)), rfl, flat_ints g1, ?_⟩
        rw [inV_ints]
        refine ⟨_, rfl, bw, _, _, _, rfl, rfl, .inr (.inl (.inl (s5 _ _ ebw))), rfl, _, rfl, t2, _, _, _, rfl, rfl, .inr (.inl (.inl (S5 _ _ et2))), rfl, gb2, _, rfl, sqo (eg2.imp (S5 _ _) (S5 _ _)), rfl, flat_ints g2, ?_⟩
        rw [inV_ints]
        refine ⟨op, _, _, rfl, ht _ _ (Same.refl _) ?_⟩
        rw [List.getD_eq_getElem?_getD, List.getElem?_eq_getElem hl]
        exact .bl _
      · have ey := r5.bls_eq (n := 0)
        have lws : ws.length = (jrooms m1 m2).length := pw4.1
        rw [ey, lws] at e5
        have S5 := S4.trans s5
        have dL : L ≠ d := fun e => by obtain ⟨kvs, e1, _⟩ := J4.dict; rw [e, e1] at hL; cases hL
        have oL : L ≠ o := fun e => by rw [e, eo4] at hL; cases hL
        have mL : L ≠ mo := fun e => by rw [e, em4] at hL; cases hL
        show gName 12 _ _ H5 _
        have rt5 := rt4.same s5
        have em5 := s5 _ _ em4
        have eo5 := s5 _ _ eo4
        refine ⟨_, rfl, _, rfl, o, _, rfl, .inl (SqL.of eo5), ((ws.length : Nat) : Int), rfl, by omega, by omega, fun L2 hL2 => lc_D (A := []) (S := []) (j := 13) (Xp := fun i x => x = .int (0 + (i : Int))) (fun i ds => ds = (((List.range i).filter fun j => opR op g1 g2 ((jrooms m1 m2).getD j (0, 0))).map fun (j : Nat) => ((j : Nat) : Int)).map D.int)
          (walk_range (lo := 0)) (fun i H x H' _ y => ⟨y.1, y.2⟩) Wd.nil hL2 (show (ws.length : Int).toNat ≤ 100000 by omega) (fun _ _ => trivial) rfl (fun i ds h => ?_) (fun _ => rfl) (fun i ds x6 H6 hi h hx6 W6 k6 Kt Kf ht hf => ?_) (fun ys2 ds H6 h g6 e6 r6 => ?_)⟩
        · rw [h, List.length_map, List.length_map]
          exact Nat.le_trans (List.length_filter_le ..) (by rw [List.length_range]; exact Nat.le_refl _)
        · subst hx6
          subst h
          have hi' : i < (jrooms m1 m2).length := by
            have : i < (ws.length : Int).toNat := hi
            omega
          have e6 := k6 L _ (fun z => by rw [List.mem_singleton.mp z, hL2] at e5; cases e5) e5
          have hat : atI (((List.range (jrooms m1 m2).length).map fun i => opR op g1 g2 ((jrooms m1 m2).getD i (0, 0))).map V.bl) (0 + (i : Int)) = some (.bl (opR op g1 g2 ((jrooms m1 m2).getD i (0, 0)))) := by
            rw [show (0 + (i : Int)) = ((i : Nat) : Int) by omega]
            refine atI_nat ?_
            rw [List.getElem?_map, List.getElem?_map, List.getElem?_range hi']
            rfl
          refine ⟨_, rfl, _, rfl, L, _, _, _, rfl, rfl, SqL.of e6, hat, _, rfl, ?_⟩
          have hsn : (List.range (i + 1)).filter (fun j => opR op g1 g2 ((jrooms m1 m2).getD j (0, 0))) = (List.range i).filter (fun j => opR op g1 g2 ((jrooms m1 m2).getD j (0, 0))) ++ (if opR op g1 g2 ((jrooms m1 m2).getD i (0, 0)) = true then [i] else []) := by
            rw [List.range_succ, List.filter_append, filter_one]
          cases hc : opR op g1 g2 ((jrooms m1 m2).getD i (0, 0)) with
          | false =>
            rw [hc] at hsn
            refine iteF (hf _ (Go.refl _ _) ?_)
            rw [hsn]
            simp
          | true =>
            rw [hc] at hsn
            refine iteT ⟨_, rfl, ht _ (.int (0 + (i : Int))) _ (Go.refl _ _) (.int _) ?_⟩
            rw [hsn]
            simp
        · subst h
          have s6 : Same H5 H6 := g6.nil
          have el : (((List.range (ws.length : Int).toNat).filter fun j => opR op g1 g2 ((jrooms m1 m2).getD j (0, 0))).map fun (j : Nat) => ((j : Nat) : Int)) = jgood m1 m2 (opR op g1 g2) := by
            unfold jgood
            rw [show (ws.length : Int).toNat = (jrooms m1 m2).length by omega]
          rw [el] at r6
          refine ⟨by show 2 ≤ sizeLine; exact szl rfl, fun p hp => ?_⟩
          have s7 : Same H6 (upd H6 p (.tup [.ref mo, .ref L2])) := Same.new hp
          have s67 := s6.trans s7
          exact kk (.ref p) _ (S5.trans s67) (.tup (by simp) upd_same (.cons (.lst (by simp) (s67 _ _ em5) ((rt5.less fun _ q => by cases q).same s67)) (.cons (.lst (by simp) (s7 _ _ e6) ((r6.less fun _ q => by cases q).same s7)) .nil)))
end

/-! ### _law_holds -/
open MA
theorem Rps.txts {S : List Addr} {H : Hp} : ∀ l : List Str, Rps S H (l.map V.str) (l.map D.str)
  | [] => .nil
  | _ :: r => .cons (.str _) (Rps.txts r)
def txtsD (l : List Str) : D := .lst (l.map D.str)
theorem low_txts {l : List Str} (h : ∀ x ∈ l, PyData.strOk x = true) : Low 1 (txtsD l) := .lst fun d hd => by
  obtain ⟨x, hx, rfl⟩ := List.mem_map.mp hd
  exact .str x (h x hx)
theorem low_words (e : Wr) : Low 1 (txtsD e.words) := low_txts fun x hx => by
  cases e <;> (simp only [Wr.words, List.mem_cons, List.not_mem_nil, or_false] at hx; rcases hx with rfl | rfl <;> decide +kernel)
abbrev sHolds : Stmt := top 53
def spHolds (ad : Ad) : Sp := fun vs H Q _ => ∃ (S : List Addr) (al : Str) (v : V) (p : Addr) (mv lm : List (List Int)) (g lg : List Int), vs = [.str al, v, .ref p] ∧ IsAl al ∧ MAt S H v mv g ∧ MachW al.length mv g ∧ CanonW al.length lm lg ∧ SameSet mv g lm lg 0 0 ∧
  ((60 < lm.length ∧ H p = some (.lst (Wr.many.words.map V.str))) ∨ (lm.length ≤ 60 ∧ ∃ U, RdAt ad U H p al lm lg)) ∧ ∀ H', Same H H' → Q (.bl true) H'
section
open PyProof.Rows
variable {P : Program} {w : World} {K : PySem.W.Frag} {mg : Str → Option Value} {base : Heap} {ad : Ad}
theorem scHolds : FnScope ["alphabet", "machine", "told"] ["alphabet", "machine", "told"] (C8.fnScope sHolds) := C8.fnScope_by (by decide +kernel)
theorem ok_holds {f : Addr} {fd : FuncData} (R : RdC K ad.Reader) (RI : RdI K ad.Reader) (rd_lst : PySem.W.kitOne K (.ref ad.Reader) (.type "list") = some false) (F : C8.Def K mg "_law_holds" sHolds f fd) (b : Binds K fd ["alphabet", "machine", "told"] []) (T : Txt mg) (O : Own K mg ad) (c_law_classes : C8.Cal P w K mg base 1 "_law_classes" spClasses8 []) (c_law_tells : C8.Cal P w K mg base 3 "_law_tells" (spTells ad) []) : C8.Cal P w K mg base 4 "_law_holds" (spHolds ad) [] := by
  refine C8.cal0 F b .nil scHolds (fun vs H Q E h => ?_) (fun cdv A outer s H vs Q E hr h => ?_)
  · obtain ⟨S, al, v, p, mv, lm, g, lg, rfl, _⟩ := h
    rfl
  · obtain ⟨S, al, v, p, mv, lm, g, lg, rfl, ial, mAt, M, C, ss, hc, kk⟩ := h
    have sc := scHolds
    have hl := ial.len
    refine ⟨_, -- _law_holds: 0 alphabet 1 machine 2 told

      (pss_cons (ps_if (pt_val (pe_callB call_isi (by rfl) T.isinstance (by decide +kernel) (pa_cons (pv 2) (pa_cons (pe_bltn (v := .ty "list") (u := .type "list") rfl T.list (by decide +kernel) rfl) pa_nil)))) 
        (pss_one (ps_ret (pe_and (pe_cmpR (op_eqD hr.units) (pv 2) (pe_lst (pa_cons pe_str (pa_cons pe_str pa_nil))) (nomark _)) (pe_one (pe_cmpR op_gt (C8.pe_c c_law_classes hr (by decide) rfl (pa_cons (pe_ix (ixQ (K := K) rfl) (pv 1) pe_int (fun _ _ => rfl)) (pa_cons (pe_ix (ixQ (K := K) rfl) (pv 1) pe_int (fun _ _ => rfl)) (pa_cons pe_int pa_nil)))) pe_int (nomark _)))))) pss_nil)
      (pss_one (ps_ret (C8.pe_c c_law_tells hr (by decide) rfl (pa_cons (pv 0) (pa_cons (pv 1) (pa_cons (pv 2) pa_nil))))))), ?_⟩
    rcases hc with ⟨h60, ep⟩ | ⟨h60, U, rx⟩
    · have rp : Rp [] H (.ref p) (txtsD Wr.many.words) := .lst (by simp) ep (Rps.txts _)
      refine ⟨_, rfl, _, _, _, _, _, rfl, .ty _, rp.ty, kit_lit (by decide) (rfl : (txtsD Wr.many.words).isa "list" = true), _, rfl, iteT ?_⟩
      refine ⟨_, rfl, by show 2 ≤ sizeLine; exact szl rfl, fun q hq => ?_⟩
      have s1 : Same H (upd H q (.lst [V.str "value", V.str "many 'room'"])) := Same.new hq
      have rq : Rp [] (upd H q (.lst [V.str "value", V.str "many 'room'"])) (.ref q) (txtsD Wr.many.words) := .lst (by simp) upd_same (Rps.txts Wr.many.words)
      refine eq_low (rp.same s1) rq (low_words .many) (low_words .many) (by decide) (by decide) True (by simp) ⟨_, rfl, iteT ?_⟩
      obtain ⟨t, x, y, dm, dg, rfl, nt, et, rx, ry, md, gd⟩ := mAt.same s1
      refine ⟨_, rfl, t, _, _, _, rfl, rfl, .inr (.inl (.inl et)), rfl, _, rfl, t, _, _, _, rfl, rfl, .inr (.inl (.inl et)), rfl, S, S, _, _, dm, dg, al.length, 60, mv, g, rfl, rx, md, ry, gd, M, hl.2, by decide, fun r H2 hr2 hc2 s2 => ?_⟩
      have hr60 : 60 < r := by
        rcases hc2 with ⟨j, h1, h2⟩ | h
        · have h3 := canon_cls M C ss (fun r _ s _ => cl08_iff g r s) h1
          omega
        · exact h
      refine ⟨_, _, rfl, rfl, ?_⟩
      show Q (V.bl (decide ((60 : Int) < (r : Int)))) H2
      rw [decide_eq_true (show (60 : Int) < (r : Int) by omega)]
      exact kk _ (s1.trans s2)
    · refine ⟨_, rfl, _, _, _, _, _, rfl, .ty _, rx.ty R RI, rd_lst, _, rfl, iteF ?_⟩
      exact ⟨_, rfl, _, rfl, _, rfl, S, U, al, v, p, mv, lm, g, lg, rfl, ial, mAt, M, rx, C.c h60, ss, kk⟩
end

/-! ## comprehensions that draw: numbers, rows of numbers, chosen numbers -/
section
variable {A S : List Addr} {J : It} {n : Nat} {G : Hp → Prop} {Y : Nat → Hp → V → Hp → Prop} {Xp : Nat → V → Prop} {j : Nat} {tt : TT} {te : TE} {vs : List Nat} {σ : L2.St} {H1 : Hp} {L : Addr} {Qd : Hp → Prop}
/-- numbers -/
theorem lc_I (P : Int → Prop) (w : Walk J n G Y) (hY : ∀ i H x H', i < n → Y i H x H' → H' = H ∧ Xp i x) (W : Wd A S H1) (hD : H1 L = none) (hn : n ≤ 100000)
    (hG : ∀ H, Keep (L :: A) H1 H → G H) (hw : ∀ x, wipe ((wipe σ vs).set j (some x)) vs = wipe σ vs)
    (hs : ∀ i x H, i < n → Xp i x → Wd A (L :: S) H → Keep (L :: A) H1 H → ∀ Kt : V → Hp → Prop, (∀ (z : Int) H', Go A H H' → P z → Kt (.int z) H') → te ((wipe σ vs).set j (some x)) H Kt)
    (hd : ∀ (q : List Int) H, q.length = n → (∀ x ∈ q, P x) → Go A H1 H → H L = some (.lst (q.map V.int)) → Qd H) :
    ∃ W : Nat → Nat → Hp → Prop, (∃ m, W 0 m (upd H1 L (.lst []))) ∧ ∀ i m H, W i m H →
      (J.stop i H ∧ Qd H) ∨ (J.go i H ∧ ∃ Nx : Hp → Prop, (∀ H', Nx H' → ∃ m', m' < m ∧ W (i + 1) m' H') ∧ ∀ x H', J.yld i H x H' → gName j x (wipe σ vs) H' fun σ2 H2 => wipe σ2 vs = wipe σ vs ∧ tYes σ2 H2 fun b H3 =>
        if b = true then te σ2 H3 fun y H4 => ∃ acc, H4 L = some (.lst acc) ∧ acc.length < sizeLine ∧ Nx (upd H4 L (.lst (acc ++ [y]))) else Nx H3) := by
  refine lc_D (A := A) (S := S) (Xp := Xp) (fun i ds => ∃ q : List Int, ds = q.map D.int ∧ q.length = i ∧ ∀ x ∈ q, P x) w hY W hD hn hG ⟨[], rfl, rfl, by simp⟩ (fun i ds h => ?_) hw (fun i ds x H hi h hx W2 k Kt Kf ht hf => ?_) (fun ys ds H h g e r => ?_)
  · obtain ⟨q, e, hq, _⟩ := h
    rw [e, List.length_map, hq]
    exact Nat.le_refl _
  · obtain ⟨q, e, hq, hp⟩ := h
    refine yes_go (hs i x H hi hx W2 k Kt fun z H' g hz => ht _ (.int z) H' g (.int z) ⟨q ++ [z], by rw [e, List.map_append]; rfl, by rw [List.length_append, hq]; rfl, fun y hy => ?_⟩)
    rcases List.mem_append.mp hy with hy | hy
    · exact hp y hy
    · rw [List.mem_singleton.mp hy]; exact hz
  · obtain ⟨q, rfl, hq, hp⟩ := h
    rw [r.ints_eq] at e
    exact hd q H hq hp g e
/-- rows of k numbers below N -/
theorem lc_M (k N : Nat) (w : Walk J n G Y) (hY : ∀ i H x H', i < n → Y i H x H' → H' = H ∧ Xp i x) (W : Wd A S H1) (hD : H1 L = none) (hn : n ≤ 100000)
    (hG : ∀ H, Keep (L :: A) H1 H → G H) (hw : ∀ x, wipe ((wipe σ vs).set j (some x)) vs = wipe σ vs)
    (hs : ∀ i x H, i < n → Xp i x → Wd A (L :: S) H → Keep (L :: A) H1 H → ∀ Kt : V → Hp → Prop, (∀ (b : Addr) (q : List Int) H', Go A H H' → b ∉ L :: S → H' b = some (.lst (q.map V.int)) → q.length = k → (∀ x ∈ q, 0 ≤ x ∧ x < (N : Int)) → Kt (.ref b) H') → te ((wipe σ vs).set j (some x)) H Kt)
    (hd : ∀ (rows : List (List Int)) H, rows.length = n → (∀ q ∈ rows, q.length = k ∧ ∀ x ∈ q, 0 ≤ x ∧ x < (N : Int)) → Go A H1 H → Rp S H (.ref L) (mvD rows) → Qd H) :
    ∃ W : Nat → Nat → Hp → Prop, (∃ m, W 0 m (upd H1 L (.lst []))) ∧ ∀ i m H, W i m H →
      (J.stop i H ∧ Qd H) ∨ (J.go i H ∧ ∃ Nx : Hp → Prop, (∀ H', Nx H' → ∃ m', m' < m ∧ W (i + 1) m' H') ∧ ∀ x H', J.yld i H x H' → gName j x (wipe σ vs) H' fun σ2 H2 => wipe σ2 vs = wipe σ vs ∧ tYes σ2 H2 fun b H3 =>
        if b = true then te σ2 H3 fun y H4 => ∃ acc, H4 L = some (.lst acc) ∧ acc.length < sizeLine ∧ Nx (upd H4 L (.lst (acc ++ [y]))) else Nx H3) := by
  refine lc_D (A := A) (S := S) (Xp := Xp) (fun i ds => ∃ rows : List (List Int), ds = rows.map rowD ∧ rows.length = i ∧ ∀ q ∈ rows, q.length = k ∧ ∀ x ∈ q, 0 ≤ x ∧ x < (N : Int)) w hY W hD hn hG ⟨[], rfl, rfl, by simp⟩ (fun i ds h => ?_) hw (fun i ds x H hi h hx W2 k2 Kt Kf ht hf => ?_) (fun ys ds H h g e r => ?_)
  · obtain ⟨q, e, hq, _⟩ := h
    rw [e, List.length_map, hq]
    exact Nat.le_refl _
  · obtain ⟨rows, e, hq, hp⟩ := h
    refine yes_go (hs i x H hi hx W2 k2 Kt fun b q H' g hb eb h1 h2 => ht _ (rowD q) H' g (.lst hb eb (Rps.ints q)) ⟨rows ++ [q], by rw [e, List.map_append]; rfl, by rw [List.length_append, hq]; rfl, fun y hy => ?_⟩)
    rcases List.mem_append.mp hy with hy | hy
    · exact hp y hy
    · rw [List.mem_singleton.mp hy]; exact ⟨h1, h2⟩
  · obtain ⟨rows, rfl, hq, hp⟩ := h
    exact hd rows H hq hp g (.lst (W.fresh hD) e (r.less fun _ z => List.mem_cons_of_mem _ z))
/-- chosen numbers of a range -/
theorem lc_C (w : Walk J n G Y) (hY : ∀ i H x H', i < n → Y i H x H' → H' = H ∧ x = .int (0 + (i : Int))) (W : Wd A S H1) (hD : H1 L = none) (hn : n ≤ 100000)
    (hG : ∀ H, Keep (L :: A) H1 H → G H) (hw : ∀ x, wipe ((wipe σ vs).set j (some x)) vs = wipe σ vs)
    (hs : ∀ (i : Nat) H, i < n → Wd A (L :: S) H → Keep (L :: A) H1 H → ∀ Kb : Bool → Hp → Prop, (∀ b H', Go A H H' → Kb b H') → tt ((wipe σ vs).set j (some (.int (i : Int)))) H Kb)
    (he : ∀ (i : Nat) H (Kt : V → Hp → Prop), Kt (.int (i : Int)) H → te ((wipe σ vs).set j (some (.int (i : Int)))) H Kt)
    (hd : ∀ (g : List Int) H, g.Pairwise (· < ·) → (∀ x ∈ g, 0 ≤ x ∧ x < (n : Int)) → Go A H1 H → Rp S H (.ref L) (rowD g) → H L = some (.lst (g.map V.int)) → Qd H) :
    ∃ W : Nat → Nat → Hp → Prop, (∃ m, W 0 m (upd H1 L (.lst []))) ∧ ∀ i m H, W i m H →
      (J.stop i H ∧ Qd H) ∨ (J.go i H ∧ ∃ Nx : Hp → Prop, (∀ H', Nx H' → ∃ m', m' < m ∧ W (i + 1) m' H') ∧ ∀ x H', J.yld i H x H' → gName j x (wipe σ vs) H' fun σ2 H2 => wipe σ2 vs = wipe σ vs ∧ tt σ2 H2 fun b H3 =>
        if b = true then te σ2 H3 fun y H4 => ∃ acc, H4 L = some (.lst acc) ∧ acc.length < sizeLine ∧ Nx (upd H4 L (.lst (acc ++ [y]))) else Nx H3) := by
  refine lc_D (A := A) (S := S) (Xp := fun i x => x = .int (0 + (i : Int))) (fun i ds => ∃ g : List Int, ds = g.map D.int ∧ g.Pairwise (· < ·) ∧ ∀ x ∈ g, 0 ≤ x ∧ x < (i : Int)) w hY W hD hn hG ⟨[], rfl, by simp, by simp⟩ (fun i ds h => ?_) hw (fun i ds x H hi h hx W2 k Kt Kf ht hf => ?_) (fun ys ds H h g e r => ?_)
  · obtain ⟨g, rfl, hg, hb⟩ := h
    rw [List.length_map]
    exact asc_le (lo := 0) hg (fun x hx => by have := hb x hx; omega)
  · obtain ⟨g, rfl, hg, hb⟩ := h
    subst hx
    rw [Int.zero_add]
    refine hs i H hi W2 k _ fun b H' g1 => ?_
    cases b with
    | false => exact hf H' g1 ⟨g, rfl, hg, fun x hx => by have := hb x hx; omega⟩
    | true =>
      refine he i H' _ (ht _ (.int (i : Int)) H' g1 (.int _) ⟨g ++ [(i : Int)], by simp, ?_, fun x hx => ?_⟩)
      · refine List.pairwise_append.mpr ⟨hg, by simp, fun x hx y hy => ?_⟩
        rw [List.mem_singleton.mp hy]
        exact (hb x hx).2
      · rcases List.mem_append.mp hx with hx | hx
        · have := hb x hx
          omega
        · rw [List.mem_singleton.mp hx]
          omega
  · obtain ⟨g0, rfl, hg, hb⟩ := h
    have rl : Rp S H (.ref L) (rowD g0) := .lst (W.fresh hD) e (r.less fun _ z => List.mem_cons_of_mem _ z)
    rw [r.ints_eq] at e
    exact hd g0 H hg hb g rl e
end

/-! ### _law_line -/
open MA
theorem iota_asc (n : Nat) : (iota n).Pairwise (· < ·) := by
  unfold iota
  refine List.pairwise_map.mpr ?_
  exact List.Pairwise.imp (fun h => Int.ofNat_lt.mpr h) List.pairwise_lt_range
abbrev sLine : Stmt := top 43
def spLine : Sp := fun vs H Q _ => ∃ (S : List Addr) (al wo : Str) (cut : Int), vs = [.str al, .str wo, .int cut] ∧ (1 ≤ al.length ∧ al.length ≤ 3) ∧ (1 ≤ wo.length ∧ wo.length ≤ 3) ∧ -1 ≤ cut ∧ cut ≤ 28 ∧ Wd [] S H ∧
  ∀ (v : V) (mv : List (List Int)) (g : List Int) (H' : Hp), Same H H' → Rp S H' v (.tup [mvD mv, rowD g]) → Mach al.length mv g → Q v H'
section
open PyProof.Rows
variable {P : Program} {w : World} {K : PySem.W.Frag} {mg : Str → Option Value} {base : Heap}
theorem scLine : FnScope ["alphabet", "word", "cut", "size", "moves", "k", "ahead", "letter", "one"] ["alphabet", "word", "cut"] (C8.fnScope sLine) := C8.fnScope_by (by decide +kernel)
theorem ok_line {f : Addr} {fd : FuncData} (F : C8.Def K mg "_law_line" sLine f fd) (b : Binds K fd ["alphabet", "word", "cut"] []) (T : Txt mg) : C8.Cal P w K mg base 1 "_law_line" spLine [] := by
  refine C8.cal0 F b .nil scLine (fun vs H Q E h => ?_) (fun cdv A outer s H vs Q E hr h => ?_)
  · obtain ⟨S, al, wo, cut, rfl, _⟩ := h
    rfl
  · obtain ⟨S, al, wo, cut, rfl, hal, hwo, hc0, hc1, W, kk⟩ := h
    have sc := scLine
    refine ⟨_, -- _law_line: 0 alphabet 1 word 2 cut 3 size* 4 moves 5 k 6 ahead* 7 letter* 8 one

      (C8.pss_cut (ps_set (i := 3) sc.nd rfl (Or.inr rfl) (pe_ifExp (pt_cmpR op_lt (pv 2) pe_int (nomark _)) (pe_callB call_len_str (by rfl) T.len PySem.boot_len (pa_cons (pv 1) pa_nil)) (pe_op op_add (pv 2) pe_int)))
      (pss_cons (ps_set (i := 4) sc.nd rfl (Or.inl rfl) (pe_lst pa_nil))
      (pss_cons (ps_for PassesOwn.never rfl (pi_range1 (by rfl) T.range (pa_cons (pv 3) pa_nil)) (pg_name (i := 5) sc.nd rfl (Or.inl rfl)) 
        (C8.pss_cut (ps_set (i := 6) sc.nd rfl (Or.inr rfl) (pe_ifExp (pt_cmpR op_lt (pe_op op_add (pv 5) pe_int) (pv 3) (nomark _)) (pe_op op_add (pv 5) pe_int) (pe_ifExp (pt_cmpR op_lt (pv 2) pe_int (nomark _)) pe_int (pv 3))))
        (pss_cons (ps_set (i := 7) sc.nd rfl (Or.inr rfl) (pe_ix ix_str (pv 1) (pe_op op_mod (pe_callTy (T := "int") call_int1 (by rfl) T.int (by decide +kernel) (pa_cons (pv 5) pa_nil)) (pe_callB call_len_str (by rfl) T.len PySem.boot_len (pa_cons (pv 1) pa_nil))) (fun _ _ => rfl)))
        (pss_one (ps_expr (pe_append (K := K) rfl (pv 4) (pa_cons (pe_lc (own := [("one", 8)]) (g := gName 8) rfl sc.nd (pi_str (pv 0)) (blkOk_by (own := [("one", 8)]) (by kernel_rfl)) (fun _ _ _ _ _ => (pg_name (i := 8) sc.nd rfl (Or.inl rfl))) (fun _ _ _ _ _ => pts_nil) (fun _ _ _ _ _ => (pe_ifExp (pt_cmpR op_eq (pv 8) (pv 7) (nomark _)) (pv 6) (pv 3)))) pa_nil)))))))
      (pss_cons (ps_expr (pe_append (K := K) rfl (pv 4) (pa_cons (pe_lc (own := [("one", 8)]) (g := gName 8) rfl sc.nd (pi_str (pv 0)) (blkOk_by (own := [("one", 8)]) (by kernel_rfl)) (fun _ _ _ _ _ => (pg_name (i := 8) sc.nd rfl (Or.inl rfl))) (fun _ _ _ _ _ => pts_nil) (fun _ _ _ _ _ => (pv 3))) pa_nil)))
      (pss_one (ps_ret (pe_tup (pa_cons (pv 4) (pa_cons (pe_lc (own := [("k", 5)]) (g := gName 5) rfl sc.nd (pi_range1 (by rfl) T.range (pa_cons (pv 3) pa_nil)) (blkOk_by (own := [("k", 5)]) (by kernel_rfl)) (fun _ _ _ _ _ => (pg_name (i := 5) sc.nd rfl (Or.inl rfl))) (fun _ _ _ _ _ => pts_nil) (fun _ _ _ _ _ => (pv 5))) pa_nil))))))))), ?_⟩
    refine ⟨fun σ' H' => H' = H ∧ ∃ N : Nat, 1 ≤ N ∧ N ≤ 29 ∧ σ' = [some (.str al), some (.str wo), some (.int cut), some (.int (N : Int)), none, none, none, none, none], ?_, ?_⟩
    · walk_at "rd"
      refine ite2 (fun h => ?_) (fun h => ?_)
      · walk_at "rd"
        exact ⟨by have : (1000 : Nat) ≤ sizeLine := szl rfl; omega, rfl, wo.length, hwo.1, by omega, rfl⟩
      · have h : ¬ cut < 0 := fun z => h (decide_eq_true z)
        walk_at "rd"
        refine ⟨(cut + 1).toNat, by omega, by omega, ?_⟩
        rw [show (((cut + 1).toNat : Nat) : Int) = cut + 1 by omega]
        rfl
    · rintro σ' H' ⟨rfl, N, hN0, hN1, rfl⟩
      refine ⟨by show 0 ≤ sizeLine; exact szl rfl, fun l hl => ?_⟩
      have s1 : Same H' (upd H' l (.lst [])) := Same.new hl
      have el : upd H' l (.lst []) l = some (.lst ([] : List V)) := upd_same
      have hlS := W.fresh hl
      show tSeq _ _ _ _ (upd H' l (.lst []))
      generalize upd H' l (.lst []) = H1 at s1 el ⊢
      walk_at "rd"
      let okR : List Int → Prop := fun r => r.length = al.length ∧ ∀ x ∈ r, 0 ≤ x ∧ x ≤ (N : Int)
      refine for_it (walk_range (lo := 0)) (fun i σ H2 => Iv (Same H' H2 ∧ ∃ ws rows, H2 l = some (.lst ws) ∧ Rps (l :: S) H2 ws (rows.map rowD) ∧ rows.length = i ∧ (∀ r ∈ rows, okR r) ∧ ∃ y5 y6 y7, σ = [some (.str al), some (.str wo), some (.int cut), some (.int (N : Int)), some (.ref l), y5, y6, y7, none])) (.of ⟨s1, [], [], el, .nil, rfl, (fun r hr => by cases hr), _, _, _, rfl⟩) (fun _ _ _ _ _ => trivial) (fun i y σ H2 H3 hi hp hy => ?_) (fun σ H2 hp => ?_)
      · obtain ⟨s2, ws, rows, ew, rw2, lr, or, y5, y6, y7, rfl⟩ := hp.get
        obtain ⟨rfl, rfl⟩ := hy
        have hi' : i < N := by omega
        show gName 5 (V.int (0 + (i : Int))) _ _ _
        rw [Int.zero_add]
        refine ⟨fun σ' H4 => H4 = H3 ∧ ∃ ah : Int, 0 ≤ ah ∧ ah ≤ (N : Int) ∧ σ' = [some (.str al), some (.str wo), some (.int cut), some (.int (N : Int)), some (.ref l), some (.int (i : Int)), some (.int ah), y7, none], ?_, ?_⟩
        · walk_at "rd"
          refine ite2 (fun h => ?_) (fun h => ?_)
          · walk_at "rd"
            exact ⟨_, by omega, by omega, rfl⟩
          · walk_at "rd"
            refine ite2 (fun h => ?_) (fun h => ?_)
            · exact ⟨rfl, 0, by omega, by omega, rfl⟩
            · walk_at "rd"
              exact ⟨_, by omega, by omega, rfl⟩
        · rintro σ' H4 ⟨rfl, ah, ha0, ha1, rfl⟩
          obtain ⟨n, hn, hat⟩ : ∃ c, atI wo.cps.toList ((i : Int) % ((wo.length : Nat) : Int)) = some c ∧ True := by
            have h1 : (i : Int) % ((wo.length : Nat) : Int) = ((i % wo.length : Nat) : Int) := by omega
            have h2 : i % wo.length < wo.cps.toList.length := by
              rw [Array.length_toList]
              exact Nat.mod_lt _ hwo.1
            exact ⟨_, by rw [h1]; exact atI_nat (List.getElem?_eq_getElem h2), trivial⟩
          have hsz : ∀ {n : Nat}, n ≤ 3 → n ≤ sizeLine := fun {n} h => Nat.le_trans h (szl rfl)
          refine ⟨_, rfl, _, rfl, .inl ⟨_, rfl, _, rfl, wo, rfl, hsz hwo.2, _, _, rfl, rfl, by show (0 : Int) < _; omega, wo, _, n, rfl, rfl, hsz hwo.2, hn, ?_⟩⟩
          refine ⟨_, rfl, .inl ⟨rfl, _, SqL.of ew⟩, _, rfl, al, rfl, fun L hL => lc_D (A := []) (S := l :: S) (j := 8) (Xp := fun _ x => ∃ z : Str, x = .str z) (fun i ds => ∃ r : List Int, ds = r.map D.int ∧ r.length = i ∧ ∀ x ∈ r, 0 ≤ x ∧ x ≤ (N : Int)) walk_str (fun i H x H' _ y => ⟨y.1, ?_⟩) ⟨by simp, by simp, ?_⟩ hL (by have : al.cps.size = al.length := rfl; omega) (fun _ _ => trivial) ⟨[], rfl, rfl, by simp⟩ (fun i ds h => ?_) (fun _ => rfl) (fun i ds x H5 hi h hx W5 k5 Kt Kf ht hf => ?_) (fun ys ds H5 h g5 e5 r5 => ?_)⟩
          · obtain ⟨c, _, e⟩ := y.2
            exact ⟨_, e⟩
          · intro a ha
            rcases List.mem_cons.mp ha with e | ha
            · rw [e]; exact ⟨_, ew⟩
            · obtain ⟨o, e⟩ := W.ex a ha
              exact ⟨o, s2 _ _ e⟩
          · obtain ⟨r, e, hr, _⟩ := h
            rw [e, List.length_map, hr]
            exact Nat.le_refl _
          · obtain ⟨r, e, hr, hr2⟩ := h
            obtain ⟨z, rfl⟩ := hx
            refine yes_go ⟨_, rfl, _, rfl, rfl, _, rfl, ?_⟩
            refine ite2 (fun _ => ?_) (fun _ => ?_)
            · exact ⟨_, rfl, ht _ (.int ah) _ (Go.refl _ _) (.int _) ⟨r ++ [ah], by rw [e, List.map_append]; rfl, by rw [List.length_append, hr]; rfl, fun x hx => (List.mem_append.mp hx).elim (hr2 x) fun q => by rw [List.mem_singleton.mp q]; exact ⟨ha0, ha1⟩⟩⟩
            · exact ⟨_, rfl, ht _ (.int (N : Int)) _ (Go.refl _ _) (.int _) ⟨r ++ [(N : Int)], by rw [e, List.map_append]; rfl, by rw [List.length_append, hr]; rfl, fun x hx => (List.mem_append.mp hx).elim (hr2 x) fun q => by rw [List.mem_singleton.mp q]; omega⟩⟩
          · obtain ⟨r, rfl, hr, hr2⟩ := h
            have s5 := g5.nil
            have nL : L ∉ l :: S := fun hm => by
              rcases List.mem_cons.mp hm with e | hm
              · rw [e, ew] at hL; cases hL
              · obtain ⟨o, e⟩ := W.ex L hm
                rw [s2 _ _ e] at hL; cases hL
            have rL : Rp (l :: S) H5 (.ref L) (rowD r) := .lst nL e5 (r5.less fun _ q => List.mem_cons_of_mem _ q)
            have k5 : Keep (l :: S) H5 (upd H5 l (.lst (ws ++ [V.ref L]))) := Keep.upd (by simp)
            refine ⟨l, ws, V.ref L, rfl, rfl, s5 _ _ ew, Nat.lt_of_le_of_lt (m := 100) (by rw [rw2.len, List.length_map]; omega) (by decide), .of ⟨same_upd (s2.trans s5) hl, ws ++ [V.ref L], rows ++ [r], upd_same, ?_, by rw [List.length_append, lr]; rfl, fun q hq => ?_, _, _, _, rfl⟩⟩
            · rw [List.map_append]
              exact ((rw2.same s5).keep k5).snoc (rL.keep k5)
            · rcases List.mem_append.mp hq with hq | hq
              · exact or q hq
              · rw [List.mem_singleton.mp hq]
                exact ⟨by rw [hr]; rfl, hr2⟩
      · obtain ⟨s2, ws, rows, ew, rw2, lr, or, y5, y6, y7, rfl⟩ := hp.get
        have hN : ((N : Nat) : Int).toNat = N := by omega
        rw [hN] at lr
        refine ⟨_, rfl, .inl ⟨rfl, _, SqL.of ew⟩, _, rfl, al, rfl, fun L hL => lc_F (j := 8) (Xp := fun _ _ => True) (fun i => D.int (N : Int)) walk_str (fun i H x H' _ y => ⟨y.1, trivial⟩) hL (by have : al.cps.size = al.length := rfl; omega) (fun _ _ => trivial) (fun _ => rfl) (fun i x H5 hi hx s5 Kt ht => ?_) (fun ys H5 s5 e5 r5 => ?_)⟩
        · exact ⟨_, rfl, ht _ _ (Same.refl _) (.int _)⟩
        · have nL : L ∉ l :: S := fun hm => by
            rcases List.mem_cons.mp hm with e | hm
            · rw [e, ew] at hL; cases hL
            · obtain ⟨o, e⟩ := W.ex L hm
              rw [s2 _ _ e] at hL; cases hL
          have eN : (List.range al.cps.size).map (fun _ => D.int (N : Int)) = (List.replicate al.length (N : Int)).map D.int := by
            rw [List.map_replicate, List.map_const', List.length_range]
            rfl
          rw [eN] at r5
          have rL : Rp (l :: S) H5 (.ref L) (rowD (List.replicate al.length (N : Int))) := .lst nL e5 (r5.ints_eq ▸ Rps.ints _)
          have k5 : Keep (l :: S) H5 (upd H5 l (.lst (ws ++ [V.ref L]))) := Keep.upd (by simp)
          refine ⟨l, ws, V.ref L, rfl, rfl, s5 _ _ ew, Nat.lt_of_le_of_lt (m := 100) (by rw [rw2.len, List.length_map]; omega) (by decide), ?_⟩
          have s6 : Same H' (upd H5 l (.lst (ws ++ [V.ref L]))) := same_upd (s2.trans s5) hl
          have rws : Rps (l :: S) (upd H5 l (.lst (ws ++ [V.ref L]))) (ws ++ [V.ref L]) ((rows ++ [List.replicate al.length (N : Int)]).map rowD) := by
            rw [List.map_append]
            exact ((rw2.same s5).keep k5).snoc (rL.keep k5)
          have ew6 : upd H5 l (.lst (ws ++ [V.ref L])) l = some (.lst (ws ++ [V.ref L])) := upd_same
          generalize upd H5 l (.lst (ws ++ [V.ref L])) = H6 at s6 rws ew6 ⊢
          have rl : Rp S H6 (.ref l) (mvD (rows ++ [List.replicate al.length (N : Int)])) := .lst hlS ew6 (rws.less fun _ q => List.mem_cons_of_mem _ q)
          have W6 : Wd [] S H6 := W.go (Go.same s6)
          refine ⟨_, rfl, _, rfl, _, rfl, by omega, by omega, fun L2 hL2 => lc_F (j := 5) (Xp := fun i x => x = .int (0 + (i : Int))) (fun i => D.int (i : Int)) (walk_range (lo := 0)) (fun i H x H' _ y => ⟨y.1, y.2⟩) hL2 (by omega) (fun _ _ => trivial) (fun _ => rfl) (fun i x H7 hi hx s7 Kt ht => ?_) (fun ys2 H7 s7 e7 r7 => ?_)⟩
          · subst hx
            rw [Int.zero_add]
            exact ⟨_, rfl, ht _ _ (Same.refl _) (.int _)⟩
          · rw [hN] at r7
            have e9 : (List.range N).map (fun (i : Nat) => D.int (i : Int)) = (iota N).map D.int := by
              unfold iota
              rw [List.map_map]
              rfl
            rw [e9] at r7
            have W7 := W6.go (Go.same s7)
            have rg : Rp S H7 (.ref L2) (rowD (iota N)) := .lst (W6.fresh hL2) e7 (r7.ints_eq ▸ Rps.ints _)
            refine ⟨by show 2 ≤ sizeLine; exact szl rfl, fun p hp => kk _ (rows ++ [List.replicate al.length (N : Int)]) (iota N) _ (s6.trans (s7.trans (Same.new hp))) (.tup (W7.fresh hp) upd_same (.cons (rl.same (s7.trans (Same.new hp))) (.cons (rg.same (Same.new hp)) .nil))) ?_⟩
            have hlen : (rows ++ [List.replicate al.length (N : Int)]).length = N + 1 := by rw [List.length_append, lr]; rfl
            refine ⟨by omega, by omega, fun r hr => ?_, iota_asc N, fun x hx => ?_⟩
            · rw [hlen]
              rcases List.mem_append.mp hr with hr | hr
              · obtain ⟨h1, h2⟩ := or r hr
                exact ⟨h1, fun x hx => by have := h2 x hx; omega⟩
              · rw [List.mem_singleton.mp hr]
                exact ⟨List.length_replicate, fun x hx => by rw [List.eq_of_mem_replicate hx]; omega⟩
            · rw [hlen]
              have := mem_iota.mp hx
              omega
end

/-! ### _law_changed -/
open MA
abbrev sChanged : Stmt := top 54
def spChanged : Sp := fun vs H Q _ => ∃ (A S : List Addr) (a : Addr) (v : V) (k : Nat) (mv : List (List Int)) (g : List Int), vs = [.ref a, v] ∧ a ∈ A ∧ Wd A S H ∧ Rp S H v (.tup [mvD mv, rowD g]) ∧ Mach k mv g ∧ 1 ≤ k ∧ k ≤ 3 ∧
  ∀ (v : V) (mv : List (List Int)) (g : List Int) (H' : Hp), Go A H H' → Rp S H' v (.tup [mvD mv, rowD g]) → Mach k mv g → Q v H'
section
open PyProof.Rows
variable {P : Program} {w : World} {K : PySem.W.Frag} {mg : Str → Option Value} {base : Heap}
theorem scChanged : FnScope ["source", "told", "size", "at", "moves", "row", "p"] ["source", "told"] (C8.fnScope sChanged) := C8.fnScope_by (by decide +kernel)
theorem ok_changed {f : Addr} {fd : FuncData} (F : C8.Def K mg "_law_changed" sChanged f fd) (b : Binds K fd ["source", "told"] []) (T : Txt mg) (c_law_pick : C8.Cal P w K mg base 1 "_law_pick" spPick []) : C8.Cal P w K mg base 2 "_law_changed" spChanged [] := by
  refine C8.cal0 F b .nil scChanged (fun vs H Q E h => ?_) (fun cdv A0 outer s H vs Q E hr h => ?_)
  · obtain ⟨A, S, a, v, k, mv, g, rfl, _⟩ := h
    rfl
  · obtain ⟨A, S, a, v, k, mv, g, rfl, hm, W, rv, M, hk1, hk3, kk⟩ := h
    have sc := scChanged
    have ml := M.most
    have mp := M.pos
    obtain ⟨mt, ws, rfl, nt, et, hws⟩ := rv.tupItem
    cases hws with
    | cons h1 hws =>
    cases hws with
    | cons h2 hws =>
    cases hws
    cases h1 with
    | @lst am xs _ nam eam rxs =>
    cases h2 with
    | @lst ag gs _ nag eag rgs =>
    have eag' : H ag = some (.lst (g.map V.int)) := by rw [← rgs.ints_eq]; exact eag
    have xl := rxs.len
    rw [List.length_map] at xl
    refine ⟨_, -- _law_changed: 0 source 1 told* 2 size 3 at* 4 moves 5 row 6 p

      (pss_cons (ps_set (i := 2) sc.nd rfl (Or.inl rfl) (pe_callB (call_lenQ (K := K) rfl) (by rfl) T.len PySem.boot_len (pa_cons (pe_ix (ixQ (K := K) rfl) (pv 1) pe_int (fun _ _ => rfl)) pa_nil)))
      (pss_cons (ps_set (i := 3) sc.nd rfl (Or.inr rfl) (C8.pe_c c_law_pick hr (by decide) rfl (pa_cons (pv 0) (pa_cons (pv 2) pa_nil))))
      (pss_cons (ps_if (pt_cmpR op_eq (C8.pe_c c_law_pick hr (by decide) rfl (pa_cons (pv 0) (pa_cons pe_int pa_nil))) pe_int (nomark _)) 
        (pss_one (ps_ret (pe_tup (pa_cons (pe_ix (ixQ (K := K) rfl) (pv 1) pe_int (fun _ _ => rfl)) (pa_cons (pe_lc (own := [("p", 6)]) (g := gName 6) rfl sc.nd (pi_range1 (by rfl) T.range (pa_cons (pv 2) pa_nil)) (blkOk_by (own := [("p", 6)]) (by kernel_rfl)) (fun _ _ _ _ _ => (pg_name (i := 6) sc.nd rfl (Or.inl rfl))) (fun _ _ _ _ _ => (pts_one (pt_cmpR op_ne (pe_cmpR (op_inQ (K := K) rfl) (pv 6) (pe_ix (ixQ (K := K) rfl) (pv 1) pe_int (fun _ _ => rfl)) (by rfl)) (pe_cmpR op_eq (pv 6) (pv 3) (nomark _)) (nomark _)))) (fun _ _ _ _ _ => (pv 6))) pa_nil))))) pss_nil)
      (pss_cons (ps_setLc (i := 4) (own := [("row", 5)]) (g := gName 5) rfl sc.nd rfl rfl (sw_true rfl rfl rfl (by decide +kernel)) (pi_list (pe_ix (ixQ (K := K) rfl) (pv 1) pe_int (fun _ _ => rfl))) (blkOk_by (own := [("row", 5)]) (by kernel_rfl)) (fun _ _ _ _ _ => (pg_name (i := 5) sc.nd rfl (Or.inl rfl))) (fun _ _ _ _ _ => pts_nil) (fun _ _ _ _ _ => (pe_callTy (T := "list") (call_lstQ (K := K) rfl) (by rfl) T.list (by decide +kernel) (pa_cons (pv 5) pa_nil))))
      (pss_cons (ps_set (i := 5) sc.nd rfl (Or.inl rfl) (pe_ix ix_list (pv 4) (pv 3) (fun _ _ => rfl)))
      (pss_cons (ps_asg (C8.pe_c c_law_pick hr (by decide) rfl (pa_cons (pv 0) (pa_cons (pv 2) pa_nil))) (pg_sub (pv 5) (C8.pe_c c_law_pick hr (by decide) rfl (pa_cons (pv 0) (pa_cons (pe_callB (call_lenQ (K := K) rfl) (by rfl) T.len PySem.boot_len (pa_cons (pv 5) pa_nil)) pa_nil))) set_list))
      (pss_one (ps_ret (pe_tup (pa_cons (pv 4) (pa_cons (pe_callTy (T := "list") (call_lstQ (K := K) rfl) (by rfl) T.list (by decide +kernel) (pa_cons (pe_ix (ixQ (K := K) rfl) (pv 1) pe_int (fun _ _ => rfl)) pa_nil)) pa_nil))))))))))), ?_⟩
    have nA : ∀ {b : Addr}, b ∉ S → b ∉ A := fun h z => h (W.sub _ z)
    refine ⟨_, rfl, mt, _, _, _, rfl, rfl, .inr (.inl (.inl et)), rfl, am, xs, rfl, .inl (SqL.of eam), ?_⟩
    refine ⟨_, rfl, _, rfl, A, a, _, rfl, hm, W.src, by omega, by omega, fun r0 H1 hr0 hr1 g1 => ?_⟩
    have W1 := W.go g1
    refine ⟨_, rfl, A, a, _, rfl, hm, W1.src, by omega, by omega, fun z1 H2 hz0 hz1 g2 => ?_⟩
    have W2 := W1.go g2
    have g12 := g1.trans g2
    have et2 := g12.keep mt _ (nA nt) et
    have eam2 := g12.keep am _ (nA nam) eam
    have eag2 := g12.keep ag _ (nA nag) eag'
    have rxs2 := rxs.go W g12
    refine ⟨rfl, _, rfl, ite2 (fun _ => ?_) (fun _ => ?_)⟩
    · refine ⟨_, rfl, mt, _, _, _, rfl, rfl, .inr (.inl (.inl et2)), rfl, _, rfl, _, rfl, by omega, by omega, ?_⟩
      refine fun L1 hL1 => lc_D (A := []) (S := S) (j := 6) (Xp := fun i x => x = .int (0 + (i : Int))) (fun i ds => ∃ g : List Int, ds = g.map .int ∧ g.Pairwise (· < ·) ∧ ∀ x ∈ g, 0 ≤ x ∧ x < (i : Int))
        (walk_range (lo := 0)) (fun i H x H' _ y => ⟨y.1, y.2⟩) ⟨by simp, by simp, W2.ex⟩ hL1 (by omega) (fun _ _ => trivial) ⟨[], rfl, by simp, by simp⟩ (fun i ds h => ?_) (fun _ => rfl) (fun i ds x H3 hi h hx W3 k3 Kt Kf ht hf => ?_) (fun ys1 ds1 H3 h1 g3 hL3 hr3 => ?_)
      · obtain ⟨g, rfl, hg, hb⟩ := h
        rw [List.length_map]
        exact asc_le (lo := 0) hg (fun x hx => by have := hb x hx; omega)
      · obtain ⟨g4, rfl, hg, hb⟩ := h
        subst hx
        have s23 := keep1 hL1 k3
        refine ⟨_, rfl, _, rfl, mt, _, _, _, rfl, rfl, .inr (.inl (.inl (s23 _ _ et2))), rfl, ag, _, rfl, .inl (SqL.of (s23 _ _ eag2)), rfl, flat_ints g, _, rfl, _, rfl, rfl, rfl, _, rfl, ?_⟩
        refine ite2 (fun _ => ?_) (fun _ => ?_)
        · refine ⟨_, rfl, ht _ (.int (0 + (i : Int))) _ (Go.refl _ _) (.int _) ⟨g4 ++ [0 + (i : Int)], by simp, ?_, fun x hx => ?_⟩⟩
          · refine List.pairwise_append.mpr ⟨hg, by simp, fun x hx y hy => ?_⟩
            rw [List.mem_singleton.mp hy]
            have := (hb x hx).2
            omega
          · rcases List.mem_append.mp hx with hx | hx
            · have := hb x hx
              omega
            · rw [List.mem_singleton.mp hx]
              omega
        · exact hf _ (Go.refl _ _) ⟨g4, rfl, hg, fun x hx => by have := hb x hx; omega⟩
      · obtain ⟨g4, rfl, hg, hb⟩ := h1
        have s3 := g3.nil
        have W3 := W2.go (Go.same s3)
        refine ⟨by show 2 ≤ sizeLine; exact szl rfl, fun tp htp => ?_⟩
        have rg : Rp S H3 (.ref L1) (rowD g4) := .lst (W2.fresh hL1) hL3 (hr3.less fun _ q => List.mem_cons_of_mem _ q)
        have rl : Rp S H3 (.ref am) (mvD mv) := .lst nam (s3 _ _ eam2) (rxs2.same s3)
        exact kk _ mv g4 _ ((g12.trans (Go.same s3)).trans (Go.new htp)) (.tup (W3.fresh htp) upd_same (.cons (rl.go W3 (Go.new htp)) (.cons (rg.go W3 (Go.new htp)) .nil))) ⟨M.pos, M.most, M.row, hg, fun x hx => by have := hb x hx; omega⟩
    · refine ⟨_, rfl, mt, _, _, _, rfl, rfl, .inr (.inl (.inl et2)), rfl, _, rfl, ⟨_, SqL.of eam2⟩, fun Lr hLr => lc_G (A := A) (S := S) (j := 5) (Xp := fun i x => ∃ r b, mv[i]? = some r ∧ x = .ref b ∧ b ∉ S ∧ H2 b = some (.lst (r.map V.int))) (fun i ys H' => Cps H2 H' Lr mv i ys)
        walk_list (fun i H2 x H3 _ y => ⟨y.1, rowD_item rxs2 y.2⟩) W2 hLr (by omega) (fun H2 k2 => SqL.of (k2 _ _ (fun q => (List.mem_cons.mp q).elim (fun e => by rw [← e, eam2] at hLr; cases hLr) (fun q => nam (W2.sub _ q))) eam2)) (fun _ => Cps.zero) (fun i ys H h => Nat.le_of_eq h.len) (fun i ys H2 H3 k2 h => h.keep (fun a ha => W2.ex a (W2.sub a ha)) k2) (fun _ => rfl)
        (fun i ys2 y H3 hi h hy W3 k3 Kt Kf ht2 hf2 => ?_) (fun ys H3 h3 g3 hL3 W3 => ?_)⟩
      · obtain ⟨r, b0, hr0, rfl, hbS, hb0⟩ := hy
        have hb2 := k3 _ _ (fun hm => (List.mem_cons.mp hm).elim (fun e => by rw [← e, hb0] at hLr; cases hLr) (fun hm => hbS (W2.sub _ hm))) hb0
        refine yes_go ⟨_, rfl, b0, _, rfl, .inl (SqL.of hb2), fun l hl => ht2 _ _ (Go.new hl) ?_⟩
        have hl0 : H2 l = none := by
          cases e : H2 l with
          | none => rfl
          | some o =>
            by_cases hlA : l ∈ A
            · obtain ⟨c, d, n, z⟩ := W3.src l hlA
              rw [hl] at z; cases z
            · have := k3 l o (fun hm => by
                rcases List.mem_cons.mp hm with e3 | hm
                · rw [e3, hLr] at e; cases e
                · exact hlA hm) e
              rw [hl] at this; cases this
        refine h.step hr0 hl hl0 (fun e => ?_)
        obtain ⟨o, z⟩ := W3.ex Lr (List.mem_cons_self ..)
        rw [← e, hl] at z; cases z
      · rw [xl] at h3
        have yl := h3.len
        obtain ⟨row, hri⟩ : ∃ row, mv[r0.toNat]? = some row := ⟨mv[r0.toNat]'(by omega), List.getElem?_eq_getElem (by omega)⟩
        obtain ⟨b0, hyb, hb0, hbS, hbr, hoth⟩ := h3.rowL W2 hri
        have hat : atI ys r0 = some (.ref b0) := by
          rw [show r0 = ((r0.toNat : Nat) : Int) by omega]
          exact atI_nat hyb
        have LS : Lr ∉ S := W2.fresh hLr
        have W3' := W2.go g3
        have g13 := g12.trans g3
        refine ⟨_, rfl, _, rfl, Lr, _, _, _, rfl, rfl, SqL.of hL3, hat, ?_⟩
        refine ⟨_, rfl, _, rfl, A, a, _, rfl, hm, W3'.src, by omega, by omega, fun u H4 hu0 hu1 g4 => ?_⟩
        have W4 := W3'.go g4
        have hbr4 := g4.keep b0 _ (fun z => hbS (List.mem_cons_of_mem _ (W2.sub _ z))) hbr
        have hrow := M.row row (List.mem_of_getElem? hri)
        refine ⟨_, rfl, _, rfl, _, rfl, b0, _, rfl, .inl (SqL.of hbr4), A, a, _, rfl, hm, W4.src, by rw [List.length_map]; omega, by rw [List.length_map]; omega, fun j H5 hj0 hj1 g5 => ?_⟩
        have hbr5 := g5.keep b0 _ (fun z => hbS (List.mem_cons_of_mem _ (W2.sub _ z))) hbr4
        have hjl : ixN (row.map V.int).length j = some j.toNat := by
          rw [List.length_map] at hj1 ⊢
          unfold ixN
          simp only [if_pos hj0]
          first | rfl | (rw [if_pos (by omega)]) | (split <;> first | rfl | omega)
        refine ⟨b0, _, j, j.toNat, rfl, rfl, hbr5, hjl, ?_⟩
        have g15 := (g13.trans g4).trans g5
        have W5 := W4.go g5
        have hi : r0.toNat < mv.length := by omega
        have hoth5 : ∀ (i : Nat) (y : V) (d : D), i ≠ r0.toNat → ys[i]? = some y → (mv.map rowD)[i]? = some d → Rp (b0 :: Lr :: S) H5 y d := fun i y d h1 h2 h3 => (hoth i y d h1 h2 h3).keep ((g4.trans g5).keep.mono fun c hc => List.mem_cons_of_mem _ (List.mem_cons_of_mem _ (W2.sub _ hc)))
        have e1 : (row.map V.int).set j.toNat (.int u) = (row.set j.toNat u).map V.int := by rw [List.map_set]
        rw [e1]
        have hset := Rps.row_set (S := Lr :: S) (H := H5) (zs := (row.set j.toNat u).map V.int) (es := (row.set j.toNat u).map D.int) (by rw [yl, List.length_map]) hyb hbS hoth5 (Rps.ints _)
        have e2 : (mv.map rowD).set r0.toNat (.lst ((row.set j.toNat u).map D.int)) = (mv.set r0.toNat (row.set j.toNat u)).map rowD := List.map_set.symm
        rw [e2] at hset
        have nb : ∀ {c : Addr} {o : HO}, c ∉ A → H c = some o → c ≠ b0 := fun hc e z => by
          have := g12.keep _ _ hc e
          rw [z, hb0] at this
          cases this
        have bA : b0 ∉ A := fun z => hbS (List.mem_cons_of_mem _ (W2.sub _ z))
        have gf : Go A H (upd H5 b0 (.lst ((row.set j.toNat u).map V.int))) := ⟨fun c o hc e => by
          rw [upd_ne (nb hc e)]
          exact g15.keep c o hc e, fun hs c hc => by
          obtain ⟨x1, x2, x3, e⟩ := g15.src hs c hc
          exact ⟨x1, x2, x3, by rw [upd_ne (fun z => bA (by rw [← z]; exact hc))]; exact e⟩⟩
        have Lr5 := (g4.trans g5).keep Lr _ (nA LS) hL3
        have Lrb : Lr ≠ b0 := fun z => hbS (by rw [← z]; exact List.mem_cons_self ..)
        have Lrf : upd H5 b0 (.lst ((row.set j.toNat u).map V.int)) Lr = some (.lst ys) := by rw [upd_ne Lrb]; exact Lr5
        generalize upd H5 b0 (.lst ((row.set j.toNat u).map V.int)) = Hf at hset gf Lrf ⊢
        have Wf := W.go gf
        have etf := gf.keep mt _ (nA nt) et
        have eagf := gf.keep ag _ (nA nag) eag'
        refine ⟨_, rfl, _, rfl, mt, _, _, _, rfl, rfl, .inr (.inl (.inl etf)), rfl, ag, _, rfl, .inl (SqL.of eagf), fun q hq => ⟨by show 2 ≤ sizeLine; exact szl rfl, fun tp htp => ?_⟩⟩
        have s1 : Same Hf (upd Hf q (.lst (g.map V.int))) := Same.new hq
        have rg : Rp S (upd Hf q (.lst (g.map V.int))) (.ref q) (rowD g) := .lst (Wf.fresh hq) upd_same (Rps.ints _)
        have rl : Rp S (upd Hf q (.lst (g.map V.int))) (.ref Lr) (mvD (mv.set r0.toNat (row.set j.toNat u))) := .lst LS (s1 _ _ Lrf) ((hset.less fun _ z => List.mem_cons_of_mem _ z).same s1)
        have Wq := Wf.go (Go.same s1)
        refine kk _ _ g _ ((gf.trans (Go.same s1)).trans (Go.new htp)) (.tup (Wq.fresh htp) upd_same (.cons (rl.go Wq (Go.new htp)) (.cons (rg.go Wq (Go.new htp)) .nil))) ⟨by rw [List.length_set]; exact M.pos, by rw [List.length_set]; exact M.most, fun q hq => ?_, M.asc, by rw [List.length_set]; exact M.inn⟩
        rw [List.length_set]
        rcases List.mem_or_eq_of_mem_set hq with hq | rfl
        · exact M.row q hq
        · refine ⟨by rw [List.length_set]; exact hrow.1, fun x hx => ?_⟩
          rcases List.mem_or_eq_of_mem_set hx with hx | rfl
          · exact hrow.2 x hx
          · omega
end

/-! ### _law_some, _law_rings -/
open MA
abbrev sSome : Stmt := top 55
abbrev sRings : Stmt := top 56
def spSome : Sp := fun vs H Q _ => ∃ (A S : List Addr) (a : Addr) (n : Nat) (last : Int), vs = [.ref a, .int (n : Int), .int last] ∧ a ∈ A ∧ Wd A S H ∧ 1 ≤ n ∧ n ≤ 60 ∧ 0 ≤ last ∧ last < (n : Int) ∧
  ∀ (v : V) (g : List Int) (H' : Hp), Go A H H' → Rp S H' v (rowD g) → g.Pairwise (· < ·) → (∀ x ∈ g, 0 ≤ x ∧ x < (n : Int)) → Q v H'
/-- a list of tuples of numbers, written out -/
def tIntsC : List Int → TA
  | [] => tNil
  | x :: r => tCons (tC (V.int x)) (tIntsC r)
def tRowsC : List (List Int) → TA
  | [] => tNil
  | r :: rs => tCons (tTup (tIntsC r)) (tRowsC rs)
theorem ints_c {σ : L2.St} {H : Hp} : ∀ (r : List Int) (K : List V → Hp → Prop), K (r.map V.int) H → tIntsC r σ H K
  | [], _, h => h
  | x :: r, K, h => ints_c r (fun vs H2 => K (.int x :: vs) H2) h
theorem rows_c {σ : L2.St} : ∀ (rs : List (List Int)) (H : Hp) (K : List V → Hp → Prop), (∀ r ∈ rs, r.length ≤ 1000) → (∀ ws H', Same H H' → RowsT H' ws rs → K ws H') → tRowsC rs σ H K
  | [], H, K, _, k => k [] H (Same.refl _) ⟨rfl, fun j row e => by simp at e⟩
  | r :: rs, H, K, h, k => by
    refine ints_c (σ := σ) (H := H) r _ ⟨?_, fun p hp => ?_⟩
    · rw [List.length_map]
      exact Nat.le_trans (h r (List.mem_cons_self ..)) (by decide)
    · refine rows_c rs _ _ (fun q hq => h q (List.mem_cons_of_mem _ hq)) fun ws H' s q => k _ _ ((Same.new hp).trans s) ⟨by rw [List.length_cons, List.length_cons, q.1], fun j row e => ?_⟩
      match j, e with
      | 0, e => cases e; exact ⟨p, rfl, s _ _ upd_same⟩
      | j + 1, e => exact q.2 j row e
theorem rows_lst {σ : L2.St} {H : Hp} {Q : VK} (rs : List (List Int)) (h : ∀ r ∈ rs, r.length ≤ 1000) (hl : rs.length ≤ 1000) (k : ∀ L ws H', Same H H' → H L = none → H' L = some (.lst ws) → RowsT H' ws rs → Q (.ref L) H') : tLst (tRowsC rs) σ H Q := by
  refine rows_c rs H _ h fun ws H1 s q => ⟨?_, fun L hL => k L ws _ (s.trans (Same.new hL)) (same_none s hL) upd_same (q.keep (TupK.same (Same.new hL)))⟩
  rw [q.1]
  exact Nat.le_trans hl (by decide)
theorem rows_set {D : Ends} {σ : L2.St} {H : Hp} {g : TG} {rest : TS} (rs : List (List Int)) (h : ∀ r ∈ rs, r.length ≤ 1000) (hl : rs.length ≤ 1000) (k : ∀ L ws H', Same H H' → H L = none → H' L = some (.lst ws) → RowsT H' ws rs → g (.ref L) σ H' (fun σ2 H2 => rest D σ2 H2)) : tSeq (tAsg (tLst (tRowsC rs)) g) rest D σ H := by
  show tLst (tRowsC rs) σ H (fun x H1 => g x σ H1 (fun σ2 H2 => rest D σ2 H2))
  exact rows_lst rs h hl k
def menu1 : List (List Int) := [[6, 10], [7, 9], [8, 8], [5, 12], [9, 6], [4, 15], [20, 3], [2, 31], [10, 6], [7, 8]]
def menu2 : List (List Int) := [[12, 5, 1], [12, 5, 0], [7, 9, 0], [15, 4, 1], [20, 3, 0], [8, 7, 2], [4, 15, 1], [19, 3, 3], [5, 12, 1]]
theorem menu1_c : tRowsC menu1 = (tCons (tTup (tCons (tC (V.int 6)) (tCons (tC (V.int 10)) tNil))) (tCons (tTup (tCons (tC (V.int 7)) (tCons (tC (V.int 9)) tNil))) (tCons (tTup (tCons (tC (V.int 8)) (tCons (tC (V.int 8)) tNil))) (tCons (tTup (tCons (tC (V.int 5)) (tCons (tC (V.int 12)) tNil))) (tCons (tTup (tCons (tC (V.int 9)) (tCons (tC (V.int 6)) tNil))) (tCons (tTup (tCons (tC (V.int 4)) (tCons (tC (V.int 15)) tNil))) (tCons (tTup (tCons (tC (V.int 20)) (tCons (tC (V.int 3)) tNil))) (tCons (tTup (tCons (tC (V.int 2)) (tCons (tC (V.int 31)) tNil))) (tCons (tTup (tCons (tC (V.int 10)) (tCons (tC (V.int 6)) tNil))) (tCons (tTup (tCons (tC (V.int 7)) (tCons (tC (V.int 8)) tNil))) tNil)))))))))) := rfl
theorem menu2_c : tRowsC menu2 = (tCons (tTup (tCons (tC (V.int 12)) (tCons (tC (V.int 5)) (tCons (tC (V.int 1)) tNil)))) (tCons (tTup (tCons (tC (V.int 12)) (tCons (tC (V.int 5)) (tCons (tC (V.int 0)) tNil)))) (tCons (tTup (tCons (tC (V.int 7)) (tCons (tC (V.int 9)) (tCons (tC (V.int 0)) tNil)))) (tCons (tTup (tCons (tC (V.int 15)) (tCons (tC (V.int 4)) (tCons (tC (V.int 1)) tNil)))) (tCons (tTup (tCons (tC (V.int 20)) (tCons (tC (V.int 3)) (tCons (tC (V.int 0)) tNil)))) (tCons (tTup (tCons (tC (V.int 8)) (tCons (tC (V.int 7)) (tCons (tC (V.int 2)) tNil)))) (tCons (tTup (tCons (tC (V.int 4)) (tCons (tC (V.int 15)) (tCons (tC (V.int 1)) tNil)))) (tCons (tTup (tCons (tC (V.int 19)) (tCons (tC (V.int 3)) (tCons (tC (V.int 3)) tNil)))) (tCons (tTup (tCons (tC (V.int 5)) (tCons (tC (V.int 12)) (tCons (tC (V.int 1)) tNil)))) tNil))))))))) := rfl
theorem menu1_in : ∀ r ∈ menu1, ∃ x y : Nat, r = [(x : Int), (y : Int)] ∧ 2 ≤ x ∧ x ≤ 20 ∧ 2 ≤ y ∧ y ≤ 31 := fun r hr => by
  have h : ∀ r ∈ menu1, r = [((r.getD 0 0).toNat : Int), ((r.getD 1 0).toNat : Int)] ∧ 2 ≤ (r.getD 0 0).toNat ∧ (r.getD 0 0).toNat ≤ 20 ∧ 2 ≤ (r.getD 1 0).toNat ∧ (r.getD 1 0).toNat ≤ 31 := by decide +kernel
  exact ⟨_, _, h r hr⟩
theorem menu2_in : ∀ r ∈ menu2, ∃ x y z : Nat, r = [(x : Int), (y : Int), (z : Int)] ∧ 2 ≤ x ∧ x ≤ 20 ∧ 2 ≤ y ∧ y ≤ 31 ∧ z ≤ 3 := fun r hr => by
  have h : ∀ r ∈ menu2, r = [((r.getD 0 0).toNat : Int), ((r.getD 1 0).toNat : Int), ((r.getD 2 0).toNat : Int)] ∧ 2 ≤ (r.getD 0 0).toNat ∧ (r.getD 0 0).toNat ≤ 20 ∧ 2 ≤ (r.getD 1 0).toNat ∧ (r.getD 1 0).toNat ≤ 31 ∧ (r.getD 2 0).toNat ≤ 3 := by decide +kernel
  exact ⟨_, _, _, h r hr⟩
/-- two machines in a list -/
def Two (A S : List Addr) (k : Nat) (H : Hp) (Q : VK) : Prop := ∀ (L : Addr) (v1 v2 : V) (m1 m2 : List (List Int)) (g1 g2 : List Int) (H' : Hp), Go A H H' → L ∉ S → H' L = some (.lst [v1, v2]) → Rp S H' v1 (.tup [mvD m1, rowD g1]) → Rp S H' v2 (.tup [mvD m2, rowD g2]) → Mach k m1 g1 → Mach k m2 g2 → Q (.ref L) H'
theorem two_fin {A S : List Addr} {k : Nat} {H H2 : Hp} {Q : VK} {v1 v2 : V} {m1 m2 : List (List Int)} {g1 g2 : List Int} (kk : Two A S k H Q) (W : Wd A S H2) (go : Go A H H2) (r1 : Rp S H2 v1 (.tup [mvD m1, rowD g1])) (r2 : Rp S H2 v2 (.tup [mvD m2, rowD g2])) (M1 : Mach k m1 g1) (M2 : Mach k m2 g2) : ∀ L, H2 L = none → Q (.ref L) (upd H2 L (.lst [v1, v2])) := fun L hL =>
  kk L v1 v2 m1 m2 g1 g2 _ (go.trans (Go.new hL)) (W.fresh hL) upd_same (r1.go W (Go.new hL)) (r2.go W (Go.new hL)) M1 M2
/-- a machine of its parts -/
theorem tup_mach {A S : List Addr} {H2 : Hp} {v1 v2 : V} {m : List (List Int)} {g : List Int} (W : Wd A S H2) (r1 : Rp S H2 v1 (mvD m)) (r2 : Rp S H2 v2 (rowD g)) {tp : Addr} (h : H2 tp = none) : Rp S (upd H2 tp (.tup [v1, v2])) (.ref tp) (.tup [mvD m, rowD g]) := .tup (W.fresh h) upd_same (.cons (r1.go W (Go.new h)) (.cons (r2.go W (Go.new h)) .nil))
theorem rows_mach {k N : Nat} {rows : List (List Int)} {g : List Int} (hl : rows.length = N) (h1 : 1 ≤ N) (h2 : N ≤ 60) (hr : ∀ q ∈ rows, q.length = k ∧ ∀ x ∈ q, 0 ≤ x ∧ x < (N : Int)) (hg : g.Pairwise (· < ·)) (hb : ∀ x ∈ g, 0 ≤ x ∧ x < (N : Int)) : Mach k rows g := by
  subst hl
  exact ⟨h1, h2, hr, hg, hb⟩
def spRings : Sp := fun vs H Q _ => ∃ (A S : List Addr) (a : Addr) (k : Nat), vs = [.ref a, .int (k : Int)] ∧ a ∈ A ∧ Wd A S H ∧ 1 ≤ k ∧ k ≤ 3 ∧ Two A S k H Q
section
open PyProof.Rows
variable {P : Program} {w : World} {K : PySem.W.Frag} {mg : Str → Option Value} {base : Heap}
theorem scSome : FnScope ["source", "size", "last", "way", "p"] ["source", "size", "last"] (C8.fnScope sSome) := C8.fnScope_by (by decide +kernel)
theorem ok_some {f : Addr} {fd : FuncData} (F : C8.Def K mg "_law_some" sSome f fd) (b : Binds K fd ["source", "size", "last"] []) (T : Txt mg) (c_law_pick : C8.Cal P w K mg base 1 "_law_pick" spPick []) : C8.Cal P w K mg base 2 "_law_some" spSome [] := by
  refine C8.cal0 F b .nil scSome (fun vs H Q E h => ?_) (fun cdv A0 outer s H vs Q E hr h => ?_)
  · obtain ⟨A, S, a, n, last, rfl, _⟩ := h
    rfl
  · obtain ⟨A, S, a, n, last, rfl, hm, W, hn1, hn2, hl0, hl1, k⟩ := h
    have sc := scSome
    refine ⟨_, -- _law_some: 0 source* 1 size 2 last 3 way 4 p

      (pss_cons (ps_set (i := 3) sc.nd rfl (Or.inl rfl) (C8.pe_c c_law_pick hr (by decide) rfl (pa_cons (pv 0) (pa_cons pe_int pa_nil))))
      (pss_cons (ps_if (pt_cmpR op_eq (pv 3) pe_int (nomark _)) 
        (pss_one (ps_ret (pe_lst (pa_cons (pv 2) pa_nil)))) pss_nil)
      (pss_cons (ps_if (pt_cmpR op_eq (pv 3) pe_int (nomark _)) 
        (pss_one (ps_ret (pe_lc (own := [("p", 4)]) (g := gName 4) rfl sc.nd (pi_range1 (by rfl) T.range (pa_cons (pv 1) pa_nil)) (blkOk_by (own := [("p", 4)]) (by kernel_rfl)) (fun _ _ _ _ _ => (pg_name (i := 4) sc.nd rfl (Or.inl rfl))) (fun _ _ _ _ _ => pts_nil) (fun _ _ _ _ _ => (pv 4))))) pss_nil)
      (pss_cons (ps_if (pt_cmpR op_eq (pv 3) pe_int (nomark _)) 
        (pss_one (ps_ret (pe_lc (own := [("p", 4)]) (g := gName 4) rfl sc.nd (pi_range1 (by rfl) T.range (pa_cons (pv 1) pa_nil)) (blkOk_by (own := [("p", 4)]) (by kernel_rfl)) (fun _ _ _ _ _ => (pg_name (i := 4) sc.nd rfl (Or.inl rfl))) (fun _ _ _ _ _ => (pts_one (pt_cmpR op_eq (C8.pe_c c_law_pick hr (by decide) rfl (pa_cons (pv 0) (pa_cons pe_int pa_nil))) pe_int (nomark _)))) (fun _ _ _ _ _ => (pv 4))))) pss_nil)
      (pss_one (ps_ret (pe_lst (pa_cons (C8.pe_c c_law_pick hr (by decide) rfl (pa_cons (pv 0) (pa_cons (pv 1) pa_nil))) pa_nil)))))))), ?_⟩
    walk_at "rd"
    refine ⟨A, a, _, rfl, hm, W.src, by omega, by omega, fun z H1 hz0 hz1 g1 => ?_⟩
    have W1 := W.go g1
    have one : ∀ (H2 : Hp) (x : Int) (p : Addr), Go A H H2 → 0 ≤ x → x < (n : Int) → H2 p = none → Q (.ref p) (upd H2 p (.lst [.int x])) := fun H2 x p g h0 h1 hp =>
      k _ [x] _ (g.trans (Go.new hp)) (.lst ((W.go g).fresh hp) upd_same (Rps.ints [x])) (by simp) fun y hy => by rw [List.mem_singleton.mp hy]; exact ⟨h0, h1⟩
    walk_at "rd"
    refine ite2 (fun _ => ?_) (fun _ => ?_)
    · walk_at "rd"
      exact fun p hp => one H1 last p g1 hl0 hl1 hp
    · walk_at "rd"
      refine ite2 (fun _ => ?_) (fun _ => ?_)
      · walk_at "rd"
        refine fun L hL => lc_C (A := A) (S := S) (walk_range (lo := 0)) (fun i H x H' _ y => ⟨y.1, y.2⟩) W1 hL (by omega) (fun _ _ => trivial) (fun _ => rfl) (fun i H2 hi W2 k2 Kb hb => hb true H2 (Go.refl _ _)) (fun i H2 Kt h => ⟨_, rfl, h⟩) (fun g H2 hg hb g2 rg e => ?_)
        exact k _ g _ (g1.trans g2) rg hg fun x hx => by have := hb x hx; omega
      · walk_at "rd"
        refine ite2 (fun _ => ?_) (fun _ => ?_)
        · walk_at "rd"
          refine fun L hL => lc_C (A := A) (S := S) (walk_range (lo := 0)) (fun i H x H' _ y => ⟨y.1, y.2⟩) W1 hL (by omega) (fun _ _ => trivial) (fun _ => rfl) (fun i H2 hi W2 k2 Kb hb => ?_) (fun i H2 Kt h => ⟨_, rfl, h⟩) (fun g H2 hg hb g2 rg e => ?_)
          · walk_at "rd"
            exact ⟨A, a, _, rfl, hm, W2.src, by omega, by omega, fun r H3 hr0 hr1 g3 => ⟨rfl, _, rfl, hb _ H3 g3⟩⟩
          · exact k _ g _ (g1.trans g2) rg hg fun x hx => by have := hb x hx; omega
        · walk_at "rd"
          refine ⟨A, a, _, rfl, hm, W1.src, by omega, by omega, fun z2 H2 hz20 hz21 g2 => ?_⟩
          walk_at "rd"
          exact fun p hp => one H2 z2 p (g1.trans g2) hz20 hz21 hp
theorem scRings : FnScope ["source", "many", "menu", "a", "b", "first", "second", "tail", "p", "t", "q"] ["source", "many"] (C8.fnScope sRings) := C8.fnScope_by (by decide +kernel)
theorem ok_rings {f : Addr} {fd : FuncData} (F : C8.Def K mg "_law_rings" sRings f fd) (b : Binds K fd ["source", "many"] []) (T : Txt mg) (c_law_pick : C8.Cal P w K mg base 1 "_law_pick" spPick []) (c_law_some : C8.Cal P w K mg base 2 "_law_some" spSome []) : C8.Cal P w K mg base 3 "_law_rings" spRings [] := by
  refine C8.cal0 F b .nil scRings (fun vs H Q E h => ?_) (fun cdv A0 outer s H vs Q E hr h => ?_)
  · obtain ⟨A, S, a, k, rfl, _⟩ := h
    rfl
  · obtain ⟨A, S, a, k, rfl, hm, W, hk1, hk3, kk⟩ := h
    have sc := scRings
    refine ⟨_, -- _law_rings: 0 source 1 many* 2 menu 3 a* 4 b* 5 first 6 second 7 tail* 8 p 9 t 10 q

      (C8.pss_cut (ps_if (PW.pt (pw_and (pt_cmpR op_gt (pv 1) pe_int (nomark _)) (pw_and1 (pt_cmpR op_eq (C8.pe_c c_law_pick hr (by decide) rfl (pa_cons (pv 0) (pa_cons pe_int pa_nil))) pe_int (nomark _))))) 
        (pss_cons (ps_set (i := 2) sc.nd rfl (Or.inl rfl) (pe_lst (pa_cons (pe_tup (pa_cons pe_int (pa_cons pe_int pa_nil))) (pa_cons (pe_tup (pa_cons pe_int (pa_cons pe_int pa_nil))) (pa_cons (pe_tup (pa_cons pe_int (pa_cons pe_int pa_nil))) (pa_cons (pe_tup (pa_cons pe_int (pa_cons pe_int pa_nil))) (pa_cons (pe_tup (pa_cons pe_int (pa_cons pe_int pa_nil))) (pa_cons (pe_tup (pa_cons pe_int (pa_cons pe_int pa_nil))) (pa_cons (pe_tup (pa_cons pe_int (pa_cons pe_int pa_nil))) (pa_cons (pe_tup (pa_cons pe_int (pa_cons pe_int pa_nil))) (pa_cons (pe_tup (pa_cons pe_int (pa_cons pe_int pa_nil))) (pa_cons (pe_tup (pa_cons pe_int (pa_cons pe_int pa_nil))) pa_nil))))))))))))
        (C8.pss_cut (ps_asg (pe_ix ix_list (pv 2) (C8.pe_c c_law_pick hr (by decide) rfl (pa_cons (pv 0) (pa_cons (pe_callB (call_lenQ (K := K) rfl) (by rfl) T.len PySem.boot_len (pa_cons (pv 2) pa_nil)) pa_nil))) (fun _ _ => rfl)) (pg_tup rfl (pgs_cons (pg_name (i := 3) sc.nd rfl (Or.inr rfl)) (pgs_cons (pg_name (i := 4) sc.nd rfl (Or.inr rfl)) pgs_nil))))
        (pss_cons (ps_setLc (i := 5) (own := [("p", 8)]) (g := gName 8) rfl sc.nd rfl rfl (sw_true rfl rfl rfl (by decide +kernel)) (pi_range1 (by rfl) T.range (pa_cons (pv 3) pa_nil)) (blkOk_by (own := [("p", 8)]) (by kernel_rfl)) (fun _ _ _ _ _ => (pg_name (i := 8) sc.nd rfl (Or.inr rfl))) (fun _ _ _ _ _ => pts_nil) (fun _ _ _ _ _ => (pe_lc (own := [("t", 9)]) (g := gName 9) rfl sc.nd (pi_range1 (by rfl) T.range (pa_cons (pv 1) pa_nil)) (blkOk_by (own := [("t", 9)]) (by kernel_rfl)) (fun _ _ _ _ _ => (pg_name (i := 9) sc.nd rfl (Or.inl rfl))) (fun _ _ _ _ _ => pts_nil) (fun _ _ _ _ _ => (pe_ifExp (pt_cmpR op_eq (pv 9) pe_int (nomark _)) (pe_op op_mod (pe_callTy (T := "int") call_int1 (by rfl) T.int (by decide +kernel) (pa_cons (pe_op op_add (pv 8) pe_int) pa_nil)) (pv 3)) (pv 8))))))
        (pss_cons (ps_setLc (i := 6) (own := [("q", 10)]) (g := gName 10) rfl sc.nd rfl rfl (sw_true rfl rfl rfl (by decide +kernel)) (pi_range1 (by rfl) T.range (pa_cons (pv 4) pa_nil)) (blkOk_by (own := [("q", 10)]) (by kernel_rfl)) (fun _ _ _ _ _ => (pg_name (i := 10) sc.nd rfl (Or.inr rfl))) (fun _ _ _ _ _ => pts_nil) (fun _ _ _ _ _ => (pe_lc (own := [("t", 9)]) (g := gName 9) rfl sc.nd (pi_range1 (by rfl) T.range (pa_cons (pv 1) pa_nil)) (blkOk_by (own := [("t", 9)]) (by kernel_rfl)) (fun _ _ _ _ _ => (pg_name (i := 9) sc.nd rfl (Or.inl rfl))) (fun _ _ _ _ _ => pts_nil) (fun _ _ _ _ _ => (pe_ifExp (pt_cmpR op_eq (pv 9) (pe_op op_sub (pv 1) pe_int) (nomark _)) (pe_op op_mod (pe_callTy (T := "int") call_int1 (by rfl) T.int (by decide +kernel) (pa_cons (pe_op op_add (pv 10) pe_int) pa_nil)) (pv 4)) (pv 10))))))
        (pss_one (ps_ret (pe_lst (pa_cons (pe_tup (pa_cons (pv 5) (pa_cons (C8.pe_c c_law_some hr (by decide) rfl (pa_cons (pv 0) (pa_cons (pv 3) (pa_cons (pe_op op_sub (pv 3) pe_int) pa_nil)))) pa_nil))) (pa_cons (pe_tup (pa_cons (pv 6) (pa_cons (C8.pe_c c_law_some hr (by decide) rfl (pa_cons (pv 0) (pa_cons (pv 4) (pa_cons pe_int pa_nil)))) pa_nil))) pa_nil))))))))) pss_nil)
      (pss_cons (ps_set (i := 2) sc.nd rfl (Or.inl rfl) (pe_lst (pa_cons (pe_tup (pa_cons pe_int (pa_cons pe_int (pa_cons pe_int pa_nil)))) (pa_cons (pe_tup (pa_cons pe_int (pa_cons pe_int (pa_cons pe_int pa_nil)))) (pa_cons (pe_tup (pa_cons pe_int (pa_cons pe_int (pa_cons pe_int pa_nil)))) (pa_cons (pe_tup (pa_cons pe_int (pa_cons pe_int (pa_cons pe_int pa_nil)))) (pa_cons (pe_tup (pa_cons pe_int (pa_cons pe_int (pa_cons pe_int pa_nil)))) (pa_cons (pe_tup (pa_cons pe_int (pa_cons pe_int (pa_cons pe_int pa_nil)))) (pa_cons (pe_tup (pa_cons pe_int (pa_cons pe_int (pa_cons pe_int pa_nil)))) (pa_cons (pe_tup (pa_cons pe_int (pa_cons pe_int (pa_cons pe_int pa_nil)))) (pa_cons (pe_tup (pa_cons pe_int (pa_cons pe_int (pa_cons pe_int pa_nil)))) pa_nil)))))))))))
      (C8.pss_cut (ps_asg (pe_ix ix_list (pv 2) (C8.pe_c c_law_pick hr (by decide) rfl (pa_cons (pv 0) (pa_cons (pe_callB (call_lenQ (K := K) rfl) (by rfl) T.len PySem.boot_len (pa_cons (pv 2) pa_nil)) pa_nil))) (fun _ _ => rfl)) (pg_tup rfl (pgs_cons (pg_name (i := 3) sc.nd rfl (Or.inr rfl)) (pgs_cons (pg_name (i := 4) sc.nd rfl (Or.inr rfl)) (pgs_cons (pg_name (i := 7) sc.nd rfl (Or.inr rfl)) pgs_nil)))))
      (pss_cons (ps_setLc (i := 5) (own := [("p", 8)]) (g := gName 8) rfl sc.nd rfl rfl (sw_true rfl rfl rfl (by decide +kernel)) (pi_range1 (by rfl) T.range (pa_cons (pe_op op_add (pv 3) (pv 7)) pa_nil)) (blkOk_by (own := [("p", 8)]) (by kernel_rfl)) (fun _ _ _ _ _ => (pg_name (i := 8) sc.nd rfl (Or.inr rfl))) (fun _ _ _ _ _ => pts_nil) (fun _ _ _ _ _ => (pe_lc (own := [("t", 9)]) (g := gName 9) rfl sc.nd (pi_range1 (by rfl) T.range (pa_cons (pv 1) pa_nil)) (blkOk_by (own := [("t", 9)]) (by kernel_rfl)) (fun _ _ _ _ _ => (pg_name (i := 9) sc.nd rfl (Or.inl rfl))) (fun _ _ _ _ _ => pts_nil) (fun _ _ _ _ _ => (pe_ifExp (pt_cmpR op_lt (pe_op op_add (pv 8) pe_int) (pe_op op_add (pv 3) (pv 7)) (nomark _)) (pe_op op_add (pv 8) pe_int) (pv 7))))))
      (pss_cons (ps_setLc (i := 6) (own := [("q", 10)]) (g := gName 10) rfl sc.nd rfl rfl (sw_true rfl rfl rfl (by decide +kernel)) (pi_range1 (by rfl) T.range (pa_cons (pv 4) pa_nil)) (blkOk_by (own := [("q", 10)]) (by kernel_rfl)) (fun _ _ _ _ _ => (pg_name (i := 10) sc.nd rfl (Or.inr rfl))) (fun _ _ _ _ _ => pts_nil) (fun _ _ _ _ _ => (pe_lc (own := [("t", 9)]) (g := gName 9) rfl sc.nd (pi_range1 (by rfl) T.range (pa_cons (pv 1) pa_nil)) (blkOk_by (own := [("t", 9)]) (by kernel_rfl)) (fun _ _ _ _ _ => (pg_name (i := 9) sc.nd rfl (Or.inl rfl))) (fun _ _ _ _ _ => pts_nil) (fun _ _ _ _ _ => (pe_op op_mod (pe_callTy (T := "int") call_int1 (by rfl) T.int (by decide +kernel) (pa_cons (pe_op op_add (pv 10) pe_int) pa_nil)) (pv 4))))))
      (pss_cons (ps_if (pt_cmpR op_eq (C8.pe_c c_law_pick hr (by decide) rfl (pa_cons (pv 0) (pa_cons pe_int pa_nil))) pe_int (nomark _)) 
        (pss_one (ps_ret (pe_lst (pa_cons (pe_tup (pa_cons (pv 5) (pa_cons (pe_lst (pa_cons (pe_op op_sub (pe_op op_add (pv 3) (pv 7)) pe_int) pa_nil)) pa_nil))) (pa_cons (pe_tup (pa_cons (pv 6) (pa_cons (pe_lst (pa_cons pe_int pa_nil)) pa_nil))) pa_nil))))) pss_nil)
      (pss_one (ps_ret (pe_lst (pa_cons (pe_tup (pa_cons (pv 5) (pa_cons (C8.pe_c c_law_some hr (by decide) rfl (pa_cons (pv 0) (pa_cons (pe_op op_add (pv 3) (pv 7)) (pa_cons (pe_op op_sub (pe_op op_add (pv 3) (pv 7)) pe_int) pa_nil)))) pa_nil))) (pa_cons (pe_tup (pa_cons (pv 6) (pa_cons (C8.pe_c c_law_some hr (by decide) rfl (pa_cons (pv 0) (pa_cons (pv 4) (pa_cons pe_int pa_nil)))) pa_nil))) pa_nil))))))))))), ?_⟩
    refine ⟨fun σ' H' => Go A H H' ∧ σ' = [some (.ref a), some (.int (k : Int)), none, none, none, none, none, none, none, none, none], ?_, ?_⟩
    · refine ⟨_, rfl, _, _, rfl, rfl, _, rfl, ?_⟩
      by_cases hk : (1 : Int) < (k : Int)
      · rw [decide_eq_true hk]
        refine iteT ⟨_, rfl, A, a, _, rfl, hm, W.src, by omega, by omega, fun z H1 hz0 hz1 g1 => ⟨rfl, _, rfl, ite2 (fun _ => ?_) (fun _ => ⟨g1, rfl⟩)⟩⟩
        have W1 := W.go g1
        rw [← menu1_c]
        refine rows_set menu1 (by decide) (by decide) fun L ws H2 s2 hL eL rw2 => ?_
        have W2 := W1.go (Go.same s2)
        have LS : L ∉ S := W1.fresh hL
        have g2 := g1.trans (Go.same s2)
        refine ⟨fun σ' H' => Go A H2 H' ∧ ∃ x y : Nat, 2 ≤ x ∧ x ≤ 20 ∧ 2 ≤ y ∧ y ≤ 31 ∧ σ' = [some (.ref a), some (.int (k : Int)), some (.ref L), some (.int (x : Int)), some (.int (y : Int)), none, none, none, none, none, none], ?_, ?_⟩
        · have lw : ws.length = 10 := rw2.1
          refine ⟨_, rfl, _, rfl, _, rfl, L, ws, rfl, .inl (SqL.of eL), A, a, _, rfl, hm, W2.src, by omega, by omega, fun r H3 hr0 hr1 g3 => ?_⟩
          have hr2 : r.toNat < menu1.length := by show r.toNat < 10; omega
          obtain ⟨x, y, exy, hx1, hx2, hy1, hy2⟩ := menu1_in _ (List.getElem_mem hr2)
          obtain ⟨bt, hbt, ebt⟩ := rw2.2 r.toNat _ (List.getElem?_eq_getElem hr2)
          rw [exy] at ebt
          have eL3 := g3.keep L _ (fun z => LS (W2.sub _ z)) eL
          have btA : bt ∉ A := fun z => by obtain ⟨c1, c2, c3, e⟩ := W2.src bt z; rw [ebt] at e; cases e
          have ebt3 := g3.keep bt _ btA ebt
          have hat : atI ws r = some (.ref bt) := by
            rw [show r = ((r.toNat : Nat) : Int) by omega]
            exact atI_nat hbt
          exact ⟨L, _, _, _, rfl, rfl, SqL.of eL3, hat, bt, _, rfl, .inl (.inl ebt3), rfl, _, _, rfl, _, _, rfl, rfl, g3, x, y, hx1, hx2, hy1, hy2, rfl⟩
        · rintro σ' H3 ⟨g3, x, y, hx1, hx2, hy1, hy2, rfl⟩
          have W3 := W2.go g3
          have g13 := g2.trans g3
          refine ⟨_, rfl, _, rfl, by omega, by omega, fun L1 hL1 => lc_M (A := A) (S := S) (Xp := fun i x => x = .int (0 + (i : Int))) k x (walk_range (lo := 0)) (fun i H x H' _ y => ⟨y.1, y.2⟩) W3 hL1 (by omega) (fun _ _ => trivial) (fun _ => rfl) (fun i x H6 hi hx W6 k6 Kt ht => ?_) (fun rows1 H1 hl1 hr1 go1 rl1 => ?_)⟩
          · subst hx
            rw [Int.zero_add]
            have hi' : i < x := by omega
            refine ⟨_, rfl, _, rfl, by omega, by omega, fun L7 hL7 => lc_I (A := A) (S := L1 :: S) (Xp := fun i x => x = .int (0 + (i : Int))) (fun z => 0 ≤ z ∧ z < ((x : Nat) : Int)) (walk_range (lo := 0)) (fun i H x H' _ y => ⟨y.1, y.2⟩) W6 hL7 (by omega) (fun _ _ => trivial) (fun _ => rfl) (fun j x H8 hj hx8 W8 k8 Kt2 ht2 => ?_) (fun q H8 hq hq2 g8 e8 => ?_)⟩
            · subst hx8
              refine ⟨_, rfl, rfl, _, rfl, ite2 (fun _ => ?_) (fun _ => ?_)⟩
              · refine ⟨_, rfl, _, _, rfl, rfl, .inl ⟨_, rfl, _, rfl, _, _, rfl, rfl, by show (0 : Int) < _; omega, ht2 _ _ (Go.refl _ _) ⟨Int.emod_nonneg _ (by omega), Int.emod_lt_of_pos _ (by omega)⟩⟩⟩
              · exact ⟨_, rfl, ht2 _ _ (Go.refl _ _) ⟨by omega, by omega⟩⟩
            · exact ht L7 q H8 g8 (W6.fresh hL7) e8 (by omega) hq2
          have W4 := W3.go go1
          refine ⟨_, rfl, _, rfl, by omega, by omega, fun L2 hL2 => lc_M (A := A) (S := S) (Xp := fun i x => x = .int (0 + (i : Int))) k y (walk_range (lo := 0)) (fun i H x H' _ y => ⟨y.1, y.2⟩) W4 hL2 (by omega) (fun _ _ => trivial) (fun _ => rfl) (fun i x H6 hi hx W6 k6 Kt ht => ?_) (fun rows2 H2 hl2 hr2 go2 rl2 => ?_)⟩
          · subst hx
            rw [Int.zero_add]
            have hi' : i < y := by omega
            refine ⟨_, rfl, _, rfl, by omega, by omega, fun L7 hL7 => lc_I (A := A) (S := L2 :: S) (Xp := fun i x => x = .int (0 + (i : Int))) (fun z => 0 ≤ z ∧ z < ((y : Nat) : Int)) (walk_range (lo := 0)) (fun i H x H' _ y => ⟨y.1, y.2⟩) W6 hL7 (by omega) (fun _ _ => trivial) (fun _ => rfl) (fun j x H8 hj hx8 W8 k8 Kt2 ht2 => ?_) (fun q H8 hq hq2 g8 e8 => ?_)⟩
            · subst hx8
              refine ⟨_, rfl, _, rfl, _, _, rfl, rfl, rfl, _, rfl, ite2 (fun _ => ?_) (fun _ => ?_)⟩
              · refine ⟨_, rfl, _, _, rfl, rfl, .inl ⟨_, rfl, _, rfl, _, _, rfl, rfl, by show (0 : Int) < _; omega, ht2 _ _ (Go.refl _ _) ⟨Int.emod_nonneg _ (by omega), Int.emod_lt_of_pos _ (by omega)⟩⟩⟩
              · exact ⟨_, rfl, ht2 _ _ (Go.refl _ _) ⟨by omega, by omega⟩⟩
            · exact ht L7 q H8 g8 (W6.fresh hL7) e8 (by omega) hq2
          have W5 := W4.go go2
          have rl1 := rl1.go W4 go2
          have g5 := (g13.trans go1).trans go2
          refine ⟨_, rfl, _, rfl, _, rfl, _, rfl, _, _, rfl, rfl, A, S, a, x, _, rfl, hm, W5, by omega, by omega, by omega, by omega, fun va ga H6 g6 ra pa ba => ?_⟩
          have W6 := W5.go g6
          have rl1 := rl1.go W5 g6
          have rl2 := rl2.go W5 g6
          refine ⟨by show 2 ≤ sizeLine; exact szl rfl, fun t1 ht1 => ?_⟩
          have rt1 := tup_mach W6 rl1 ra ht1
          have W7 := W6.go (Go.new (o := .tup [.ref L1, va]) ht1)
          have rl2 := rl2.go W6 (Go.new (o := .tup [.ref L1, va]) ht1)
          refine ⟨_, rfl, _, rfl, _, rfl, A, S, a, y, 0, rfl, hm, W7, by omega, by omega, by omega, by omega, fun vb gb H8 g8 rb pb bb => ?_⟩
          have W8 := W7.go g8
          refine ⟨by show 2 ≤ sizeLine; exact szl rfl, fun t2 ht2 => ⟨by show 2 ≤ sizeLine; exact szl rfl, ?_⟩⟩
          have rt2 := tup_mach W8 (rl2.go W7 g8) rb ht2
          exact two_fin kk (W8.go (Go.new ht2)) ((((g5.trans g6).trans (Go.new ht1)).trans g8).trans (Go.new ht2)) ((rt1.go W7 g8).go W8 (Go.new ht2)) rt2 (rows_mach hl1 (by omega) (by omega) hr1 pa ba) (rows_mach hl2 (by omega) (by omega) hr2 pb bb)
      · rw [decide_eq_false hk]
        exact iteF (iteF ⟨Go.refl _ _, rfl⟩)
    · rintro σ' H1 ⟨g1, rfl⟩
      have W1 := W.go g1
      rw [← menu2_c]
      refine rows_set menu2 (by decide) (by decide) fun L ws H2 s2 hL eL rw2 => ?_
      have W2 := W1.go (Go.same s2)
      have LS : L ∉ S := W1.fresh hL
      have g2 := g1.trans (Go.same s2)
      refine ⟨fun σ' H' => Go A H2 H' ∧ ∃ x y l : Nat, 2 ≤ x ∧ x ≤ 20 ∧ 2 ≤ y ∧ y ≤ 31 ∧ l ≤ 3 ∧ σ' = [some (.ref a), some (.int (k : Int)), some (.ref L), some (.int (x : Int)), some (.int (y : Int)), none, none, some (.int (l : Int)), none, none, none], ?_, ?_⟩
      · have lw : ws.length = 9 := rw2.1
        refine ⟨_, rfl, _, rfl, _, rfl, L, ws, rfl, .inl (SqL.of eL), A, a, _, rfl, hm, W2.src, by omega, by omega, fun r H3 hr0 hr1 g3 => ?_⟩
        have hr2 : r.toNat < menu2.length := by show r.toNat < 9; omega
        obtain ⟨x, y, l, exy, hx1, hx2, hy1, hy2, hl1⟩ := menu2_in _ (List.getElem_mem hr2)
        obtain ⟨bt, hbt, ebt⟩ := rw2.2 r.toNat _ (List.getElem?_eq_getElem hr2)
        rw [exy] at ebt
        have eL3 := g3.keep L _ (fun z => LS (W2.sub _ z)) eL
        have btA : bt ∉ A := fun z => by obtain ⟨c1, c2, c3, e⟩ := W2.src bt z; rw [ebt] at e; cases e
        have ebt3 := g3.keep bt _ btA ebt
        have hat : atI ws r = some (.ref bt) := by
          rw [show r = ((r.toNat : Nat) : Int) by omega]
          exact atI_nat hbt
        exact ⟨L, _, _, _, rfl, rfl, SqL.of eL3, hat, bt, _, rfl, .inl (.inl ebt3), rfl, _, _, rfl, _, _, rfl, _, _, rfl, rfl, g3, x, y, l, hx1, hx2, hy1, hy2, hl1, rfl⟩
      · rintro σ' H3 ⟨g3, x, y, l, hx1, hx2, hy1, hy2, hl9, rfl⟩
        have W3 := W2.go g3
        have g13 := g2.trans g3
        have hxl : (x : Int) + (l : Int) = ((x + l : Nat) : Int) := by omega
        refine ⟨_, rfl, _, rfl, _, _, rfl, rfl, _, rfl, by omega, by omega, fun L1 hL1 => lc_M (A := A) (S := S) (Xp := fun i x => x = .int (0 + (i : Int))) k (x + l) (walk_range (lo := 0)) (fun i H x H' _ y => ⟨y.1, y.2⟩) W3 hL1 (by omega) (fun _ _ => trivial) (fun _ => rfl) (fun i x6 H6 hi hx W6 k6 Kt ht => ?_) (fun rows1 H1 hl1 hr1 go1 rl1 => ?_)⟩
        · subst hx
          rw [Int.zero_add]
          have hi' : i < x + l := by omega
          refine ⟨_, rfl, _, rfl, by omega, by omega, fun L7 hL7 => lc_I (A := A) (S := L1 :: S) (Xp := fun i x => x = .int (0 + (i : Int))) (fun z => 0 ≤ z ∧ z < ((x + l : Nat) : Int)) (walk_range (lo := 0)) (fun i H x H' _ y => ⟨y.1, y.2⟩) W6 hL7 (by omega) (fun _ _ => trivial) (fun _ => rfl) (fun j x8 H8 hj hx8 W8 k8 Kt2 ht2 => ?_) (fun q H8 hq hq2 g8 e8 => ?_)⟩
          · subst hx8
            refine ⟨_, rfl, _, _, rfl, rfl, _, rfl, _, rfl, _, _, rfl, rfl, _, _, rfl, rfl, _, rfl, ite2 (fun h => ?_) (fun _ => ?_)⟩
            · have h : (i : Int) + 1 < (x : Int) + (l : Int) := of_decide_eq_true h
              exact ⟨_, rfl, _, _, rfl, rfl, ht2 _ _ (Go.refl _ _) ⟨by omega, by omega⟩⟩
            · exact ⟨_, rfl, ht2 _ _ (Go.refl _ _) ⟨by omega, by omega⟩⟩
          · exact ht L7 q H8 g8 (W6.fresh hL7) e8 (by omega) hq2
        have W4 := W3.go go1
        refine ⟨_, rfl, _, rfl, by omega, by omega, fun L2 hL2 => lc_M (A := A) (S := S) (Xp := fun i x => x = .int (0 + (i : Int))) k y (walk_range (lo := 0)) (fun i H x H' _ y => ⟨y.1, y.2⟩) W4 hL2 (by omega) (fun _ _ => trivial) (fun _ => rfl) (fun i x6 H6 hi hx W6 k6 Kt ht => ?_) (fun rows2 H2 hl2 hr2 go2 rl2 => ?_)⟩
        · subst hx
          rw [Int.zero_add]
          refine ⟨_, rfl, _, rfl, by omega, by omega, fun L7 hL7 => lc_I (A := A) (S := L2 :: S) (Xp := fun i x => x = .int (0 + (i : Int))) (fun z => 0 ≤ z ∧ z < ((y : Nat) : Int)) (walk_range (lo := 0)) (fun i H x H' _ y => ⟨y.1, y.2⟩) W6 hL7 (by omega) (fun _ _ => trivial) (fun _ => rfl) (fun j x8 H8 hj hx8 W8 k8 Kt2 ht2 => ?_) (fun q H8 hq hq2 g8 e8 => ?_)⟩
          · exact ⟨_, rfl, _, _, rfl, rfl, .inl ⟨_, rfl, _, rfl, _, _, rfl, rfl, by show (0 : Int) < _; omega, ht2 _ _ (Go.refl _ _) ⟨Int.emod_nonneg _ (by omega), Int.emod_lt_of_pos _ (by omega)⟩⟩⟩
          · exact ht L7 q H8 g8 (W6.fresh hL7) e8 (by omega) hq2
        have W5 := W4.go go2
        have rl1 := rl1.go W4 go2
        have g5 := (g13.trans go1).trans go2
        refine ⟨_, rfl, A, a, _, rfl, hm, W5.src, by omega, by omega, fun z H6 hz0 hz1 g6 => ⟨rfl, _, rfl, ite2 (fun _ => ?_) (fun _ => ?_)⟩⟩
        · have W6 := W5.go g6
          have rl1 := rl1.go W5 g6
          have rl2 := rl2.go W5 g6
          refine ⟨_, rfl, _, rfl, _, rfl, _, _, rfl, rfl, _, _, rfl, rfl, by show 1 ≤ sizeLine; exact szl rfl, fun q1 hq1 => ?_⟩
          have gq1 := Go.new (A := A) (o := .lst [V.int ((x : Int) + (l : Int) - 1)]) hq1
          have W7 := W6.go gq1
          have rg1 : Rp S (upd H6 q1 (.lst [V.int ((x : Int) + (l : Int) - 1)])) (.ref q1) (rowD [(x : Int) + (l : Int) - 1]) := .lst (W6.fresh hq1) upd_same (Rps.ints [_])
          refine ⟨by show 2 ≤ sizeLine; exact szl rfl, fun t1 ht1 => ?_⟩
          have rt1 := tup_mach W7 (rl1.go W6 gq1) rg1 ht1
          have gt1 := Go.new (A := A) (o := .tup [.ref L1, .ref q1]) ht1
          have W8 := W7.go gt1
          refine ⟨_, rfl, by show 1 ≤ sizeLine; exact szl rfl, fun q2 hq2 => ?_⟩
          have gq2 := Go.new (A := A) (o := .lst [V.int 0]) hq2
          have W9 := W8.go gq2
          have rg2 : Rp S (upd (upd (upd H6 q1 (.lst [V.int ((x : Int) + (l : Int) - 1)])) t1 (.tup [.ref L1, .ref q1])) q2 (.lst [V.int 0])) (.ref q2) (rowD [0]) := .lst (W8.fresh hq2) upd_same (Rps.ints [_])
          refine ⟨by show 2 ≤ sizeLine; exact szl rfl, fun t2 ht2 => ⟨by show 2 ≤ sizeLine; exact szl rfl, ?_⟩⟩
          have rt2 := tup_mach W9 (((rl2.go W6 gq1).go W7 gt1).go W8 gq2) rg2 ht2
          have gt2 := Go.new (A := A) (o := .tup [.ref L2, .ref q2]) ht2
          exact two_fin kk (W9.go gt2) ((g5.trans g6).trans ((gq1.trans gt1).trans (gq2.trans gt2))) ((rt1.go W8 gq2).go W9 gt2) rt2 (rows_mach (N := x + l) (by omega) (by omega) (by omega) hr1 (by simp) fun z hz => by rw [List.mem_singleton.mp hz]; omega) (rows_mach (N := y) (by omega) (by omega) (by omega) hr2 (by simp) fun z hz => by rw [List.mem_singleton.mp hz]; omega)
        · have W6 := W5.go g6
          have rl1 := rl1.go W5 g6
          have rl2 := rl2.go W5 g6
          refine ⟨_, rfl, _, rfl, _, rfl, _, rfl, _, _, rfl, rfl, _, rfl, _, rfl, _, _, rfl, rfl, _, _, rfl, rfl, A, S, a, x + l, (x : Int) + (l : Int) - 1, by rw [← hxl]; rfl, hm, W6, by omega, by omega, by omega, by omega, fun va ga H7 g7 ra pa ba => ?_⟩
          have W7 := W6.go g7
          have rl1 := rl1.go W6 g7
          have rl2 := rl2.go W6 g7
          refine ⟨by show 2 ≤ sizeLine; exact szl rfl, fun t1 ht1 => ?_⟩
          have rt1 := tup_mach W7 rl1 ra ht1
          have gt1 := Go.new (A := A) (o := .tup [.ref L1, va]) ht1
          have W8 := W7.go gt1
          have rl2 := rl2.go W7 gt1
          refine ⟨_, rfl, _, rfl, _, rfl, A, S, a, y, 0, rfl, hm, W8, by omega, by omega, by omega, by omega, fun vb gb H9 g9 rb pb bb => ?_⟩
          have W9 := W8.go g9
          refine ⟨by show 2 ≤ sizeLine; exact szl rfl, fun t2 ht2 => ⟨by show 2 ≤ sizeLine; exact szl rfl, ?_⟩⟩
          have rt2 := tup_mach W9 (rl2.go W8 g9) rb ht2
          have gt2 := Go.new (A := A) (o := .tup [.ref L2, vb]) ht2
          exact two_fin kk (W9.go gt2) ((g5.trans g6).trans ((g7.trans gt1).trans (g9.trans gt2))) ((rt1.go W8 g9).go W9 gt2) rt2 (rows_mach (N := x + l) (by omega) (by omega) (by omega) hr1 pa ba) (rows_mach (N := y) (by omega) (by omega) (by omega) hr2 pb bb)
end

/-! ### _law_thin, _law_both -/
open MA
abbrev sThin : Stmt := top 57
abbrev sBoth : Stmt := top 58
def spThin : Sp := fun vs H Q _ => ∃ (A S : List Addr) (a : Addr) (al : Str), vs = [.ref a, .str al] ∧ a ∈ A ∧ Wd A S H ∧ IsAl al ∧
  ∀ (v : V) (mv : List (List Int)) (g : List Int) (H' : Hp), Go A H H' → Rp S H' v (.tup [mvD mv, rowD g]) → Mach al.length mv g → Q v H'
def spBoth : Sp := fun vs H Q _ => ∃ (A S : List Addr) (a a2 : Addr) (al : Str), vs = [.ref a, .ref a2, .str al] ∧ a ∈ A ∧ a2 ∈ A ∧ Wd A S H ∧ IsAl al ∧ Two A S al.length H Q
theorem Go.none0 {A S : List Addr} {H H1 : Hp} {p : Addr} (W1 : Wd A S H1) (g : Go A H H1) (h : H1 p = .none) : H p = .none := by
  have nA : p ∉ A := fun z => (W1.fresh h) (W1.sub _ z)
  cases e : H p with
  | none => rfl
  | some o => rw [g.keep p o nA e] at h; cases h
/-- the rows are apart from their list -/
theorem rows_off {S : List Addr} {H : Hp} {L : Addr} {rows : List (List Int)} (h : Rp S H (.ref L) (mvD rows)) : ∃ xs, L ∉ S ∧ H L = some (.lst xs) ∧ Rps (L :: S) H xs (rows.map rowD) := by
  cases h with
  | @lst _ xs _ n e rs =>
    refine ⟨xs, n, e, Rps.of_get rs.len fun j y d h1 h2 => ?_⟩
    obtain ⟨r, b, h3, rfl, h4, h5⟩ := rowD_item rs h1
    rw [List.getElem?_map, h3] at h2
    cases h2
    refine .lst (fun z => ?_) h5 (Rps.ints r)
    rcases List.mem_cons.mp z with z | z
    · rw [z, e] at h5
      have h6 : xs = r.map V.int := by injection h5 with h5; injection h5
      rw [h6, List.getElem?_map] at h1
      cases hr : r[j]? with
      | none => rw [hr] at h1; cases h1
      | some x => rw [hr] at h1; cases h1
    · exact h4 z
section
open PyProof.Rows
variable {P : Program} {w : World} {K : PySem.W.Frag} {mg : Str → Option Value} {base : Heap}
theorem scThin : FnScope ["source", "alphabet", "many", "way", "word", "size", "moves", "p", "t"] ["source", "alphabet"] (C8.fnScope sThin) := C8.fnScope_by (by decide +kernel)
theorem ok_thin {f : Addr} {fd : FuncData} (F : C8.Def K mg "_law_thin" sThin f fd) (b : Binds K fd ["source", "alphabet"] []) (T : Txt mg) (c_law_pick : C8.Cal P w K mg base 1 "_law_pick" spPick []) (c_law_word : C8.Cal P w K mg base 2 "_law_word" spWord []) (c_law_line : C8.Cal P w K mg base 1 "_law_line" spLine []) : C8.Cal P w K mg base 3 "_law_thin" spThin [] := by
  refine C8.cal0 F b .nil scThin (fun vs H Q E h => ?_) (fun cdv A0 outer s H vs Q E hr h => ?_)
  · obtain ⟨A, S, a, al, rfl, _⟩ := h
    rfl
  · obtain ⟨A, S, a, al, rfl, hm, W, ial, k⟩ := h
    have sc := scThin
    have hl := ial.len
    have hls : al.length ≤ sizeLine := Nat.le_trans hl.2 (szl rfl)
    refine ⟨_, -- _law_thin: 0 source* 1 alphabet 2 many* 3 way 4 word 5 size* 6 moves 7 p 8 t

      (pss_cons (ps_set (i := 2) sc.nd rfl (Or.inr rfl) (pe_callB call_len_str (by rfl) T.len PySem.boot_len (pa_cons (pv 1) pa_nil)))
      (pss_cons (ps_set (i := 3) sc.nd rfl (Or.inl rfl) (C8.pe_c c_law_pick hr (by decide) rfl (pa_cons (pv 0) (pa_cons pe_int pa_nil))))
      (pss_cons (ps_if (pt_cmpR op_eq (pv 3) pe_int (nomark _)) 
        (pss_cons (ps_set (i := 4) sc.nd rfl (Or.inl rfl) (pe_op op_add_str (pe_ix ix_str (pv 1) (C8.pe_c c_law_pick hr (by decide) rfl (pa_cons (pv 0) (pa_cons (pv 2) pa_nil))) (fun _ _ => rfl)) (C8.pe_c c_law_word hr (by decide) rfl (pa_cons (pv 0) (pa_cons (pv 1) (pa_cons pe_int pa_nil))))))
        (pss_one (ps_ret (C8.pe_c c_law_line hr (by decide) rfl (pa_cons (pv 1) (pa_cons (pv 4) (pa_cons (pe_ix ix_list (pe_lst (pa_cons (pe_un un_neg pe_int) (pa_cons pe_int (pa_cons pe_int (pa_cons (pe_un un_neg pe_int) (pa_cons pe_int (pa_cons pe_int pa_nil))))))) (C8.pe_c c_law_pick hr (by decide) rfl (pa_cons (pv 0) (pa_cons pe_int pa_nil))) (fun _ _ => rfl)) pa_nil))))))) pss_nil)
      (pss_cons (ps_set (i := 5) sc.nd rfl (Or.inr rfl) (pe_op op_add pe_int (C8.pe_c c_law_pick hr (by decide) rfl (pa_cons (pv 0) (pa_cons pe_int pa_nil)))))
      (pss_cons (ps_setLc (i := 6) (own := [("p", 7)]) (g := gName 7) rfl sc.nd rfl rfl (sw_true rfl rfl rfl (by decide +kernel)) (pi_range1 (by rfl) T.range (pa_cons (pv 5) pa_nil)) (blkOk_by (own := [("p", 7)]) (by kernel_rfl)) (fun _ _ _ _ _ => (pg_name (i := 7) sc.nd rfl (Or.inr rfl))) (fun _ _ _ _ _ => pts_nil) (fun _ _ _ _ _ => (pe_lc (own := [("t", 8)]) (g := gName 8) rfl sc.nd (pi_range1 (by rfl) T.range (pa_cons (pv 2) pa_nil)) (blkOk_by (own := [("t", 8)]) (by kernel_rfl)) (fun _ _ _ _ _ => (pg_name (i := 8) sc.nd rfl (Or.inl rfl))) (fun _ _ _ _ _ => pts_nil) (fun _ _ _ _ _ => (pe_callB (id := "min") (call_min2 rfl) (by rfl) T.min (by decide +kernel) (pa_cons (pv 5) (pa_cons (pe_op op_add (pe_op op_add (pv 7) pe_int) (C8.pe_c c_law_pick hr (by decide) rfl (pa_cons (pv 0) (pa_cons pe_int pa_nil)))) pa_nil)))))))
      (C8.pss_cut (ps_if (pt_cmpR op_eq (pv 3) pe_int (nomark _)) 
        (pss_one (ps_setLc (i := 6) (own := [("p", 7)]) (g := gName 7) rfl sc.nd rfl rfl (sw_true rfl rfl rfl (by decide +kernel)) (pi_range1 (by rfl) T.range (pa_cons (pv 5) pa_nil)) (blkOk_by (own := [("p", 7)]) (by kernel_rfl)) (fun _ _ _ _ _ => (pg_name (i := 7) sc.nd rfl (Or.inl rfl))) (fun _ _ _ _ _ => pts_nil) (fun _ _ _ _ _ => (pe_lc (own := [("t", 8)]) (g := gName 8) rfl sc.nd (pi_range1 (by rfl) T.range (pa_cons (pv 2) pa_nil)) (blkOk_by (own := [("t", 8)]) (by kernel_rfl)) (fun _ _ _ _ _ => (pg_name (i := 8) sc.nd rfl (Or.inl rfl))) (fun _ _ _ _ _ => pts_nil) (fun _ _ _ _ _ => (C8.pe_c c_law_pick hr (by decide) rfl (pa_cons (pv 0) (pa_cons (pe_op op_add (pv 5) pe_int) pa_nil)))))))) pss_nil)
      (pss_cons (ps_expr (pe_append (K := K) rfl (pv 6) (pa_cons (pe_lc (own := [("t", 8)]) (g := gName 8) rfl sc.nd (pi_range1 (by rfl) T.range (pa_cons (pv 2) pa_nil)) (blkOk_by (own := [("t", 8)]) (by kernel_rfl)) (fun _ _ _ _ _ => (pg_name (i := 8) sc.nd rfl (Or.inl rfl))) (fun _ _ _ _ _ => pts_nil) (fun _ _ _ _ _ => (pv 5))) pa_nil)))
      (pss_one (ps_ret (pe_tup (pa_cons (pv 6) (pa_cons (pe_lc (own := [("p", 7)]) (g := gName 7) rfl sc.nd (pi_range1 (by rfl) T.range (pa_cons (pv 5) pa_nil)) (blkOk_by (own := [("p", 7)]) (by kernel_rfl)) (fun _ _ _ _ _ => (pg_name (i := 7) sc.nd rfl (Or.inl rfl))) (fun _ _ _ _ _ => (pts_one (pt_cmpR op_eq (C8.pe_c c_law_pick hr (by decide) rfl (pa_cons (pv 0) (pa_cons pe_int pa_nil))) pe_int (nomark _)))) (fun _ _ _ _ _ => (pv 7))) pa_nil)))))))))))), ?_⟩
    refine ⟨_, rfl, al, rfl, hls, ?_⟩
    walk_at "rd"
    refine ⟨A, a, _, rfl, hm, W.src, by omega, by omega, fun z H2 hz0 hz1 g2 => ?_⟩
    have W2 := W.go g2
    refine ⟨_, rfl, rfl, _, rfl, ite2 (fun _ => ?_) (fun _ => ?_)⟩
    · refine ⟨_, rfl, _, rfl, _, rfl, A, a, _, rfl, hm, W2.src, by omega, by omega, fun y H3 hy0 hy1 g3 => ?_⟩
      have W3 := W2.go g3
      obtain ⟨c, hc, hat⟩ := sign_at hy0 hy1
      refine ⟨al, _, c, rfl, rfl, hls, hat, _, rfl, _, rfl, A, a, al, 2, rfl, hm, W3.src, ial, by omega, by omega, fun cs H4 hcs hcl g4 => ?_⟩
      have W4 := W3.go g4
      have hlen : (SX.S cs).length = cs.length := SX.S_len cs
      refine ⟨_, _, rfl, rfl, ?_, ?_⟩
      · rw [hlen]
        exact Nat.le_trans (m := 10) (show 1 + cs.length ≤ 10 by omega) (by decide)
      · have hwl : (⟨#[c]⟩ ++ SX.S cs : Str).length = 1 + cs.length := by
          rw [show (⟨#[c]⟩ ++ SX.S cs : Str) = SX.S ([c] ++ cs) from SX.S_cat [c] cs, SX.S_len]
          rw [List.length_append]
          rfl
        generalize (⟨#[c]⟩ ++ SX.S cs : Str) = wo at hwl ⊢
        refine ⟨_, rfl, _, rfl, ?_⟩
        walk_at "rd"
        refine fun q hq => ?_
        have s5 : Same H4 (upd H4 q (.lst [.int (-1), .int 3, .int 1, .int (-1), .int 5, .int 0])) := Same.new hq
        have W5 := W4.go (Go.same s5)
        have qS : q ∉ S := W4.fresh hq
        have eq : upd H4 q (.lst [.int (-1), .int 3, .int 1, .int (-1), .int 5, .int 0]) q = some (.lst [.int (-1), .int 3, .int 1, .int (-1), .int 5, .int 0]) := upd_same
        refine ⟨_, rfl, A, a, _, rfl, hm, W5.src, by omega, by omega, fun y2 H5 hy20 hy21 g5 => ?_⟩
        have eq5 := g5.keep q _ (fun z => qS (W2.sub _ z)) eq
        have W6 := W5.go g5
        obtain ⟨cut, hcat, hc0, hc1⟩ : ∃ cut : Int, atI [V.int (-1), V.int 3, V.int 1, V.int (-1), V.int 5, V.int 0] y2 = some (.int cut) ∧ -1 ≤ cut ∧ cut ≤ 28 := by
          rcases (show y2 = 0 ∨ y2 = 1 ∨ y2 = 2 ∨ y2 = 3 ∨ y2 = 4 ∨ y2 = 5 by omega) with rfl | rfl | rfl | rfl | rfl | rfl
          · exact ⟨-1, rfl, by decide, by decide⟩
          · exact ⟨3, rfl, by decide, by decide⟩
          · exact ⟨1, rfl, by decide, by decide⟩
          · exact ⟨-1, rfl, by decide, by decide⟩
          · exact ⟨5, rfl, by decide, by decide⟩
          · exact ⟨0, rfl, by decide, by decide⟩
        refine ⟨q, _, _, _, rfl, rfl, SqL.of eq5, hcat, S, al, wo, cut, rfl, hl, by omega, hc0, hc1, ⟨by simp, by simp, W6.ex⟩, fun v mv g H6 s6 rv M => k v mv g H6 ((((g2.trans g3).trans g4).trans (Go.same s5)).trans (g5.trans (Go.same s6))) rv M⟩
    · walk_at "rd"
      refine ⟨A, a, _, rfl, hm, W2.src, by omega, by omega, fun y H3 hy0 hy1 g3 => ?_⟩
      have W3 := W2.go g3
      obtain ⟨Y, rfl⟩ : ∃ Y : Nat, y = (Y : Int) := ⟨y.toNat, by omega⟩
      have hY : Y < 4 := by omega
      walk_at "rd"
      refine fun L1 hL1 => lc_M (A := A) (S := S) (Xp := fun i x => x = .int (0 + (i : Int))) al.length (Y + 3) (walk_range (lo := 0)) (fun i H x H' _ y => ⟨y.1, y.2⟩) W3 hL1 (by omega) (fun _ _ => trivial) (fun _ => rfl) (fun i x H6 hi hx W6 k6 Kt ht => ?_) (fun rows1 H5 hl1 hr1 go1 rl1 => ?_)
      · subst hx
        rw [Int.zero_add]
        walk_at "rd"
        refine fun L7 hL7 => lc_I (A := A) (S := L1 :: S) (Xp := fun i x => x = .int (0 + (i : Int))) (fun z => 0 ≤ z ∧ z < ((Y + 3 : Nat) : Int)) (walk_range (lo := 0)) (fun i H x H' _ y => ⟨y.1, y.2⟩) W6 hL7 (by omega) (fun _ _ => trivial) (fun _ => rfl) (fun j x8 H8 hj hx8 W8 k8 Kt2 ht2 => ?_) (fun q H8 hq hq2 g8 e8 => ?_)
        · subst hx8
          refine ⟨_, rfl, _, rfl, _, _, rfl, rfl, _, rfl, A, a, _, rfl, hm, W8.src, by omega, by omega, fun r H9 hr0 hr1 g9 => ?_⟩
          refine ⟨_, _, rfl, rfl, _, _, rfl, ht2 _ _ g9 ?_⟩
          show 0 ≤ (if (i : Int) + 1 + r < 2 + (Y : Int) then (i : Int) + 1 + r else 2 + (Y : Int)) ∧ (if (i : Int) + 1 + r < 2 + (Y : Int) then (i : Int) + 1 + r else 2 + (Y : Int)) < ((Y + 3 : Nat) : Int)
          split <;> omega
        · exact ht L7 q H8 g8 (W6.fresh hL7) e8 (by omega) hq2
      · have W5 := W3.go go1
        have g5 := (g2.trans g3).trans go1
        refine ⟨fun σ' H' => Go A H5 H' ∧ ∃ L rows, H L = none ∧ Rp S H' (.ref L) (mvD rows) ∧ rows.length = Y + 2 ∧ (∀ q ∈ rows, q.length = al.length ∧ ∀ x ∈ q, 0 ≤ x ∧ x < ((Y + 3 : Nat) : Int)) ∧ σ' = [some (.ref a), some (.str al), some (.int (al.length : Int)), some (.int z), none, some (.int (2 + (Y : Int))), some (.ref L), none, none], ?_, ?_⟩
        · refine ⟨_, rfl, rfl, _, rfl, ite2 (fun _ => ?_) (fun _ => ?_)⟩
          · walk_at "rd"
            refine fun L2 hL2 => lc_M (A := A) (S := S) (Xp := fun i x => x = .int (0 + (i : Int))) al.length (Y + 3) (walk_range (lo := 0)) (fun i H x H' _ y => ⟨y.1, y.2⟩) W5 hL2 (by omega) (fun _ _ => trivial) (fun _ => rfl) (fun i x H6 hi hx W6 k6 Kt ht => ?_) (fun rows2 H6 hl2 hr2 go2 rl2 => ?_)
            · subst hx
              rw [Int.zero_add]
              walk_at "rd"
              refine fun L7 hL7 => lc_I (A := A) (S := L2 :: S) (Xp := fun i x => x = .int (0 + (i : Int))) (fun z => 0 ≤ z ∧ z < ((Y + 3 : Nat) : Int)) (walk_range (lo := 0)) (fun i H x H' _ y => ⟨y.1, y.2⟩) W6 hL7 (by omega) (fun _ _ => trivial) (fun _ => rfl) (fun j x8 H8 hj hx8 W8 k8 Kt2 ht2 => ?_) (fun q H8 hq hq2 g8 e8 => ?_)
              · exact ⟨_, rfl, _, rfl, _, _, rfl, rfl, A, a, _, rfl, hm, W8.src, by omega, by omega, fun r H9 hr0 hr1 g9 => ht2 _ _ g9 ⟨hr0, by omega⟩⟩
              · exact ht L7 q H8 g8 (W6.fresh hL7) e8 (by omega) hq2
            · exact ⟨go2, L2, rows2, Go.none0 W5 g5 hL2, rl2, by omega, hr2, rfl⟩
          · exact ⟨Go.refl _ _, L1, rows1, Go.none0 W3 (g2.trans g3) hL1, rl1, by omega, hr1, rfl⟩
        · rintro σ' H6 ⟨g6, L, rows, hL0, rl, hlr, hrr, rfl⟩
          have W6 := W5.go g6
          obtain ⟨xs, nL, eL, rxs⟩ := rows_off rl
          have WL := W6.add eL
          have lx := rxs.len
          rw [List.length_map] at lx
          refine ⟨_, rfl, .inl ⟨rfl, _, SqL.of eL⟩, ?_⟩
          walk_at "rd"
          refine fun L7 hL7 => lc_I (A := A) (S := L :: S) (Xp := fun i x => x = .int (0 + (i : Int))) (fun z => 0 ≤ z ∧ z < ((Y + 3 : Nat) : Int)) (walk_range (lo := 0)) (fun i H x H' _ y => ⟨y.1, y.2⟩) WL hL7 (by omega) (fun _ _ => trivial) (fun _ => rfl) (fun j x8 H8 hj hx8 W8 k8 Kt2 ht2 => ?_) (fun q H8 hq hq2 g8 e8 => ?_)
          · exact ⟨_, rfl, ht2 _ _ (Go.refl _ _) ⟨by omega, by omega⟩⟩
          · have hq1 : q.length = al.length := by omega
            have W8 := WL.go g8
            have nA : L ∉ A := fun z => nL (W6.sub _ z)
            have eL8 := g8.keep L _ nA eL
            have rx8 := rxs.go WL g8
            have n7 : L7 ∉ L :: S := WL.fresh hL7
            have rl9 : Rp S (upd H8 L (.lst (xs ++ [V.ref L7]))) (.ref L) (mvD (rows ++ [q])) := by
              refine .lst nL upd_same ?_
              rw [List.map_append]
              exact ((rx8.keep (Keep.upd (by simp))).snoc ((Rp.lst n7 e8 (Rps.ints q)).keep (Keep.upd (by simp)))).less fun _ z => List.mem_cons_of_mem _ z
            have W9 : Wd A S (upd H8 L (.lst (xs ++ [V.ref L7]))) := (W8.less (fun a ha => W6.sub a ha) (fun a ha => List.mem_cons_of_mem _ ha)).updL nA
            have g9 : Go A H (upd H8 L (.lst (xs ++ [V.ref L7]))) := Go.put W ((g5.trans g6).trans g8) hL0
            refine ⟨L, xs, V.ref L7, rfl, rfl, eL8, Nat.lt_of_le_of_lt (m := 100) (by omega) (by decide), ?_⟩
            generalize upd H8 L (.lst (xs ++ [V.ref L7])) = H9 at rl9 W9 g9 ⊢
            refine ⟨_, rfl, ?_⟩
            walk_at "rd"
            refine fun L10 hL10 => lc_C (A := A) (S := S) (walk_range (lo := 0)) (fun i H x H' _ y => ⟨y.1, y.2⟩) W9 hL10 (by omega) (fun _ _ => trivial) (fun _ => rfl) (fun i H2 hi W2 k2 Kb hb => ?_) (fun i H2 Kt h => ⟨_, rfl, h⟩) (fun g H10 hg hb g10 rg e => ?_)
            · exact ⟨_, rfl, A, a, _, rfl, hm, W2.src, by omega, by omega, fun r H3 hr0 hr1 g3 => ⟨rfl, _, rfl, hb _ H3 g3⟩⟩
            · have W10 := W9.go g10
              refine ⟨by show 2 ≤ sizeLine; exact szl rfl, fun tp htp => ?_⟩
              refine k _ _ g _ ((g9.trans g10).trans (Go.new htp)) (tup_mach W10 (rl9.go W9 g10) rg htp) (rows_mach (N := Y + 3) (by rw [List.length_append]; show rows.length + 1 = Y + 3; omega) (by omega) (by omega) (fun r hr => ?_) hg fun x hx => by have := hb x hx; omega)
              rcases List.mem_append.mp hr with hr | hr
              · exact hrr r hr
              · rw [List.mem_singleton.mp hr]
                exact ⟨hq1, hq2⟩
theorem scBoth : FnScope ["source", "second", "alphabet", "many", "way", "first", "other", "p", "t"] ["source", "second", "alphabet"] (C8.fnScope sBoth) := C8.fnScope_by (by decide +kernel)
theorem ok_both {f : Addr} {fd : FuncData} (F : C8.Def K mg "_law_both" sBoth f fd) (b : Binds K fd ["source", "second", "alphabet"] []) (T : Txt mg) (c_law_pick : C8.Cal P w K mg base 1 "_law_pick" spPick []) (c_law_reader : C8.Cal P w K mg base 2 "_law_reader" spReader []) (c_law_rings : C8.Cal P w K mg base 3 "_law_rings" spRings []) (c_law_thin : C8.Cal P w K mg base 3 "_law_thin" spThin []) (c_law_changed : C8.Cal P w K mg base 2 "_law_changed" spChanged []) : C8.Cal P w K mg base 4 "_law_both" spBoth [] := by
  refine C8.cal0 F b .nil scBoth (fun vs H Q E h => ?_) (fun cdv A0 outer s H vs Q E hr h => ?_)
  · obtain ⟨A, S, a, a2, al, rfl, _⟩ := h
    rfl
  · obtain ⟨A, S, a, a2, al, rfl, hm, hm2, W, ial, kk⟩ := h
    have sc := scBoth
    have hl := ial.len
    have hls : al.length ≤ sizeLine := Nat.le_trans hl.2 (szl rfl)
    have toN : ((al.length : Nat) : Int).toNat = al.length := by omega
    refine ⟨_, -- _law_both: 0 source 1 second 2 alphabet 3 many 4 way 5 first* 6 other 7 p 8 t

      (pss_cons (ps_set (i := 3) sc.nd rfl (Or.inl rfl) (pe_callB call_len_str (by rfl) T.len PySem.boot_len (pa_cons (pv 2) pa_nil)))
      (pss_cons (ps_set (i := 4) sc.nd rfl (Or.inl rfl) (C8.pe_c c_law_pick hr (by decide) rfl (pa_cons (pv 0) (pa_cons pe_int pa_nil))))
      (C8.pss_cut (ps_if (pt_cmpR (op_inQ (K := K) rfl) (pv 4) (pe_tup (pa_cons pe_int (pa_cons pe_int pa_nil))) (by rfl)) 
        (pss_one (ps_ret (C8.pe_c c_law_rings hr (by decide) rfl (pa_cons (pv 1) (pa_cons (pv 3) pa_nil))))) pss_nil)
      (C8.pss_cut (ps_set (i := 5) sc.nd rfl (Or.inr rfl) (C8.pe_c c_law_reader hr (by decide) rfl (pa_cons (pv 0) (pa_cons (pv 3) (pa_cons (pe_ifExp (pt_cmpR op_eq (pv 4) pe_int (nomark _)) pe_int pe_int) pa_nil)))))
      (C8.pss_cut (ps_set (i := 6) sc.nd rfl (Or.inl rfl) (C8.pe_c c_law_reader hr (by decide) rfl (pa_cons (pv 1) (pa_cons (pv 3) (pa_cons (pe_ifExp (pt_cmpR op_eq (pv 4) pe_int (nomark _)) pe_int pe_int) pa_nil)))))
      (C8.pss_cut (ps_if (pt_cmpR (op_inQ (K := K) rfl) (pv 4) (pe_tup (pa_cons pe_int (pa_cons pe_int (pa_cons pe_int (pa_cons pe_int pa_nil))))) (by rfl)) 
        (pss_one (ps_set (i := 5) sc.nd rfl (Or.inr rfl) (C8.pe_c c_law_thin hr (by decide) rfl (pa_cons (pv 0) (pa_cons (pv 2) pa_nil))))) pss_nil)
      (C8.pss_cut (ps_if (pt_cmpR (op_inQ (K := K) rfl) (pv 4) (pe_tup (pa_cons pe_int (pa_cons pe_int (pa_cons pe_int pa_nil)))) (by rfl)) 
        (pss_one (ps_set (i := 6) sc.nd rfl (Or.inl rfl) (C8.pe_c c_law_thin hr (by decide) rfl (pa_cons (pv 1) (pa_cons (pv 2) pa_nil))))) pss_nil)
      (C8.pss_cut (ps_if (pt_cmpR op_eq (pv 4) pe_int (nomark _)) 
        (pss_one (ps_set (i := 6) sc.nd rfl (Or.inl rfl) (pe_tup (pa_cons (pe_ix (ixQ (K := K) rfl) (pv 5) pe_int (fun _ _ => rfl)) (pa_cons (pe_lc (own := [("p", 7)]) (g := gName 7) rfl sc.nd (pi_range1 (by rfl) T.range (pa_cons (pe_callB (call_lenQ (K := K) rfl) (by rfl) T.len PySem.boot_len (pa_cons (pe_ix (ixQ (K := K) rfl) (pv 5) pe_int (fun _ _ => rfl)) pa_nil)) pa_nil)) (blkOk_by (own := [("p", 7)]) (by kernel_rfl)) (fun _ _ _ _ _ => (pg_name (i := 7) sc.nd rfl (Or.inl rfl))) (fun _ _ _ _ _ => (pts_one (pt_cmpR (op_notInQ (K := K) rfl) (pv 7) (pe_ix (ixQ (K := K) rfl) (pv 5) pe_int (fun _ _ => rfl)) (by rfl)))) (fun _ _ _ _ _ => (pv 7))) pa_nil))))) pss_nil)
      (C8.pss_cut (ps_if (pt_cmpR (op_inQ (K := K) rfl) (pv 4) (pe_tup (pa_cons pe_int (pa_cons pe_int pa_nil))) (by rfl)) 
        (pss_one (ps_set (i := 6) sc.nd rfl (Or.inl rfl) (C8.pe_c c_law_changed hr (by decide) rfl (pa_cons (pv 1) (pa_cons (pv 5) pa_nil))))) pss_nil)
      (C8.pss_cut (ps_if (pt_cmpR op_eq (pv 4) pe_int (nomark _)) 
        (pss_one (ps_set (i := 6) sc.nd rfl (Or.inl rfl) (pe_tup (pa_cons (pe_ix (ixQ (K := K) rfl) (pv 5) pe_int (fun _ _ => rfl)) (pa_cons (pe_callTy (T := "list") (call_lstQ (K := K) rfl) (by rfl) T.list (by decide +kernel) (pa_cons (pe_ix (ixQ (K := K) rfl) (pv 5) pe_int (fun _ _ => rfl)) pa_nil)) pa_nil))))) pss_nil)
      (C8.pss_cut (ps_if (pt_cmpR op_eq (pv 4) pe_int (nomark _)) 
        (pss_one (ps_set (i := 6) sc.nd rfl (Or.inl rfl) (pe_tup (pa_cons (pe_lst (pa_cons (pe_lc (own := [("t", 8)]) (g := gName 8) rfl sc.nd (pi_range1 (by rfl) T.range (pa_cons (pv 3) pa_nil)) (blkOk_by (own := [("t", 8)]) (by kernel_rfl)) (fun _ _ _ _ _ => (pg_name (i := 8) sc.nd rfl (Or.inl rfl))) (fun _ _ _ _ _ => pts_nil) (fun _ _ _ _ _ => pe_int)) pa_nil)) (pa_cons (pe_ix ix_list (pe_lst (pa_cons (pe_lst pa_nil) (pa_cons (pe_lst (pa_cons pe_int pa_nil)) pa_nil))) (C8.pe_c c_law_pick hr (by decide) rfl (pa_cons (pv 1) (pa_cons pe_int pa_nil))) (fun _ _ => rfl)) pa_nil))))) pss_nil)
      (pss_one (ps_ret (pe_lst (pa_cons (pv 5) (pa_cons (pv 6) pa_nil)))))))))))))))), ?_⟩
    refine ⟨_, rfl, al, rfl, hls, ?_⟩
    walk_at "rd"
    refine ⟨A, a, _, rfl, hm, W.src, by omega, by omega, fun z H1 hz0 hz1 g1 => ?_⟩
    have W1 := W.go g1
    refine ⟨fun σ' H' => Go A H1 H' ∧ σ' = [some (.ref a), some (.ref a2), some (.str al), some (.int (al.length : Int)), some (.int z), none, none, none, none], ?_, ?_⟩
    · refine ⟨_, rfl, by show 2 ≤ sizeLine; exact szl rfl, fun p hp => ⟨p, [.int 7, .int 11], rfl, .inr (.inl (.inl upd_same)), rfl, rfl, _, rfl, ?_⟩⟩
      have gp := Go.new (A := A) (o := .tup [.int 7, .int 11]) hp
      refine ite2 (fun _ => ?_) (fun _ => ⟨gp, rfl⟩)
      exact ⟨_, rfl, _, rfl, A, S, a2, al.length, rfl, hm2, W1.go gp, hl.1, hl.2, fun L v1 v2 m1 m2 g1' g2' H' go => kk L v1 v2 m1 m2 g1' g2' H' ((g1.trans gp).trans go)⟩
    · rintro σ' H2 ⟨g2, rfl⟩
      have W2 := W1.go g2
      have g12 := g1.trans g2
      refine ⟨fun σ' H' => Go A H2 H' ∧ ∃ v1 m1 g1, Rp S H' v1 (.tup [mvD m1, rowD g1]) ∧ Mach al.length m1 g1 ∧ σ' = [some (.ref a), some (.ref a2), some (.str al), some (.int (al.length : Int)), some (.int z), some v1, none, none, none], ?_, ?_⟩
      · refine ⟨_, rfl, _, rfl, _, rfl, rfl, _, rfl, ite2 (fun _ => ?_) (fun _ => ?_)⟩ <;>
          exact ⟨A, S, a, _, _, rfl, hm, W2, by omega, by omega, by decide, by decide, fun v mv g H' go rv M => ⟨go, v, mv, g, rv, by rwa [toN] at M, rfl⟩⟩
      · rintro σ' H3 ⟨g3, v1, m1, g1', r1, M1, rfl⟩
        have W3 := W2.go g3
        refine ⟨fun σ' H' => Go A H2 H' ∧ ∃ v1 v2 m1 m2 g1 g2, Rp S H' v1 (.tup [mvD m1, rowD g1]) ∧ Mach al.length m1 g1 ∧ Rp S H' v2 (.tup [mvD m2, rowD g2]) ∧ Mach al.length m2 g2 ∧ σ' = [some (.ref a), some (.ref a2), some (.str al), some (.int (al.length : Int)), some (.int z), some v1, some v2, none, none], ?_, ?_⟩
        · refine ⟨_, rfl, _, rfl, _, rfl, rfl, _, rfl, ite2 (fun _ => ?_) (fun _ => ?_)⟩ <;>
            exact ⟨A, S, a2, _, _, rfl, hm2, W3, by omega, by omega, by decide, by decide, fun v mv g H' go rv M => ⟨g3.trans go, v1, v, m1, mv, g1', g, r1.go W3 go, M1, rv, by rwa [toN] at M, rfl⟩⟩
        · rintro σ' H4 ⟨g4, v1, v2, m1, m2, g1', g2', r1, M1, r2, M2, rfl⟩
          have W4 := W2.go g4
          refine ⟨fun σ' H' => Go A H2 H' ∧ ∃ v1 v2 m1 m2 g1 g2, Rp S H' v1 (.tup [mvD m1, rowD g1]) ∧ Mach al.length m1 g1 ∧ Rp S H' v2 (.tup [mvD m2, rowD g2]) ∧ Mach al.length m2 g2 ∧ σ' = [some (.ref a), some (.ref a2), some (.str al), some (.int (al.length : Int)), some (.int z), some v1, some v2, none, none], ?_, ?_⟩
          · refine ⟨_, rfl, by show 4 ≤ sizeLine; exact szl rfl, fun p hp => ⟨p, [.int 1, .int 3, .int 8, .int 10], rfl, .inr (.inl (.inl upd_same)), rfl, rfl, _, rfl, ?_⟩⟩
            have gp := Go.new (A := A) (o := .tup [.int 1, .int 3, .int 8, .int 10]) hp
            have Wp := W4.go gp
            have r1 := r1.go W4 gp
            have r2 := r2.go W4 gp
            have gq := g4.trans gp
            refine ite2 (fun _ => ?_) (fun _ => ⟨gq, v1, v2, m1, m2, g1', g2', r1, M1, r2, M2, rfl⟩)
            exact ⟨_, rfl, _, rfl, A, S, a, al, rfl, hm, Wp, ial, fun v mv g H' go rv M => ⟨gq.trans go, v, v2, mv, m2, g, g2', rv, M, r2.go Wp go, M2, rfl⟩⟩
          · rintro σ' H5 ⟨g5, v1, v2, m1, m2, g1', g2', r1, M1, r2, M2, rfl⟩
            have W5 := W2.go g5
            refine ⟨fun σ' H' => Go A H2 H' ∧ ∃ v1 v2 m1 m2 g1 g2, Rp S H' v1 (.tup [mvD m1, rowD g1]) ∧ Mach al.length m1 g1 ∧ Rp S H' v2 (.tup [mvD m2, rowD g2]) ∧ Mach al.length m2 g2 ∧ σ' = [some (.ref a), some (.ref a2), some (.str al), some (.int (al.length : Int)), some (.int z), some v1, some v2, none, none], ?_, ?_⟩
            · refine ⟨_, rfl, by show 3 ≤ sizeLine; exact szl rfl, fun p hp => ⟨p, [.int 1, .int 2, .int 10], rfl, .inr (.inl (.inl upd_same)), rfl, rfl, _, rfl, ?_⟩⟩
              have gp := Go.new (A := A) (o := .tup [.int 1, .int 2, .int 10]) hp
              have Wp := W5.go gp
              have r1 := r1.go W5 gp
              have r2 := r2.go W5 gp
              have gq := g5.trans gp
              refine ite2 (fun _ => ?_) (fun _ => ⟨gq, v1, v2, m1, m2, g1', g2', r1, M1, r2, M2, rfl⟩)
              exact ⟨_, rfl, _, rfl, A, S, a2, al, rfl, hm2, Wp, ial, fun v mv g H' go rv M => ⟨gq.trans go, v1, v, m1, mv, g1', g, r1.go Wp go, M1, rv, M, rfl⟩⟩
            · rintro σ' H6 ⟨g6, v1, v2, m1, m2, g1', g2', r1, M1, r2, M2, rfl⟩
              have W6 := W2.go g6
              refine ⟨fun σ' H' => Go A H2 H' ∧ ∃ v1 v2 m1 m2 g1 g2, Rp S H' v1 (.tup [mvD m1, rowD g1]) ∧ Mach al.length m1 g1 ∧ Rp S H' v2 (.tup [mvD m2, rowD g2]) ∧ Mach al.length m2 g2 ∧ σ' = [some (.ref a), some (.ref a2), some (.str al), some (.int (al.length : Int)), some (.int z), some v1, some v2, none, none], ?_, ?_⟩
              · refine ⟨_, rfl, rfl, _, rfl, ite2 (fun _ => ?_) (fun _ => ⟨g6, v1, v2, m1, m2, g1', g2', r1, M1, r2, M2, rfl⟩)⟩
                · obtain ⟨mt, ws, rfl, nt, et, hws⟩ := r1.tupItem
                  cases hws with
                  | cons h1 hws =>
                  cases hws with
                  | cons h2 hws =>
                  cases hws
                  cases h1 with
                  | @lst am xs _ nam eam rxs =>
                  cases h2 with
                  | @lst ag gs _ nag eag rgs =>
                  have eag' : H6 ag = some (.lst (g1'.map V.int)) := by rw [← rgs.ints_eq]; exact eag
                  have xl := rxs.len
                  rw [List.length_map] at xl
                  have ml := M1.most
                  have rm : Rp S H6 (.ref am) (mvD m1) := .lst nam eam rxs
                  have out : ∀ {b : Addr}, b ∉ S → b ∉ A := fun h z => h (W6.sub _ z)
                  refine ⟨_, rfl, mt, _, _, _, rfl, rfl, .inr (.inl (.inl et)), rfl, _, rfl, mt, _, _, _, rfl, rfl, .inr (.inl (.inl et)), rfl, am, xs, rfl, .inl (SqL.of eam), _, rfl, by omega, by omega, fun L hL => lc_C (A := A) (S := S) (walk_range (lo := 0)) (fun i H x H' _ y => ⟨y.1, y.2⟩) W6 hL (by omega) (fun _ _ => trivial) (fun _ => rfl) (fun i H7 hi W7 k7 Kb hb => ?_) (fun i H7 Kt h => ⟨_, rfl, h⟩) (fun g H7 hg hb g7 rg e => ?_)⟩
                  · have nL : ∀ {b : Addr} {o : HO}, b ∉ S → H6 b = some o → b ∉ L :: A := fun {b o} hs e z => (List.mem_cons.mp z).elim (fun q => by rw [q, hL] at e; cases e) (out hs)
                    refine ⟨_, rfl, _, rfl, mt, _, _, _, rfl, rfl, .inr (.inl (.inl (k7 _ _ (nL nt et) et))), rfl, ag, _, rfl, .inl (SqL.of (k7 _ _ (nL nag eag') eag')), rfl, flat_ints g1', _, rfl, ?_⟩
                    exact hb _ H7 (Go.refl _ _)
                  · have W7 := W6.go g7
                    refine ⟨by show 2 ≤ sizeLine; exact szl rfl, fun tp htp => ?_⟩
                    have gt := Go.new (A := A) (o := .tup [.ref am, .ref L]) htp
                    exact ⟨(g6.trans g7).trans gt, _, _, m1, m1, g1', g, (Rp.tup nt et (.cons rm (.cons (.lst nag eag' (Rps.ints _)) .nil))).go W6 (g7.trans gt), M1, tup_mach W7 (rm.go W6 g7) rg htp, ⟨M1.pos, M1.most, M1.row, hg, fun x hx => by have := hb x hx; omega⟩, rfl⟩
              · rintro σ' H7 ⟨g7, v1, v2, m1, m2, g1', g2', r1, M1, r2, M2, rfl⟩
                have W7 := W2.go g7
                refine ⟨fun σ' H' => Go A H2 H' ∧ ∃ v1 v2 m1 m2 g1 g2, Rp S H' v1 (.tup [mvD m1, rowD g1]) ∧ Mach al.length m1 g1 ∧ Rp S H' v2 (.tup [mvD m2, rowD g2]) ∧ Mach al.length m2 g2 ∧ σ' = [some (.ref a), some (.ref a2), some (.str al), some (.int (al.length : Int)), some (.int z), some v1, some v2, none, none], ?_, ?_⟩
                · refine ⟨_, rfl, by show 2 ≤ sizeLine; exact szl rfl, fun p hp => ⟨p, [.int 4, .int 8], rfl, .inr (.inl (.inl upd_same)), rfl, rfl, _, rfl, ?_⟩⟩
                  have gp := Go.new (A := A) (o := .tup [.int 4, .int 8]) hp
                  have Wp := W7.go gp
                  have r1 := r1.go W7 gp
                  have r2 := r2.go W7 gp
                  have gq := g7.trans gp
                  refine ite2 (fun _ => ?_) (fun _ => ⟨gq, v1, v2, m1, m2, g1', g2', r1, M1, r2, M2, rfl⟩)
                  exact ⟨_, rfl, _, rfl, A, S, a2, v1, al.length, m1, g1', rfl, hm2, Wp, r1, M1, hl.1, hl.2, fun v mv g H' go rv M => ⟨gq.trans go, v1, v, m1, mv, g1', g, r1.go Wp go, M1, rv, M, rfl⟩⟩
                · rintro σ' H8 ⟨g8, v1, v2, m1, m2, g1', g2', r1, M1, r2, M2, rfl⟩
                  have W8 := W2.go g8
                  refine ⟨fun σ' H' => Go A H2 H' ∧ ∃ v1 v2 m1 m2 g1 g2, Rp S H' v1 (.tup [mvD m1, rowD g1]) ∧ Mach al.length m1 g1 ∧ Rp S H' v2 (.tup [mvD m2, rowD g2]) ∧ Mach al.length m2 g2 ∧ σ' = [some (.ref a), some (.ref a2), some (.str al), some (.int (al.length : Int)), some (.int z), some v1, some v2, none, none], ?_, ?_⟩
                  · refine ⟨_, rfl, rfl, _, rfl, ite2 (fun _ => ?_) (fun _ => ⟨g8, v1, v2, m1, m2, g1', g2', r1, M1, r2, M2, rfl⟩)⟩
                    · obtain ⟨mt, ws, rfl, nt, et, hws⟩ := r1.tupItem
                      cases hws with
                      | cons h1 hws =>
                      cases hws with
                      | cons h2 hws =>
                      cases hws
                      cases h1 with
                      | @lst am xs _ nam eam rxs =>
                      cases h2 with
                      | @lst ag gs _ nag eag rgs =>
                      have eag' : H8 ag = some (.lst (g1'.map V.int)) := by rw [← rgs.ints_eq]; exact eag
                      have xl := rxs.len
                      rw [List.length_map] at xl
                      have ml := M1.most
                      have rm : Rp S H8 (.ref am) (mvD m1) := .lst nam eam rxs
                      refine ⟨_, rfl, mt, _, _, _, rfl, rfl, .inr (.inl (.inl et)), rfl, _, rfl, mt, _, _, _, rfl, rfl, .inr (.inl (.inl et)), rfl, ag, _, rfl, .inl (SqL.of eag'), fun l hl => ?_⟩
                      have gl := Go.new (A := A) (o := .lst (g1'.map V.int)) hl
                      have W9 := W8.go gl
                      have rg : Rp S (upd H8 l (.lst (g1'.map V.int))) (.ref l) (rowD g1') := .lst (W8.fresh hl) upd_same (Rps.ints _)
                      refine ⟨by show 2 ≤ sizeLine; exact szl rfl, fun tp htp => ?_⟩
                      have gt := Go.new (A := A) (o := .tup [.ref am, .ref l]) htp
                      exact ⟨(g8.trans gl).trans gt, _, _, m1, m1, g1', g1', (Rp.tup nt et (.cons rm (.cons (.lst nag eag' (Rps.ints _)) .nil))).go W8 (gl.trans gt), M1, tup_mach W9 (rm.go W8 gl) rg htp, M1, rfl⟩
                  · rintro σ' H9 ⟨g9, v1, v2, m1, m2, g1', g2', r1, M1, r2, M2, rfl⟩
                    have W9 := W2.go g9
                    refine ⟨fun σ' H' => Go A H2 H' ∧ ∃ v1 v2 m1 m2 g1 g2, Rp S H' v1 (.tup [mvD m1, rowD g1]) ∧ Mach al.length m1 g1 ∧ Rp S H' v2 (.tup [mvD m2, rowD g2]) ∧ Mach al.length m2 g2 ∧ σ' = [some (.ref a), some (.ref a2), some (.str al), some (.int (al.length : Int)), some (.int z), some v1, some v2, none, none], ?_, ?_⟩
                    · refine ⟨_, rfl, rfl, _, rfl, ite2 (fun _ => ?_) (fun _ => ⟨g9, v1, v2, m1, m2, g1', g2', r1, M1, r2, M2, rfl⟩)⟩
                      refine ⟨_, rfl, _, rfl, by omega, by omega, fun L7 hL7 => lc_I (A := A) (S := S) (Xp := fun i x => x = .int (0 + (i : Int))) (fun z => z = 0) (walk_range (lo := 0)) (fun i H x H' _ y => ⟨y.1, y.2⟩) W9 hL7 (by omega) (fun _ _ => trivial) (fun _ => rfl) (fun j x8 H8 hj hx8 W8 k8 Kt2 ht2 => ht2 0 _ (Go.refl _ _) rfl) (fun q H10 hq hq2 g10 e10 => ?_)⟩
                      have W10 := W9.go g10
                      have rq : Rp S H10 (.ref L7) (rowD q) := .lst (W9.fresh hL7) e10 (Rps.ints q)
                      refine ⟨by show 1 ≤ sizeLine; exact szl rfl, fun b1 hb1 => ?_⟩
                      have h1 := Go.new (A := A) (o := .lst [.ref L7]) hb1
                      have W11 := W10.go h1
                      have rb : Rp S (upd H10 b1 (.lst [.ref L7])) (.ref b1) (mvD [q]) := .lst (W10.fresh hb1) upd_same (.cons (rq.go W10 h1) .nil)
                      generalize upd H10 b1 (.lst [.ref L7]) = H11 at h1 W11 rb ⊢
                      refine ⟨by show 0 ≤ sizeLine; exact szl rfl, fun b2 hb2 => ?_⟩
                      have h2 := Go.new (A := A) (o := .lst []) hb2
                      have W12 := W11.go h2
                      have rb2 : Rp S (upd H11 b2 (.lst [])) (.ref b2) (rowD []) := .lst (W11.fresh hb2) upd_same .nil
                      have rb := rb.go W11 h2
                      generalize upd H11 b2 (.lst []) = H12 at h2 W12 rb rb2 ⊢
                      refine ⟨by show 1 ≤ sizeLine; exact szl rfl, fun b3 hb3 => ?_⟩
                      have h3 := Go.new (A := A) (o := .lst [.int 0]) hb3
                      have W13 := W12.go h3
                      have rb3 : Rp S (upd H12 b3 (.lst [.int 0])) (.ref b3) (rowD [0]) := .lst (W12.fresh hb3) upd_same (Rps.ints [0])
                      have rb := rb.go W12 h3
                      have rb2 := rb2.go W12 h3
                      generalize upd H12 b3 (.lst [.int 0]) = H13 at h3 W13 rb rb2 rb3 ⊢
                      refine ⟨by show 2 ≤ sizeLine; exact szl rfl, fun b4 hb4 => ?_⟩
                      have h4 := Go.new (A := A) (o := .lst [.ref b2, .ref b3]) hb4
                      have W14 := W13.go h4
                      have e4 : upd H13 b4 (.lst [.ref b2, .ref b3]) b4 = some (.lst [.ref b2, .ref b3]) := upd_same
                      have n4 : b4 ∉ S := W13.fresh hb4
                      have rb := rb.go W13 h4
                      have rb2 := rb2.go W13 h4
                      have rb3 := rb3.go W13 h4
                      generalize upd H13 b4 (.lst [.ref b2, .ref b3]) = H14 at h4 W14 rb rb2 rb3 e4 ⊢
                      refine ⟨_, rfl, A, a2, _, rfl, hm2, W14.src, by omega, by omega, fun r H15 hr0 hr1 g15 => ?_⟩
                      have W15 := W14.go g15
                      have e5 := g15.keep b4 _ (fun z => n4 (W14.sub _ z)) e4
                      obtain ⟨bg, gg, hat, rgg, hgg⟩ : ∃ (bg : Addr) (gg : List Int), atI [V.ref b2, V.ref b3] r = some (.ref bg) ∧ Rp S H15 (.ref bg) (rowD gg) ∧ (gg = [0] ∨ gg = []) := by
                        rcases (show r = 0 ∨ r = 1 by omega) with rfl | rfl
                        · exact ⟨b2, [], rfl, rb2.go W14 g15, .inr rfl⟩
                        · exact ⟨b3, [0], rfl, rb3.go W14 g15, .inl rfl⟩
                      refine ⟨b4, _, _, _, rfl, rfl, SqL.of e5, hat, by show 2 ≤ sizeLine; exact szl rfl, fun tp htp => ?_⟩
                      have gt := Go.new (A := A) (o := .tup [.ref b1, .ref bg]) htp
                      have gall : Go A H9 H15 := (g10.trans (h1.trans (h2.trans (h3.trans h4)))).trans g15
                      have hql : q = List.replicate al.length 0 := List.eq_replicate_iff.mpr ⟨by omega, hq2⟩
                      exact ⟨(g9.trans gall).trans gt, v1, _, m1, [q], g1', gg, r1.go W9 (gall.trans gt), M1, tup_mach W15 (rb.go W14 g15) rgg htp, by rw [hql]; exact mach_end hgg, rfl⟩
                    · rintro σ' H10 ⟨g10, v1, v2, m1, m2, g1', g2', r1, M1, r2, M2, rfl⟩
                      have W10 := W2.go g10
                      exact ⟨_, rfl, _, rfl, by show 2 ≤ sizeLine; exact szl rfl, two_fin kk W10 (g12.trans g10) r1 r2 M1 M2⟩
end

/-! ### _law_asked -/
open MA
/-- readers in a list -/
def RdL (ad : Ad) (U : List Addr) (H : Hp) (al : Str) (ms : List (List (List Int) × List Int)) (ys : List V) : Prop := ys.length = ms.length ∧ ∀ (j : Nat) (m : List (List Int) × List Int), ms[j]? = some m → ∃ x, ys[j]? = some (.ref x) ∧ x ∉ U ∧ RdAt ad U H x al m.1 m.2
theorem RdL.keep {ad : Ad} {U : List Addr} {H H' : Hp} {al : Str} {ms : List (List (List Int) × List Int)} {ys : List V} (h : RdL ad U H al ms ys) (k : Keep U H H') : RdL ad U H' al ms ys := ⟨h.1, fun j m e => by
  obtain ⟨x, h1, h2, h3⟩ := h.2 j m e
  exact ⟨x, h1, h2, h3.keep k h2⟩⟩
theorem RdL.snoc {ad : Ad} {U : List Addr} {H : Hp} {al : Str} {ms : List (List (List Int) × List Int)} {ys : List V} (h : RdL ad U H al ms ys) {x : Addr} {m : List (List Int) × List Int} (hx : x ∉ U) (r : RdAt ad U H x al m.1 m.2) : RdL ad U H al (ms ++ [m]) (ys ++ [V.ref x]) := by
  refine ⟨by rw [List.length_append, List.length_append, h.1]; rfl, fun j q hj => ?_⟩
  by_cases hl : j < ms.length
  · rw [List.getElem?_append_left hl] at hj
    obtain ⟨y, h1, h2, h3⟩ := h.2 j q hj
    exact ⟨y, by rw [List.getElem?_append_left (by rw [h.1]; exact hl)]; exact h1, h2, h3⟩
  · rw [List.getElem?_append_right (by omega)] at hj
    have hj0 : j - ms.length = 0 := by
      have h9 : j - ms.length < 1 := (List.getElem?_eq_some_iff.mp hj).1
      omega
    rw [hj0] at hj
    cases hj
    refine ⟨x, ?_, hx, r⟩
    rw [List.getElem?_append_right (by rw [h.1]; omega), h.1, hj0]
    rfl
theorem RdL.more {ad : Ad} {U : List Addr} {H : Hp} {al : Str} {ms : List (List (List Int) × List Int)} {ys : List V} (h : RdL ad U H al ms ys) {L : Addr} (hL : H L = none) : RdL ad (L :: U) H al ms ys := ⟨h.1, fun j m e => by
  obtain ⟨x, h1, h2, ⟨⟨dx, vm, vg, e2, rm, rg⟩, MM⟩⟩ := h.2 j m e
  have hb : ∀ b ∈ L :: U, b ∈ U ∨ H b = none := fun b hb => (List.mem_cons.mp hb).elim (fun e => .inr (by rw [e]; exact hL)) .inl
  refine ⟨x, h1, fun z => (List.mem_cons.mp z).elim (fun e => by rw [e, hL] at e2; cases e2) h2, ⟨⟨dx, vm, vg, e2, rm.more hb, rg.more hb⟩, MM⟩⟩⟩
theorem RdL.less {ad : Ad} {U : List Addr} {H : Hp} {al : Str} {ms : List (List (List Int) × List Int)} {ys : List V} {L : Addr} (h : RdL ad (L :: U) H al ms ys) : RdL ad U H al ms ys := ⟨h.1, fun j m e => by
  obtain ⟨x, h1, h2, ⟨⟨dx, vm, vg, e2, rm, rg⟩, MM⟩⟩ := h.2 j m e
  exact ⟨x, h1, fun z => h2 (List.mem_cons_of_mem _ z), ⟨⟨dx, vm, vg, e2, rm.less fun _ z => List.mem_cons_of_mem _ z, rg.less fun _ z => List.mem_cons_of_mem _ z⟩, MM⟩⟩⟩
/-- machines in a list -/
def PlsAt (S : List Addr) (H : Hp) (k : Nat) (ms : List (List (List Int) × List Int)) (vs : List V) : Prop := vs.length = ms.length ∧ ∀ (j : Nat) (m : List (List Int) × List Int), ms[j]? = some m → ∃ v, vs[j]? = some v ∧ Rp S H v (.tup [mvD m.1, rowD m.2]) ∧ Mach k m.1 m.2
theorem PlsAt.keep {S : List Addr} {H H' : Hp} {k : Nat} {ms : List (List (List Int) × List Int)} {vs : List V} (h : PlsAt S H k ms vs) (q : Keep S H H') : PlsAt S H' k ms vs := ⟨h.1, fun j m e => by
  obtain ⟨v, h1, h2, h3⟩ := h.2 j m e
  exact ⟨v, h1, h2.keep q, h3⟩⟩
theorem RdL.same {ad : Ad} {U : List Addr} {H H' : Hp} {al : Str} {ms : List (List (List Int) × List Int)} {ys : List V} (h : RdL ad U H al ms ys) (s : Same H H') : RdL ad U H' al ms ys := h.keep (Keep.same s)
theorem PlsAt.same {S : List Addr} {H H' : Hp} {k : Nat} {ms : List (List (List Int) × List Int)} {vs : List V} (h : PlsAt S H k ms vs) (q : Same H H') : PlsAt S H' k ms vs := h.keep (Keep.same q)
/-- a text passed -/
def TxtAt (al : Str) (v : V) : Prop := ∃ wd : List Nat, v = .str (SX.S (txW al wd)) ∧ (∀ t ∈ wd, t < al.length) ∧ wd.length ≤ 40
abbrev sAsked : Stmt := top 62
def spAsked (ad : Ad) : Sp := fun vs H Q _ => ∃ (S U : List Addr) (al : Str) (pl rl q wl : Addr) (pvs rvs wvs : List V) (ms : List (List (List Int) × List Int)) (op : Op) (i j : Nat), vs = [.str al, .ref pl, .ref rl, .ref q, .ref wl] ∧ IsAl al ∧ H pl = some (.lst pvs) ∧ PlsAt S H al.length ms pvs ∧ H rl = some (.lst rvs) ∧ RdL ad U H al ms rvs ∧
  H q = some (.tup [.str op.str, .int (i : Int), .int (j : Int)]) ∧ i < ms.length ∧ j < ms.length ∧ H wl = some (.lst wvs) ∧ wvs.length ≤ 1000 ∧ (∀ v ∈ wvs, TxtAt al v) ∧ (∀ a ∈ U, ∃ xs, H a = some (.lst xs)) ∧ ∀ H', Same H H' → Q (.bl true) H'
section
open PyProof.Rows
variable {P : Program} {w : World} {K : PySem.W.Frag} {mg : Str → Option Value} {base : Heap} {ad : Ad}
theorem scAsked : FnScope ["alphabet", "plains", "readers", "ask", "words", "word", "i", "j", "machine", "told", "text", "due"] ["alphabet", "plains", "readers", "ask", "words"] (C8.fnScope sAsked) := C8.fnScope_by (by decide +kernel)
theorem ok_asked {f : Addr} {fd : FuncData} (R : RdC K ad.Reader) (RI : RdI K ad.Reader) (rd_lst : PySem.W.kitOne K (.ref ad.Reader) (.type "list") = some false) (F : C8.Def K mg "_law_asked" sAsked f fd) (b : Binds K fd ["alphabet", "plains", "readers", "ask", "words"] []) (T : Txt mg) (O : Own K mg ad) (c_law_joint : C8.Cal P w K mg base 2 "_law_joint" spLJoint []) (c_law_done : CalZ Gd P w K mg base 9 "_law_done" (spDone ad)) (c_law_holds : C8.Cal P w K mg base 4 "_law_holds" (spHolds ad) []) (c_law_due : C8.Cal P w K mg base 1 "_law_due" spDue []) (c_law_within : C8.Cal P w K mg base 2 "_law_within" spWithin [])
    (mt_room : MetZ P w K mg base 3 ad.Reader "room" (spRoom ad)) (mt_contains : MetZ P w K mg base 3 ad.Reader "__contains__" (spContains ad)) : CalZ Gd P w K mg base 10 "_law_asked" (spAsked ad) := by
  refine calZ (fun A env h => h.deeper env) F b scAsked (fun vs H Q E h => ?_) (fun cdv A0 outer s H vs Q E hG hr h => ?_)
  · obtain ⟨S, U, al, pl, rl, q, wl, pvs, rvs, wvs, ms, op, i, j, rfl, _⟩ := h
    rfl
  · obtain ⟨S, U, al, pl, rl, q, wl, pvs, rvs, wvs, ms, op, i, j, rfl, ial, epl, PL, erl, RL, eq, hi, hj, ewl, hwl, hwv, hU, kk⟩ := h
    have sc := scAsked
    have hl := ial.len
    obtain ⟨p1, hp1, rp1, M1⟩ := PL.2 i _ (List.getElem?_eq_getElem hi)
    obtain ⟨p2, hp2, rp2, M2⟩ := PL.2 j _ (List.getElem?_eq_getElem hj)
    obtain ⟨x1, hx1, nx1, rx1⟩ := RL.2 i _ (List.getElem?_eq_getElem hi)
    obtain ⟨x2, hx2, nx2, rx2⟩ := RL.2 j _ (List.getElem?_eq_getElem hj)
    generalize ms[i] = a1 at rp1 M1 rx1
    generalize ms[j] = a2 at rp2 M2 rx2
    obtain ⟨m1, g1⟩ := a1
    obtain ⟨m2, g2⟩ := a2
    have oka : alOk al = true := (oth_ok ial).2.2.2
    refine ⟨_, -- _law_asked: 0 alphabet 1 plains 2 readers 3 ask 4 words 5 word 6 i 7 j 8 machine 9 told 10 text 11 due

      (pss_cons (ps_asg (pv 3) (pg_tup rfl (pgs_cons (pg_name (i := 5) sc.nd rfl (Or.inl rfl)) (pgs_cons (pg_name (i := 6) sc.nd rfl (Or.inl rfl)) (pgs_cons (pg_name (i := 7) sc.nd rfl (Or.inl rfl)) pgs_nil)))))
      (pss_cons (ps_set (i := 8) sc.nd rfl (Or.inl rfl) (C8.pe_c c_law_joint hr (by decide) rfl (pa_cons (pe_ix ix_list (pv 1) (pv 6) (fun _ _ => rfl)) (pa_cons (pe_ix ix_list (pv 1) (pv 7) (fun _ _ => rfl)) (pa_cons (pv 5) pa_nil)))))
      (C8.pss_cut (ps_set (i := 9) sc.nd rfl (Or.inl rfl) (pe_z (E := fun _ _ _ _ => False) c_law_done hG hr (by decide) rfl (fun σ => passF σ) (pa_cons (pv 5) (pa_cons (pe_ix ix_list (pv 2) (pv 6) (fun _ _ => rfl)) (pa_cons (pe_ix ix_list (pv 2) (pv 7) (fun _ _ => rfl)) pa_nil)))))
      (pss_cons (ps_if (pt_not (pt_val (C8.pe_c c_law_holds hr (by decide) rfl (pa_cons (pv 0) (pa_cons (pv 8) (pa_cons (pv 9) pa_nil)))))) 
        (pss_one (ps_ret pe_bl)) pss_nil)
      (pss_cons (ps_if (pt_val (pe_callB call_isi (by rfl) T.isinstance (by decide +kernel) (pa_cons (pv 9) (pa_cons (pe_bltn (v := .ty "list") (u := .type "list") rfl T.list (by decide +kernel) rfl) pa_nil)))) 
        (pss_one (ps_ret pe_bl)) pss_nil)
      (pss_cons (ps_for passesG rfl (pi_seqH (pv 4)) (pg_name (i := 10) sc.nd rfl (Or.inl rfl)) 
        (pss_cons (ps_set (i := 11) sc.nd rfl (Or.inl rfl) (C8.pe_c c_law_due hr (by decide) rfl (pa_cons (pv 5) (pa_cons (C8.pe_c c_law_within hr (by decide) rfl (pa_cons (pv 0) (pa_cons (pe_ix ix_list (pv 1) (pv 6) (fun _ _ => rfl)) (pa_cons (pv 10) pa_nil)))) (pa_cons (C8.pe_c c_law_within hr (by decide) rfl (pa_cons (pv 0) (pa_cons (pe_ix ix_list (pv 1) (pv 7) (fun _ _ => rfl)) (pa_cons (pv 10) pa_nil)))) pa_nil)))))
        (pss_one (ps_if (PW.pt (pw_or (pt_cmpR op_ne (pe_cmpR (op_inQ (K := K) rfl) (pe_mtZ (E := fun _ _ _ _ => False) mt_room hr (by decide) (fun σ => passF σ) (pv 9) (pa_cons (pv 10) pa_nil)) (pe_fldK (K := K) rfl (pv 9)) (by rfl)) (pv 11) (nomark _)) (pw_or1 (pt_cmpR op_ne (pe_inZ (E := fun _ _ _ _ => False) mt_contains hr (by decide) (fun σ => passF σ) (pv 10) (pv 9)) (pv 11) (nomark _))))) 
          (pss_one (ps_ret pe_bl)) pss_nil))))
      (pss_one (ps_ret pe_bl)))))))), ?_⟩
    refine ⟨_, rfl, q, _, rfl, .inl (.inl eq), rfl, _, _, rfl, _, _, rfl, _, _, rfl, rfl, ?_⟩
    have ml1 := M1.most
    have ml2 := M2.most
    have hN : m1.length * m2.length ≤ 3600 := Nat.mul_le_mul ml1 ml2
    refine ⟨_, rfl, _, rfl, pl, _, _, _, rfl, rfl, SqL.of epl, atI_nat hp1, _, rfl, _, rfl, pl, _, _, _, rfl, rfl, SqL.of epl, atI_nat hp2, _, rfl, S, S, op, p1, p2, al.length, m1, m2, g1, g2, rfl, MAt.ofD rp1, MAt.ofD rp2, M1.w, M2.w, hl.2, hN, fun mc H1 s1 rmc => ?_⟩
    have jm := jmach (acc := opR op g1 g2) M1.w M2.w hN
    refine ⟨fun σ' H' => Same H1 H' ∧ ∃ p lm lg, CanonW al.length lm lg ∧ (∀ w, accI lg (run (rowI lm) 0 w) = op.acc (accI g1 (run (rowI m1) 0 w)) (accI g2 (run (rowI m2) 0 w))) ∧ ((60 < lm.length ∧ H' p = some (.lst (Wr.many.words.map V.str))) ∨ (lm.length ≤ 60 ∧ ∃ U, RdAt ad U H' p al lm lg)) ∧
      σ' = [some (.str al), some (.ref pl), some (.ref rl), some (.ref q), some (.ref wl), some (.str op.str), some (.int (i : Int)), some (.int (j : Int)), some mc, some (.ref p), none, none], ?_, ?_⟩
    · exact ⟨_, rfl, _, rfl, _, rfl, rl, _, _, _, rfl, rfl, SqL.of (s1 _ _ erl), atI_nat hx1, _, rfl, _, rfl, rl, _, _, _, rfl, rfl, SqL.of (s1 _ _ erl), atI_nat hx2, U, U, U, op, x1, x2, al, al, m1, m2, g1, g2, rfl, rx1.same s1, rx2.same s1, oka, hl.2, fun a ha => (by obtain ⟨zs, e⟩ := hU a ha; exact ⟨zs, s1 _ _ e⟩), fun _ h => absurd rfl h, fun _ lm lg C ss =>
        ⟨fun h60 z H' s rz => ⟨s, z, lm, lg, C, ss, .inr ⟨h60, U, rz⟩, rfl⟩, fun h60 z H' s ez => ⟨s, z, lm, lg, C, ss, .inl ⟨h60, ez⟩, rfl⟩⟩⟩
    · rintro σ' H2 ⟨s2, p, lm, lg, C, ss, hc, rfl⟩
      have sj : SameSet (jmoves m1 m2) (jgood m1 m2 (opR op g1 g2)) lm lg 0 0 := fun w => (jset M1.w M2.w w).trans (ss w).symm
      refine ⟨_, rfl, _, rfl, _, rfl, [], al, mc, p, jmoves m1 m2, lm, jgood m1 m2 (opR op g1 g2), lg, rfl, ial, MAt.ofD (rmc.same s2), jm, C, sj, hc, fun H3 s3 => ⟨_, rfl, iteF ?_⟩⟩
      have s13 := s2.trans s3
      have s03 := s1.trans s13
      rcases hc with ⟨h60, ep⟩ | ⟨h60, U', rx⟩
      · have rp : Rp [] H3 (.ref p) (txtsD Wr.many.words) := .lst (by simp) (s3 _ _ ep) (Rps.txts _)
        exact ⟨_, rfl, _, _, _, _, _, rfl, .ty _, rp.ty, kit_lit (by decide) (rfl : (txtsD Wr.many.words).isa "list" = true), _, rfl, iteT (kk _ s03)⟩
      · have rx3 := rx.same s3
        have Cc := C.c h60
        have CM := Cc.mach
        refine ⟨_, rfl, _, _, _, _, _, rfl, .ty _, rx3.ty R RI, rd_lst, _, rfl, iteF ?_⟩
        refine ⟨_, rfl, wl, wvs, rfl, .inl (s03 _ _ ewl), fun J G wJ hG => ?_⟩
        refine for_it wJ (fun n σ H' => Iv (Same H3 H' ∧ ∃ y10 y11, σ = [some (.str al), some (.ref pl), some (.ref rl), some (.ref q), some (.ref wl), some (.str op.str), some (.int (i : Int)), some (.int (j : Int)), some mc, some (.ref p), y10, y11])) (.of ⟨Same.refl _, _, _, rfl⟩) (fun _ _ _ _ hp => ?_) (fun n y σ H4 H5 hn hp hy => ?_) (fun σ H4 hp => ?_)
        · obtain ⟨s4, _⟩ := hp.get
          exact hG _ ((s4 _ _ (s03 _ _ ewl)).trans (s03 _ _ ewl).symm)
        · obtain ⟨s4, y10, y11, rfl⟩ := hp.get
          obtain ⟨rfl, hy⟩ := hy
          obtain ⟨wd, rfl, hwd, hw40⟩ := hwv y (List.mem_of_getElem? hy)
          have s04 := s03.trans s4
          refine ⟨_, rfl, _, rfl, _, rfl, _, rfl, pl, _, _, _, rfl, rfl, SqL.of (s04 _ _ epl), atI_nat hp1, _, rfl, S, al, p1, wd, m1, g1, rfl, MAt.ofD (rp1.same s04), ial, M1, hwd, ?_⟩
          refine ⟨_, rfl, _, rfl, _, rfl, pl, _, _, _, rfl, rfl, SqL.of (s04 _ _ epl), atI_nat hp2, _, rfl, S, al, p2, wd, m2, g2, rfl, MAt.ofD (rp2.same s04), ial, M2, hwd, ?_⟩
          refine ⟨op, _, _, rfl, ?_⟩
          have rx4 := rx3.same s4
          obtain ⟨dx, vm, vg, ex, rm, rg⟩ := rx4.ex
          obtain ⟨alg, xlg, e0, halg, ealg, rslg⟩ := rg.tupItem
          subst e0
          rw [rslg.ints_eq] at ealg
          have hlw : (SX.S (txW al wd)).length = wd.length := by rw [SX.S_len]; exact List.length_map ..
          have hov : Over al (SX.S (txW al wd)) := fun c hc => txW_over hwd c hc
          have hnf := over_fault hov (by omega : (SX.S (txW al wd)).length ≤ 40)
          have hle : ∀ z : Str, D.str (SX.S (txW al wd)) = .str z → z.length ≤ 1000 := fun z e => by
            cases e
            omega
          have acc : ∀ t, D.str (SX.S (txW al wd)) = .str t → decide (roomF al lm t.cps.toList ∈ lg) = op.acc (accI g1 (run (rowI m1) 0 wd)) (accI g2 (run (rowI m2) 0 wd)) := fun t e => by
            cases e
            have e1 : roomF al lm (SX.S (txW al wd)).cps.toList = run (rowI lm) 0 wd := roomF_run ial CM hwd
            rw [e1]
            exact ss wd
          refine ⟨_, rfl, p, dx, _, rfl, ex, rfl, _, rfl, [], U', p, al, lm, lg, _, .str (SX.S (txW al wd)), rfl, rx4, by omega, .str _, hle, fun t e hf H6 s6 => ?_, fun j e => ?_⟩
          · refine ⟨_, rfl, p, ad.Reader, dx, _, _, rfl, s6 _ _ ex, R.cl, R.n3, rfl, alg, _, rfl, .inr (.inl (.inl (s6 _ _ ealg))), rfl, flat_ints lg, ?_⟩
            rw [inV_ints, acc t e]
            refine ⟨_, rfl, rfl, _, rfl, ?_⟩
            refine iteEf (by simp) ?_
            refine ⟨_, rfl, _, rfl, p, dx, _, rfl, s6 _ _ ex, [], U', p, al, lm, lg, _, .str (SX.S (txW al wd)), rfl, rx4.same s6, by omega, .str _, hle, fun t e hf H7 s7 => ⟨_, rfl, ?_⟩, fun j e => ?_⟩
            · rw [acc t e]
              refine ⟨_, rfl, rfl, _, rfl, ?_⟩
              exact iteEf (by simp) (.of ⟨s4.trans (s6.trans s7), _, _, rfl⟩)
            · rw [hnf] at e
              cases e
          · rw [hnf] at e
            cases e
        · obtain ⟨s4, y10, y11, rfl⟩ := hp.get
          exact kk _ (s03.trans s4)
end

/-! ### _law_turned -/
open MA
theorem end_run (k : Nat) (g : List Int) (hg : g = [0] ∨ g = []) (w : List Nat) : run (rowI [List.replicate k 0]) 0 w = 0 := by
  have M := mach_end (k := k) hg
  have h := mem_iota.mp (run_in M.closed w M.zero)
  have h1 : ((List.length [List.replicate k (0 : Int)] : Nat) : Int) = 1 := rfl
  omega
theorem end_canon (k : Nat) {g : List Int} (hg : g = [0] ∨ g = []) : Canon k [List.replicate k 0] g := by
  refine ⟨mach_end hg, ?_, fun p hp q hq _ => ?_⟩
  · show (match ([(0 : Int)] : List Int)[0]? with | some r => grow [0] (rowI [List.replicate k 0] r) | none => [0]) = iota 1
    show grow [0] (List.replicate k (0 : Int)) = iota 1
    rw [grow_all fun t ht => by rw [(List.mem_replicate.mp ht).2]; simp]
    rfl
  · have h1 := mem_iota.mp hp
    have h2 := mem_iota.mp hq
    have h3 : ((List.length [List.replicate k (0 : Int)] : Nat) : Int) = 1 := rfl
    omega
theorem end_one {k : Nat} {g lg : List Int} {lm : List (List Int)} (hg : g = [0] ∨ g = []) (C : CanonW k lm lg) (ss : ∀ w, accI lg (run (rowI lm) 0 w) = accI g 0) : lm.length ≤ 60 ∧ lm = [List.replicate k 0] ∧ lg = g := by
  have E := end_canon k hg
  have s : SameSet [List.replicate k 0] g lm lg 0 0 := fun w => by rw [end_run k g hg w, ss w]
  have h := canon_min E.mach.w C s
  have h1 : ([List.replicate k (0 : Int)] : List (List Int)).length = 1 := rfl
  have h60 : lm.length ≤ 60 := by omega
  obtain ⟨e1, e2⟩ := canon_one E (C.c h60) s
  exact ⟨h60, e1.symm, e2.symm⟩
abbrev sTurned : Stmt := top 61
def spTurned (ad : Ad) : Sp := fun vs H Q _ => ∃ (S U : List Addr) (al : Str) (v : V) (x : Addr) (mv : List (List Int)) (g : List Int), vs = [.str al, v, .ref x] ∧ IsAl al ∧ MAt S H v mv g ∧ RdAt ad U H x al mv g ∧ (∀ a ∈ U, ∃ xs, H a = some (.lst xs)) ∧ ∀ H', Same H H' → Q (.bl true) H'
section
open PyProof.Rows
variable {P : Program} {w : World} {K : PySem.W.Frag} {mg : Str → Option Value} {base : Heap} {ad : Ad}
theorem scTurned : FnScope ["alphabet", "machine", "reader", "turned", "every", "none", "again"] ["alphabet", "machine", "reader"] (C8.fnScope sTurned) := C8.fnScope_by (by decide +kernel)
theorem ok_turned {f : Addr} {fd : FuncData} (R : RdC K ad.Reader) (RI : RdI K ad.Reader) (RQ : RdQ K ad.Reader) (rd_lst : PySem.W.kitOne K (.ref ad.Reader) (.type "list") = some false) (F : C8.Def K mg "_law_turned" sTurned f fd) (b : Binds K fd ["alphabet", "machine", "reader"] []) (T : Txt mg) (O : Own K mg ad) (c_law_done : CalZ Gd P w K mg base 9 "_law_done" (spDone ad)) (c_law_tells : C8.Cal P w K mg base 3 "_law_tells" (spTells ad) []) (mt_eq : C8.Met P w K mg base 1 ad.Reader "__eq__" (spEqR K ad) [])
    (st_full : StZ P w K mg base 5 ad.Reader "full" (spEnd ad [0])) (st_bare : StZ P w K mg base 5 ad.Reader "bare" (spEnd ad [])) : CalZ Gd P w K mg base 10 "_law_turned" (spTurned ad) := by
  refine calZ (fun A env h => h.deeper env) F b scTurned (fun vs H Q E h => ?_) (fun cdv A0 outer s H vs Q E hG hr h => ?_)
  · obtain ⟨S, U, al, v, x, mv, g, rfl, _⟩ := h
    rfl
  · obtain ⟨S, U, al, v, x, mv, g, rfl, ial, mAt, rx, hU, kk⟩ := h
    have sc := scTurned
    have hl := ial.len
    have oka : alOk al = true := (oth_ok ial).2.2.2
    have M := rx.mach
    have ml := M.most
    have hU' : ∀ {H' : Hp}, Same H H' → ∀ a ∈ U, ∃ xs, H' a = some (.lst xs) := fun {H'} s' a ha => by obtain ⟨zs, e⟩ := hU a ha; exact ⟨zs, s' _ _ e⟩
    refine ⟨_, -- _law_turned: 0 alphabet 1 machine 2 reader 3 turned 4 every 5 none 6 again

      (pss_cons (ps_set (i := 3) sc.nd rfl (Or.inl rfl) (pe_z (E := fun _ _ _ _ => False) c_law_done hG hr (by decide) rfl (fun σ => passF σ) (pa_cons pe_str (pa_cons (pv 2) (pa_cons (pv 2) pa_nil)))))
      (pss_cons (ps_if (pt_val (pe_callB call_isi (by rfl) T.isinstance (by decide +kernel) (pa_cons (pv 3) (pa_cons (pe_bltn (v := .ty "list") (u := .type "list") rfl T.list (by decide +kernel) rfl) pa_nil)))) 
        (pss_one (ps_ret pe_bl)) pss_nil)
      (pss_cons (ps_set (i := 4) sc.nd rfl (Or.inl rfl) (pe_z (E := fun _ _ _ _ => False) c_law_done hG hr (by decide) rfl (fun σ => passF σ) (pa_cons pe_str (pa_cons (pv 2) (pa_cons (pv 3) pa_nil)))))
      (pss_cons (ps_set (i := 5) sc.nd rfl (Or.inl rfl) (pe_z (E := fun _ _ _ _ => False) c_law_done hG hr (by decide) rfl (fun σ => passF σ) (pa_cons pe_str (pa_cons (pv 3) (pa_cons (pv 2) pa_nil)))))
      (pss_cons (ps_set (i := 6) sc.nd rfl (Or.inl rfl) (pe_z (E := fun _ _ _ _ => False) c_law_done hG hr (by decide) rfl (fun σ => passF σ) (pa_cons pe_str (pa_cons (pv 3) (pa_cons (pv 3) pa_nil)))))
      (pss_cons (ps_if (PW.pt (pw_or (pt_val (pe_callB call_isi (by rfl) T.isinstance (by decide +kernel) (pa_cons (pv 4) (pa_cons (pe_bltn (v := .ty "list") (u := .type "list") rfl T.list (by decide +kernel) rfl) pa_nil)))) (pw_or (pt_val (pe_callB call_isi (by rfl) T.isinstance (by decide +kernel) (pa_cons (pv 5) (pa_cons (pe_bltn (v := .ty "list") (u := .type "list") rfl T.list (by decide +kernel) rfl) pa_nil)))) (pw_or1 (pt_val (pe_callB call_isi (by rfl) T.isinstance (by decide +kernel) (pa_cons (pv 6) (pa_cons (pe_bltn (v := .ty "list") (u := .type "list") rfl T.list (by decide +kernel) rfl) pa_nil)))))))) 
        (pss_one (ps_ret pe_bl)) pss_nil)
      (pss_one (ps_ret (pe_and (pe_cmpR (op_eqO mt_eq hr (by decide)) (pv 4) (pe_stZ (E := fun _ _ _ _ => False) st_full hr (by decide) (fun σ => passF σ) (pe_glob (v := .ref ad.Reader) rfl O.g_Reader rfl) (pa_cons (pv 0) pa_nil)) (nomark _)) (pe_and (pe_cmpR (op_eqO mt_eq hr (by decide)) (pv 5) (pe_stZ (E := fun _ _ _ _ => False) st_bare hr (by decide) (fun σ => passF σ) (pe_glob (v := .ref ad.Reader) rfl O.g_Reader rfl) (pa_cons (pv 0) pa_nil)) (nomark _)) (pe_one (C8.pe_c c_law_tells hr (by decide) rfl (pa_cons (pv 0) (pa_cons (pv 1) (pa_cons (pv 6) pa_nil))))))))))))))), ?_⟩
    refine ⟨_, rfl, _, rfl, U, U, U, .not, x, x, al, al, mv, mv, g, g, rfl, rx, rx, oka, hl.2, hU, fun h => absurd rfl h, fun _ lm1 lg1 C1 ss1 => ?_⟩
    have hm1 := canon_min (coG_mach M.w) C1 fun w => (coG_set M.w w).trans (ss1 w).symm
    refine ⟨fun h60 x1 H1 s1 rx1 => ?_, fun h => absurd h (by omega)⟩
    refine ⟨_, rfl, _, _, _, _, _, rfl, .ty _, rx1.ty R RI, rd_lst, _, rfl, iteF ?_⟩
    refine ⟨_, rfl, _, rfl, U, U, U, .or, x, x1, al, al, mv, lm1, g, lg1, rfl, rx.same s1, rx1, oka, hl.2, hU' s1, fun _ h => absurd rfl h, fun _ lm2 lg2 C2 ss2 => ?_⟩
    obtain ⟨h602, rfl, rfl⟩ := end_one (.inl rfl) C2 fun w => by
      rw [ss2 w, ss1 w]
      cases accI g (run (rowI mv) 0 w) <;> rfl
    refine ⟨fun _ x2 H2 s2 rx2 => ?_, fun h => absurd h (by omega)⟩
    have s02 := s1.trans s2
    refine ⟨_, rfl, _, rfl, U, U, U, .and, x1, x, al, al, lm1, mv, lg1, g, rfl, rx1.same s2, rx.same s02, oka, hl.2, hU' s02, fun _ h => absurd rfl h, fun _ lm3 lg3 C3 ss3 => ?_⟩
    obtain ⟨h603, rfl, rfl⟩ := end_one (.inr rfl) C3 fun w => by
      rw [ss3 w, ss1 w]
      cases accI g (run (rowI mv) 0 w) <;> rfl
    refine ⟨fun _ x3 H3 s3 rx3 => ?_, fun h => absurd h (by omega)⟩
    have s13 := s2.trans s3
    have s03 := s1.trans s13
    refine ⟨_, rfl, _, rfl, U, U, U, .not, x1, x1, al, al, lm1, lm1, lg1, lg1, rfl, rx1.same s13, rx1.same s13, oka, hl.2, hU' s03, fun h => absurd rfl h, fun _ lm4 lg4 C4 ss4 => ?_⟩
    have ss : SameSet mv g lm4 lg4 0 0 := fun w => by
      rw [ss4 w, ss1 w]
      cases accI g (run (rowI mv) 0 w) <;> rfl
    have hm4 := canon_min M.w C4 ss
    refine ⟨fun h604 x4 H4 s4 rx4 => ?_, fun h => absurd h (by omega)⟩
    have s04 := s03.trans s4
    have rx2 := rx2.same (s3.trans s4)
    have rx3 := rx3.same s4
    refine ⟨_, rfl, _, _, _, _, _, rfl, .ty _, rx2.ty R RI, rd_lst, _, rfl, iteF ?_⟩
    refine ⟨_, rfl, _, _, _, _, _, rfl, .ty _, rx3.ty R RI, rd_lst, _, rfl, iteF ?_⟩
    refine ⟨_, rfl, _, _, _, _, _, rfl, .ty _, rx4.ty R RI, rd_lst, _, rfl, iteF ?_⟩
    have hal1 : al.length ≤ 1000 := by omega
    refine ⟨_, rfl, rfl, _, rfl, [], [], _, _, rfl, .str al, fun z e => (by cases e; exact hal1), by simp, fun al2 e _ x5 H5 _ s5 rx5 => ?_, fun z => by rw [show (D.str al).alOk = true from oka] at z; cases z⟩
    cases e
    refine eqR_is R RI RQ (rx2.same s5) rx5 ⟨_, rfl, iteT ?_⟩
    refine ⟨_, rfl, rfl, _, rfl, [], [], _, _, rfl, .str al, fun z e => (by cases e; exact hal1), by simp, fun al2 e _ x6 H6 _ s6 rx6 => ?_, fun z => by rw [show (D.str al).alOk = true from oka] at z; cases z⟩
    cases e
    have s46 := s5.trans s6
    refine eqR_is R RI RQ (rx3.same s46) rx6 ⟨_, rfl, iteT ?_⟩
    exact ⟨_, rfl, _, rfl, _, rfl, S, U, al, v, x4, mv, lm4, g, lg4, rfl, ial, mAt.same (s04.trans s46), M.w, rx4.same s46, C4.c h604, ss, fun H7 s7 => kk _ ((s04.trans s46).trans s7)⟩
end

/-! ### _law_strange -/
open MA
def farAl (n : Nat) : Str := if n = 1 then "cd" else if n = 2 then "x" else "mn"
theorem far_ok {al : Str} (h : IsAl al) : alOk (farAl al.length) = true ∧ (1 ≤ (farAl al.length).length ∧ (farAl al.length).length ≤ 3) ∧ al ≠ farAl al.length := by
  obtain ⟨l, hl, rfl⟩ := h
  revert l
  decide +kernel
theorem far_at {al : Str} (h : IsAl al) : atI [V.str (Str.ofString "cd"), V.str (Str.ofString "x"), V.str (Str.ofString "mn")] ((al.length : Int) - 1) = some (V.str (farAl al.length)) := by
  have := h.len
  rcases (show al.length = 1 ∨ al.length = 2 ∨ al.length = 3 by omega) with h | h | h <;> rw [h] <;> rfl
abbrev sStrange : Stmt := top 60
def spStrange (ad : Ad) : Sp := fun vs H Q _ => ∃ (A S : List Addr) (al : Str) (rl a : Addr) (rvs : List V) (ms : List (List (List Int) × List Int)), vs = [.str al, .ref rl, .ref a] ∧ IsAl al ∧ a ∈ A ∧ Wd A S H ∧ rl ∉ A ∧ H rl = some (.lst rvs) ∧ RdL ad A H al ms rvs ∧ ∀ H', Go A H H' → Q (.bl true) H'
section
open PyProof.Rows
variable {P : Program} {w : World} {K : PySem.W.Frag} {mg : Str → Option Value} {base : Heap} {ad : Ad}
theorem scStrange : FnScope ["alphabet", "readers", "source", "near", "far", "letters", "plain", "stranger", "reader", "word"] ["alphabet", "readers", "source"] (C8.fnScope sStrange) := C8.fnScope_by (by decide +kernel)
theorem ok_strange {f : Addr} {fd : FuncData} (F : C8.Def K mg "_law_strange" sStrange f fd) (b : Binds K fd ["alphabet", "readers", "source"] []) (T : Txt mg) (O : Own K mg ad) (c_law_reader : C8.Cal P w K mg base 2 "_law_reader" spReader []) (c_law_done : CalZ Gd P w K mg base 9 "_law_done" (spDone ad)) (m_Reader : MakZ P w K mg base 3 "Reader" ad.Reader (spInit K ad)) : CalZ Gd P w K mg base 10 "_law_strange" (spStrange ad) := by
  refine calZ (fun A env h => h.deeper env) F b scStrange (fun vs H Q E h => ?_) (fun cdv A0 outer s H vs Q E hG hr h => ?_)
  · obtain ⟨A, S, al, rl, a, rvs, ms, rfl, _⟩ := h
    rfl
  · obtain ⟨A, S, al, rl, a, rvs, ms, rfl, ial, hm, W0, hrl, erl, RL, kk⟩ := h
    have sc := scStrange
    have W : Wd A A H := Wd.of W0.src
    have hl := ial.len
    have hls : al.length ≤ sizeLine := Nat.le_trans hl.2 (szl rfl)
    obtain ⟨ok1, ln1, ne1, oka⟩ := oth_ok ial
    obtain ⟨ok2, ln2, ne2⟩ := far_ok ial
    refine ⟨_, -- _law_strange: 0 alphabet 1 readers 2 source 3 near 4 far 5 letters 6 plain 7 stranger 8 reader 9 word

      (pss_cons (ps_set (i := 3) sc.nd rfl (Or.inl rfl) (pe_ix ix_list (pe_lst (pa_cons pe_str (pa_cons pe_str (pa_cons pe_str pa_nil)))) (pe_op op_sub (pe_callB call_len_str (by rfl) T.len PySem.boot_len (pa_cons (pv 0) pa_nil)) pe_int) (fun _ _ => rfl)))
      (pss_cons (ps_set (i := 4) sc.nd rfl (Or.inl rfl) (pe_ix ix_list (pe_lst (pa_cons pe_str (pa_cons pe_str (pa_cons pe_str pa_nil)))) (pe_op op_sub (pe_callB call_len_str (by rfl) T.len PySem.boot_len (pa_cons (pv 0) pa_nil)) pe_int) (fun _ _ => rfl)))
      (pss_cons (ps_for passesG rfl (pi_seqH (pe_lst (pa_cons (pv 3) (pa_cons (pv 4) pa_nil)))) (pg_name (i := 5) sc.nd rfl (Or.inl rfl)) 
        (pss_cons (ps_set (i := 6) sc.nd rfl (Or.inl rfl) (C8.pe_c c_law_reader hr (by decide) rfl (pa_cons (pv 2) (pa_cons (pe_callB call_len_str (by rfl) T.len PySem.boot_len (pa_cons (pv 5) pa_nil)) (pa_cons pe_int pa_nil)))))
        (pss_cons (ps_set (i := 7) sc.nd rfl (Or.inl rfl) (pe_makeZ (E := fun _ _ _ _ => False) m_Reader hr (by decide) rfl (fun σ => passF σ) (pa_cons (pv 5) (pa_cons (pe_ix (ixQ (K := K) rfl) (pv 6) pe_int (fun _ _ => rfl)) (pa_cons (pe_ix (ixQ (K := K) rfl) (pv 6) pe_int (fun _ _ => rfl)) pa_nil)))))
        (pss_one (ps_for passesG rfl (pi_seqH (pv 1)) (pg_name (i := 8) sc.nd rfl (Or.inl rfl)) 
          (pss_one (ps_for passesG rfl (pi_seqH (pe_lst (pa_cons pe_str (pa_cons pe_str (pa_cons pe_str pa_nil))))) (pg_name (i := 9) sc.nd rfl (Or.inl rfl)) 
            (pss_cons (ps_if (pt_cmpR (op_neD hr.units) (pe_z (E := fun _ _ _ _ => False) c_law_done hG hr (by decide) rfl (fun σ => passF σ) (pa_cons (pv 9) (pa_cons (pv 8) (pa_cons (pv 7) pa_nil)))) (pe_lst (pa_cons pe_str (pa_cons pe_str pa_nil))) (nomark _)) 
              (pss_one (ps_ret pe_bl)) pss_nil)
            (pss_one (ps_if (pt_cmpR (op_neD hr.units) (pe_z (E := fun _ _ _ _ => False) c_law_done hG hr (by decide) rfl (fun σ => passF σ) (pa_cons (pv 9) (pa_cons (pv 7) (pa_cons (pv 8) pa_nil)))) (pe_lst (pa_cons pe_str (pa_cons pe_str pa_nil))) (nomark _)) 
              (pss_one (ps_ret pe_bl)) pss_nil))))))))))
      (pss_one (ps_ret pe_bl))))), ?_⟩
    refine ⟨by show 3 ≤ sizeLine; exact szl rfl, fun p1 hp1 => ⟨_, rfl, al, rfl, hls, _, _, rfl, rfl, p1, _, _, _, rfl, rfl, SqL.of upd_same, oth_at ial, ?_⟩⟩
    have g1 := Go.new (A := A) (o := .lst [V.str "z", V.str "bc", V.str "abd"]) hp1
    have W1 := W.go g1
    generalize upd H p1 (.lst [V.str "z", V.str "bc", V.str "abd"]) = H1 at g1 W1 ⊢
    refine ⟨by show 3 ≤ sizeLine; exact szl rfl, fun p2 hp2 => ⟨_, rfl, al, rfl, hls, _, _, rfl, rfl, p2, _, _, _, rfl, rfl, SqL.of upd_same, far_at ial, ?_⟩⟩
    have g2 := g1.trans (Go.new (A := A) (o := .lst [V.str "cd", V.str "x", V.str "mn"]) hp2)
    have W2 := W.go g2
    generalize upd H1 p2 (.lst [V.str "cd", V.str "x", V.str "mn"]) = H2 at g2 W2 ⊢
    refine ⟨_, rfl, _, rfl, by show 2 ≤ sizeLine; exact szl rfl, fun L hL => ⟨L, [V.str (othAl al.length), V.str (farAl al.length)], rfl, .inl upd_same, fun J G wJ hGd => ?_⟩⟩
    have g3 := g2.trans (Go.new (A := A) (o := .lst [V.str (othAl al.length), V.str (farAl al.length)]) hL)
    have nL : L ∉ A := W2.fresh hL
    have eL : upd H2 L (.lst [V.str (othAl al.length), V.str (farAl al.length)]) L = some (.lst [V.str (othAl al.length), V.str (farAl al.length)]) := upd_same
    have W3 := W.go g3
    generalize upd H2 L (.lst [V.str (othAl al.length), V.str (farAl al.length)]) = H3 at g3 W3 eL hGd ⊢
    refine for_it wJ (fun i σ H' => Iv (Go A H3 H' ∧ ∃ y5 y6 y7 y8 y9, σ = [some (.str al), some (.ref rl), some (.ref a), some (.str (othAl al.length)), some (.str (farAl al.length)), y5, y6, y7, y8, y9])) (.of ⟨Go.refl _ _, _, _, _, _, _, rfl⟩) (fun _ _ _ _ hp => ?_) (fun i y σ H4 H5 hi hp hy => ?_) (fun σ H4 hp => ?_)
    · obtain ⟨g4, _⟩ := hp.get
      exact hGd _ ((g4.keep L _ nL eL).trans eL.symm)
    · obtain ⟨g4, y5, y6, y7, y8, y9, rfl⟩ := hp.get
      obtain ⟨rfl, hy⟩ := hy
      obtain ⟨lt, rfl, okl, hlt1, hlt3, hne⟩ : ∃ lt : Str, y = .str lt ∧ alOk lt = true ∧ 1 ≤ lt.length ∧ lt.length ≤ 3 ∧ al ≠ lt := by
        match i, hy with
        | 0, hy => cases hy; exact ⟨_, rfl, ok1, by omega, by omega, ne1⟩
        | 1, hy => cases hy; exact ⟨_, rfl, ok2, ln2.1, ln2.2, ne2⟩
        | i + 2, hy => simp at hy
      have W4 := W3.go g4
      have hlts : lt.length ≤ sizeLine := Nat.le_trans hlt3 (szl rfl)
      refine ⟨_, rfl, _, rfl, lt, rfl, hlts, A, A, a, _, _, rfl, hm, W4, by omega, by omega, by decide, by decide, fun v mv g H6 g6 rv M => ?_⟩
      rw [show ((lt.length : Nat) : Int).toNat = lt.length by omega] at M
      have W6 := W4.go g6
      obtain ⟨mt, ws, rfl, nt, et, hws⟩ := rv.tupItem
      cases hws with
      | cons h1 hws =>
      cases hws with
      | cons h2 hws =>
      cases hws
      refine ⟨_, rfl, _, rfl, mt, _, _, _, rfl, rfl, .inr (.inl (.inl et)), rfl, _, rfl, mt, _, _, _, rfl, rfl, .inr (.inl (.inl et)), rfl, fun z dz hz hdz hzne => init_good (U := A) (.str lt) h1 h2 rfl okl (by omega) (mvO_D mv) rfl M (fun c hc => by obtain ⟨x1, x2, x3, e⟩ := W6.src c hc; exact ⟨_, e⟩) hz hdz hzne (fun H7 s7 rz => ⟨rfl, ?_⟩)⟩
      have gA : Go A H3 H7 := g4.trans (g6.trans (Go.same s7))
      have gH : Go A H H7 := g3.trans gA
      have erl7 := gH.keep rl _ hrl erl
      have RL7 := RL.keep gH.keep
      refine ⟨_, rfl, rl, rvs, rfl, .inl erl7, fun J2 G2 wJ2 hG2 => ?_⟩
      refine for_it wJ2 (fun j σ H' => Iv (Same H7 H' ∧ ∃ y8 y9, σ = [some (.str al), some (.ref rl), some (.ref a), some (.str (othAl al.length)), some (.str (farAl al.length)), some (.str lt), some (.ref mt), some (.ref z), y8, y9])) (.of ⟨Same.refl _, _, _, rfl⟩) (fun _ _ _ _ hp => ?_) (fun j y2 σ H8 H9 hj hp hy2 => ?_) (fun σ H8 hp => ?_)
      · obtain ⟨s8, _⟩ := hp.get
        exact hG2 _ ((s8 _ _ erl7).trans erl7.symm)
      · obtain ⟨s8, y8, y9, rfl⟩ := hp.get
        obtain ⟨rfl, hy2⟩ := hy2
        have hjm : j < ms.length := by rw [← RL.1]; exact (List.getElem?_eq_some_iff.mp hy2).1
        obtain ⟨x, hx, nx, rx⟩ := RL7.2 j _ (List.getElem?_eq_getElem hjm)
        rw [hx] at hy2
        have e2 := Option.some.inj hy2
        subst e2
        generalize ms[j] = m at rx
        obtain ⟨m1, g1'⟩ := m
        refine ⟨by show 3 ≤ sizeLine; exact szl rfl, fun L2 hL2 => ⟨L2, [V.str "and", V.str "or", V.str "less"], rfl, .inl upd_same, fun J3 G3 wJ3 hG3 => ?_⟩⟩
        have s9 : Same H7 (upd H9 L2 (.lst [V.str "and", V.str "or", V.str "less"])) := s8.trans (Same.new hL2)
        have eL2 : upd H9 L2 (.lst [V.str "and", V.str "or", V.str "less"]) L2 = some (.lst [V.str "and", V.str "or", V.str "less"]) := upd_same
        generalize upd H9 L2 (.lst [V.str "and", V.str "or", V.str "less"]) = Hb at s9 eL2 hG3 ⊢
        refine for_it wJ3 (fun n σ H' => Iv (Same Hb H' ∧ ∃ y9, σ = [some (.str al), some (.ref rl), some (.ref a), some (.str (othAl al.length)), some (.str (farAl al.length)), some (.str lt), some (.ref mt), some (.ref z), some (.ref x), y9])) (.of ⟨Same.refl _, _, rfl⟩) (fun _ _ _ _ hp => ?_) (fun n y3 σ H10 H11 hn hp hy3 => ?_) (fun σ H10 hp => ?_)
        · obtain ⟨s10, _⟩ := hp.get
          exact hG3 _ ((s10 _ _ eL2).trans eL2.symm)
        · obtain ⟨s10, y9', rfl⟩ := hp.get
          obtain ⟨rfl, hy3⟩ := hy3
          obtain ⟨op, rfl, hop⟩ : ∃ op : Op, y3 = .str op.str ∧ op ≠ .not := by
            match n, hy3 with
            | 0, hy => cases hy; exact ⟨.and, rfl, fun z => by cases z⟩
            | 1, hy => cases hy; exact ⟨.or, rfl, fun z => by cases z⟩
            | 2, hy => cases hy; exact ⟨.less, rfl, fun z => by cases z⟩
            | n + 3, hy => simp at hy
          have sx := s9.trans s10
          have words : ∀ {H' : Hp} {p : Addr}, H' p = some (.lst (Wr.unlike.words.map V.str)) → Rp [] H' (.ref p) (txtsD Wr.unlike.words) := fun e => .lst (by simp) e (Rps.txts _)
          refine ⟨_, rfl, _, rfl, _, rfl, A, A, [], op, x, z, al, lt, m1, mv, g1', g, rfl, rx.same sx, rz.same sx, oka, hl.2, by simp, fun _ _ p H12 s12 e12 => ?_, fun h => absurd h fun q => q.elim hop hne⟩
          refine ⟨by show 2 ≤ sizeLine; exact szl rfl, fun q1 hq1 => ?_⟩
          have sq : Same H12 (upd H12 q1 (.lst [V.str "value", V.str "unlike 'alphabet'"])) := Same.new hq1
          have rq : Rp [] (upd H12 q1 (.lst [V.str "value", V.str "unlike 'alphabet'"])) (.ref q1) (txtsD Wr.unlike.words) := .lst (by simp) upd_same (Rps.txts Wr.unlike.words)
          refine ne_low ((words e12).same sq) rq (low_words .unlike) (low_words .unlike) (by decide) (by decide) True (by simp) ⟨_, rfl, iteEf (by simp) ?_⟩
          have sy := sx.trans (s12.trans sq)
          refine ⟨_, rfl, _, rfl, _, rfl, A, A, [], op, z, x, lt, al, mv, m1, g, g1', rfl, rz.same sy, rx.same sy, okl, hlt3, by simp, fun _ _ p2 H13 s13 e13 => ?_, fun h => absurd h fun q => q.elim hop fun e => hne e.symm⟩
          refine ⟨by show 2 ≤ sizeLine; exact szl rfl, fun q2 hq2 => ?_⟩
          have sq2 : Same H13 (upd H13 q2 (.lst [V.str "value", V.str "unlike 'alphabet'"])) := Same.new hq2
          have rq2 : Rp [] (upd H13 q2 (.lst [V.str "value", V.str "unlike 'alphabet'"])) (.ref q2) (txtsD Wr.unlike.words) := .lst (by simp) upd_same (Rps.txts Wr.unlike.words)
          refine ne_low ((words e13).same sq2) rq2 (low_words .unlike) (low_words .unlike) (by decide) (by decide) True (by simp) ⟨_, rfl, iteEf (by simp) ?_⟩
          exact .of ⟨s10.trans ((s12.trans sq).trans (s13.trans sq2)), _, rfl⟩
        · obtain ⟨s10, y9', rfl⟩ := hp.get
          exact .of ⟨s9.trans s10, _, _, rfl⟩
      · obtain ⟨s8, y8, y9, rfl⟩ := hp.get
        exact .of ⟨gA.trans (Go.same s8), _, _, _, _, _, rfl⟩
    · obtain ⟨g4, y5, y6, y7, y8, y9, rfl⟩ := hp.get
      exact kk _ (g3.trans g4)
end

/-! ### law -/
open MA
abbrev sLaw : Stmt := top 63
def spLaw (K : PySem.W.Frag) : Sp := fun vs H Q _ => ∃ (a : Addr) (ns : List Int), vs = [.ref a] ∧ SqL K H a (ns.map V.int) ∧ (∀ n ∈ ns, Builtin.Int.intBits n ≤ 1048576) ∧ ∀ H', Q (.bl true) H'
/-- as lc_G, the list that is made being told -/
theorem lc_GL {A S : List Addr} {J : It} {n : Nat} {G : Hp → Prop} {Y : Nat → Hp → V → Hp → Prop} {Xp : Nat → V → Prop} {j : Nat} {tt : TT} {te : TE} {vs : List Nat} {σ : L2.St} {H1 : Hp} {L : Addr} {Qd : Hp → Prop}
    (I : Nat → List V → Hp → Prop) (w : Walk J n G Y) (hY : ∀ i H x H', i < n → Y i H x H' → H' = H ∧ Xp i x) (W : Wd A S H1) (hD : H1 L = none) (hn : n ≤ 100000)
    (hG : ∀ H, Keep (L :: A) H1 H → G H) (h0 : ∀ H, I 0 [] H) (hl : ∀ i ys H, I i ys H → ys.length ≤ i) (hK : ∀ i ys H H', Keep (L :: A) H H' → I i ys H → I i ys H') (hw : ∀ x, wipe ((wipe σ vs).set j (some x)) vs = wipe σ vs)
    (hs : ∀ i ys x H, i < n → I i ys H → Xp i x → Wd A (L :: S) H → (∃ zs, H L = some (.lst zs)) → Keep (L :: A) H1 H → ∀ (Kt : V → Hp → Prop) (Kf : Hp → Prop),
      (∀ y H', Go A H H' → I (i + 1) (ys ++ [y]) H' → Kt y H') → (∀ H', Go A H H' → I (i + 1) ys H' → Kf H') →
      tt ((wipe σ vs).set j (some x)) H fun b H3 => if b = true then te ((wipe σ vs).set j (some x)) H3 Kt else Kf H3)
    (hd : ∀ ys H, I n ys H → Go A H1 H → H L = some (.lst ys) → Wd A (L :: S) H → Qd H) :
    ∃ W : Nat → Nat → Hp → Prop, (∃ m, W 0 m (upd H1 L (.lst []))) ∧ ∀ i m H, W i m H →
      (J.stop i H ∧ Qd H) ∨ (J.go i H ∧ ∃ Nx : Hp → Prop, (∀ H', Nx H' → ∃ m', m' < m ∧ W (i + 1) m' H') ∧ ∀ x H', J.yld i H x H' → gName j x (wipe σ vs) H' fun σ2 H2 => wipe σ2 vs = wipe σ vs ∧ tt σ2 H2 fun b H3 =>
        if b = true then te σ2 H3 fun y H4 => ∃ acc, H4 L = some (.lst acc) ∧ acc.length < sizeLine ∧ Nx (upd H4 L (.lst (acc ++ [y]))) else Nx H3) := by
  have nD : L ∉ S := W.fresh hD
  have nA : L ∉ A := fun q => nD (W.sub L q)
  have wd : ∀ {H : Hp} {ys : List V}, Keep (L :: A) H1 H → (∀ a ∈ A, Src H a) → H L = some (.lst ys) → Wd A (L :: S) H := fun {H ys} k hsr hDl => ⟨fun a ha => List.mem_cons_of_mem _ (W.sub a ha), hsr, fun a ha => by
    rcases List.mem_cons.mp ha with e | ha
    · rw [e]; exact ⟨_, hDl⟩
    · by_cases hm : a ∈ A
      · obtain ⟨x, s, c, q⟩ := hsr a hm
        exact ⟨_, q⟩
      · obtain ⟨o, e⟩ := W.ex a ha
        refine ⟨o, k a o (fun q => ?_) e⟩
        rcases List.mem_cons.mp q with q | q
        · rw [q, hD] at e; cases e
        · exact hm q⟩
  have kL : ∀ {H : Hp} {o : HO}, Keep (L :: A) H (upd H L o) := Keep.upd (List.mem_cons_self ..)
  refine lc_it w (fun i H => ∃ ys, I i ys H ∧ Keep (L :: A) H1 H ∧ (∀ a ∈ A, Src H a) ∧ H L = some (.lst ys)) ⟨[], h0 _, fun b o hb e => ?_, fun a ha => ?_, upd_same⟩ (fun i H _ p => ?_) (fun i x H H' hi p y => ?_) (fun H p => ?_)
  · rw [upd_ne (ne_of_none e hD)]
    exact e
  · obtain ⟨x, s, c, q⟩ := W.src a ha
    exact ⟨x, s, c, by rw [upd_ne (ne_of_none q hD)]; exact q⟩
  · obtain ⟨ys, _, k, _⟩ := p
    exact hG H k
  · obtain ⟨e1, hx⟩ := hY i H x H' hi y
    rw [e1]
    clear e1 y
    obtain ⟨ys, hI, k, hsr, hDl⟩ := p
    refine ⟨hw x, hs i ys x H hi hI hx (wd k hsr hDl) ⟨_, hDl⟩ k _ _ (fun y H' g hI' => ?_) (fun H' g hI' => ?_)⟩
    · have e := g.keep L _ nA hDl
      refine ⟨ys, e, ?_, ys ++ [y], hK _ _ _ _ kL hI', ?_, ?_, upd_same⟩
      · have h2 := hl i ys H hI
        exact Nat.lt_of_lt_of_le (show ys.length < 100001 by omega) (by decide)
      · exact (k.trans (g.keep.mono fun a ha => List.mem_cons_of_mem _ ha)).trans kL
      · intro a ha
        obtain ⟨x, s, c, q⟩ := g.src hsr a ha
        exact ⟨x, s, c, by rw [upd_ne (fun z : a = L => nA (by rw [← z]; exact ha))]; exact q⟩
    · exact ⟨ys, hI', k.trans (g.keep.mono fun a ha => List.mem_cons_of_mem _ ha), g.src hsr, g.keep L _ nA hDl⟩
  · obtain ⟨ys, hI, k, hsr, hDl⟩ := p
    refine hd ys H hI ⟨fun b o hb e => k b o (fun q => ?_) e, fun _ => hsr⟩ hDl (wd k hsr hDl)
    rcases List.mem_cons.mp q with q | q
    · rw [q, hD] at e; cases e
    · exact hb q
/-- tuples of constants in a list, written out -/
def tVsC : List V → TA
  | [] => tNil
  | x :: r => tCons (tC x) (tVsC r)
def tTupsC : List (List V) → TA
  | [] => tNil
  | r :: rs => tCons (tTup (tVsC r)) (tTupsC rs)
def RowsV (H : Hp) (ms : List V) (rs : List (List V)) : Prop := ms.length = rs.length ∧ ∀ (j : Nat) (row : List V), rs[j]? = some row → ∃ b, ms[j]? = some (.ref b) ∧ H b = some (.tup row)
theorem RowsV.same {H H' : Hp} {ms : List V} {rs : List (List V)} (h : RowsV H ms rs) (s : Same H H') : RowsV H' ms rs := ⟨h.1, fun j row e => by
  obtain ⟨b, e1, e2⟩ := h.2 j row e
  exact ⟨b, e1, s _ _ e2⟩⟩
theorem RowsV.go {A : List Addr} {H H' : Hp} {ms : List V} {rs : List (List V)} (h : RowsV H ms rs) (W : ∀ a ∈ A, Src H a) (g : Go A H H') : RowsV H' ms rs := ⟨h.1, fun j row e => by
  obtain ⟨b, e1, e2⟩ := h.2 j row e
  exact ⟨b, e1, g.keep _ _ (fun z => by obtain ⟨c1, c2, c3, q⟩ := W b z; rw [e2] at q; cases q) e2⟩⟩
theorem vs_c {σ : L2.St} {H : Hp} : ∀ (r : List V) (K : List V → Hp → Prop), K r H → tVsC r σ H K
  | [], _, h => h
  | x :: r, K, h => vs_c r (fun vs H2 => K (x :: vs) H2) h
theorem tups_c {σ : L2.St} : ∀ (rs : List (List V)) (H : Hp) (K : List V → Hp → Prop), (∀ r ∈ rs, r.length ≤ 1000) → (∀ ws H', Same H H' → RowsV H' ws rs → K ws H') → tTupsC rs σ H K
  | [], H, K, _, k => k [] H (Same.refl _) ⟨rfl, fun j row e => by simp at e⟩
  | r :: rs, H, K, h, k => by
    refine vs_c (σ := σ) (H := H) r _ ⟨Nat.le_trans (h r (List.mem_cons_self ..)) (by decide), fun p hp => ?_⟩
    refine tups_c rs _ _ (fun q hq => h q (List.mem_cons_of_mem _ hq)) fun ws H' s q => k _ _ ((Same.new hp).trans s) ⟨by rw [List.length_cons, List.length_cons, q.1], fun j row e => ?_⟩
    match j, e with
    | 0, e => cases e; exact ⟨p, rfl, s _ _ upd_same⟩
    | j + 1, e => exact q.2 j row e
theorem tups_set {D : Ends} {σ : L2.St} {H : Hp} {g : TG} {rest : TS} (rs : List (List V)) (h : ∀ r ∈ rs, r.length ≤ 1000) (hl : rs.length ≤ 1000) (k : ∀ L ws H', Same H H' → H L = none → H' L = some (.lst ws) → RowsV H' ws rs → g (.ref L) σ H' (fun σ2 H2 => rest D σ2 H2)) : tSeq (tAsg (tLst (tTupsC rs)) g) rest D σ H := by
  show tLst (tTupsC rs) σ H (fun x H1 => g x σ H1 (fun σ2 H2 => rest D σ2 H2))
  refine tups_c rs H _ h fun ws H1 s q => ⟨?_, fun L hL => k L ws _ (s.trans (Same.new hL)) (same_none s hL) upd_same (q.same (Same.new hL))⟩
  rw [q.1]
  exact Nat.le_trans hl (by decide)
def askV (a : Op × Nat × Nat) : List V := [.str a.1.str, .int (a.2.1 : Int), .int (a.2.2 : Int)]
def asks0 : List (Op × Nat × Nat) := [(.and, 0, 1), (.or, 0, 1), (.less, 0, 1), (.not, 0, 0), (.and, 1, 0), (.or, 1, 0), (.less, 1, 0), (.not, 1, 1), (.and, 0, 0), (.or, 1, 1), (.less, 0, 0)]
theorem asks0_c : tTupsC (asks0.map askV) = (tCons (tTup (tCons (tC (V.str "and")) (tCons (tC (V.int 0)) (tCons (tC (V.int 1)) tNil)))) (tCons (tTup (tCons (tC (V.str "or")) (tCons (tC (V.int 0)) (tCons (tC (V.int 1)) tNil)))) (tCons (tTup (tCons (tC (V.str "less")) (tCons (tC (V.int 0)) (tCons (tC (V.int 1)) tNil)))) (tCons (tTup (tCons (tC (V.str "not")) (tCons (tC (V.int 0)) (tCons (tC (V.int 0)) tNil)))) (tCons (tTup (tCons (tC (V.str "and")) (tCons (tC (V.int 1)) (tCons (tC (V.int 0)) tNil)))) (tCons (tTup (tCons (tC (V.str "or")) (tCons (tC (V.int 1)) (tCons (tC (V.int 0)) tNil)))) (tCons (tTup (tCons (tC (V.str "less")) (tCons (tC (V.int 1)) (tCons (tC (V.int 0)) tNil)))) (tCons (tTup (tCons (tC (V.str "not")) (tCons (tC (V.int 1)) (tCons (tC (V.int 1)) tNil)))) (tCons (tTup (tCons (tC (V.str "and")) (tCons (tC (V.int 0)) (tCons (tC (V.int 0)) tNil)))) (tCons (tTup (tCons (tC (V.str "or")) (tCons (tC (V.int 1)) (tCons (tC (V.int 1)) tNil)))) (tCons (tTup (tCons (tC (V.str "less")) (tCons (tC (V.int 0)) (tCons (tC (V.int 0)) tNil)))) tNil))))))))))) := rfl
theorem asks0_in : ∀ a ∈ asks0, a.2.1 < 2 ∧ a.2.2 < 2 := by decide
section
open PyProof.Rows
variable {P : Program} {w : World} {K : PySem.W.Frag} {mg : Str → Option Value} {base : Heap} {ad : Ad}
theorem scLaw : FnScope ["script", "source", "second", "third", "alphabet", "plains", "readers", "words", "asks", "k", "ask", "plain", "row"] ["script"] (C8.fnScope sLaw) := C8.fnScope_by (by decide +kernel)
theorem ok_law {f : Addr} {fd : FuncData} (F : C8.Def K mg "law" sLaw f fd) (b : Binds K fd ["script"] []) (T : Txt mg) (O : Own K mg ad)
    (c_law_source : C8.Cal P w K mg base 1 "_law_source" (spSource K) []) (c_law_pick : C8.Cal P w K mg base 1 "_law_pick" spPick []) (c_law_alphabet : C8.Cal P w K mg base 2 "_law_alphabet" spAlphabet []) (c_law_both : C8.Cal P w K mg base 4 "_law_both" spBoth []) (c_law_word : C8.Cal P w K mg base 2 "_law_word" spWord [])
    (m_Reader : MakZ P w K mg base 3 "Reader" ad.Reader (spInit K ad)) (c_law_asked : CalZ Gd P w K mg base 10 "_law_asked" (spAsked ad)) (c_law_turned : CalZ Gd P w K mg base 10 "_law_turned" (spTurned ad)) (c_law_strange : CalZ Gd P w K mg base 10 "_law_strange" (spStrange ad)) (c_law_stays : C8.Cal P w K mg base 3 "_law_stays" (spStays ad) []) :
    CalZ Gd P w K mg base 11 "law" (spLaw K) := by
  refine calZ (fun A env h => h.deeper env) F b scLaw (fun vs H Q E h => ?_) (fun cdv A0 outer s H vs Q E hG hr h => ?_)
  · obtain ⟨a, ns, rfl, _⟩ := h
    rfl
  · obtain ⟨a, ns, rfl, hS, hb, k⟩ := h
    have sc := scLaw
    refine ⟨_, -- law: 0 script 1 source 2 second 3 third 4 alphabet* 5 plains 6 readers 7 words 8 asks 9 k 10 ask 11 plain 12 row

      (pss_cons (ps_set (i := 1) sc.nd rfl (Or.inl rfl) (C8.pe_c c_law_source hr (by decide) rfl (pa_cons (pv 0) (pa_cons pe_int pa_nil))))
      (pss_cons (ps_set (i := 2) sc.nd rfl (Or.inl rfl) (C8.pe_c c_law_source hr (by decide) rfl (pa_cons (pv 0) (pa_cons pe_int pa_nil))))
      (pss_cons (ps_set (i := 3) sc.nd rfl (Or.inl rfl) (C8.pe_c c_law_source hr (by decide) rfl (pa_cons (pv 0) (pa_cons pe_int pa_nil))))
      (pss_cons (ps_set (i := 4) sc.nd rfl (Or.inr rfl) (C8.pe_c c_law_alphabet hr (by decide) rfl (pa_cons (pv 1) pa_nil)))
      (pss_cons (ps_set (i := 5) sc.nd rfl (Or.inl rfl) (C8.pe_c c_law_both hr (by decide) rfl (pa_cons (pv 1) (pa_cons (pv 2) (pa_cons (pv 4) pa_nil)))))
      (C8.pss_cut (ps_setLc (i := 6) (own := [("plain", 11)]) (g := gName 11) rfl sc.nd rfl rfl (sw_true rfl rfl rfl (by decide +kernel)) (pi_list (pv 5)) (blkOk_by (own := [("plain", 11)]) (by kernel_rfl)) (fun _ _ _ _ _ => (pg_name (i := 11) sc.nd rfl (Or.inl rfl))) (fun _ _ _ _ _ => pts_nil) (fun _ _ _ _ _ => (pe_makeZ (E := fun _ _ _ _ => False) m_Reader hr (by decide) rfl (fun σ => passF σ) (pa_cons (pv 4) (pa_cons (pe_lc (own := [("row", 12)]) (g := gName 12) rfl sc.nd (pi_seqWK (K := K) rfl (pe_ix (ixQ (K := K) rfl) (pv 11) pe_int (fun _ _ => rfl))) (blkOk_by (own := [("row", 12)]) (by kernel_rfl)) (fun _ _ _ _ _ => (pg_name (i := 12) sc.nd rfl (Or.inl rfl))) (fun _ _ _ _ _ => pts_nil) (fun _ _ _ _ _ => (pe_callTy (T := "list") (call_lstQ (K := K) rfl) (by rfl) T.list (by decide +kernel) (pa_cons (pv 12) pa_nil)))) (pa_cons (pe_callTy (T := "list") (call_lstQ (K := K) rfl) (by rfl) T.list (by decide +kernel) (pa_cons (pe_ix (ixQ (K := K) rfl) (pv 11) pe_int (fun _ _ => rfl)) pa_nil)) pa_nil))))))
      (C8.pss_cut (ps_set (i := 7) sc.nd rfl (Or.inl rfl) (pe_lst (pa_cons (C8.pe_c c_law_word hr (by decide) rfl (pa_cons (pv 3) (pa_cons (pv 4) (pa_cons pe_int pa_nil)))) (pa_cons (C8.pe_c c_law_word hr (by decide) rfl (pa_cons (pv 3) (pa_cons (pv 4) (pa_cons pe_int pa_nil)))) pa_nil))))
      (pss_cons (ps_set (i := 8) sc.nd rfl (Or.inl rfl) (pe_lst (pa_cons (pe_tup (pa_cons pe_str (pa_cons pe_int (pa_cons pe_int pa_nil)))) (pa_cons (pe_tup (pa_cons pe_str (pa_cons pe_int (pa_cons pe_int pa_nil)))) (pa_cons (pe_tup (pa_cons pe_str (pa_cons pe_int (pa_cons pe_int pa_nil)))) (pa_cons (pe_tup (pa_cons pe_str (pa_cons pe_int (pa_cons pe_int pa_nil)))) (pa_cons (pe_tup (pa_cons pe_str (pa_cons pe_int (pa_cons pe_int pa_nil)))) (pa_cons (pe_tup (pa_cons pe_str (pa_cons pe_int (pa_cons pe_int pa_nil)))) (pa_cons (pe_tup (pa_cons pe_str (pa_cons pe_int (pa_cons pe_int pa_nil)))) (pa_cons (pe_tup (pa_cons pe_str (pa_cons pe_int (pa_cons pe_int pa_nil)))) (pa_cons (pe_tup (pa_cons pe_str (pa_cons pe_int (pa_cons pe_int pa_nil)))) (pa_cons (pe_tup (pa_cons pe_str (pa_cons pe_int (pa_cons pe_int pa_nil)))) (pa_cons (pe_tup (pa_cons pe_str (pa_cons pe_int (pa_cons pe_int pa_nil)))) pa_nil)))))))))))))
      (C8.pss_cut (ps_if (pt_cmpR op_gt (pe_op op_mul (pe_callB (call_lenQ (K := K) rfl) (by rfl) T.len PySem.boot_len (pa_cons (pe_ix (ixQ (K := K) rfl) (pe_ix ix_list (pv 5) pe_int (fun _ _ => rfl)) pe_int (fun _ _ => rfl)) pa_nil)) (pe_callB (call_lenQ (K := K) rfl) (by rfl) T.len PySem.boot_len (pa_cons (pe_ix (ixQ (K := K) rfl) (pe_ix ix_list (pv 5) pe_int (fun _ _ => rfl)) pe_int (fun _ _ => rfl)) pa_nil))) pe_int (nomark _)) 
        (pss_cons (ps_set (i := 9) sc.nd rfl (Or.inl rfl) (C8.pe_c c_law_pick hr (by decide) rfl (pa_cons (pv 3) (pa_cons pe_int pa_nil))))
        (pss_one (ps_set (i := 8) sc.nd rfl (Or.inl rfl) (pe_lst (pa_cons (pe_ix ix_list (pv 8) (pv 9) (fun _ _ => rfl)) (pa_cons (pe_ix ix_list (pv 8) (pe_op op_add pe_int (pv 9)) (fun _ _ => rfl)) (pa_cons (pe_tup (pa_cons pe_str (pa_cons (pe_op op_fdivW (pv 9) pe_int) (pa_cons (pe_op op_fdivW (pv 9) pe_int) pa_nil)))) pa_nil))))))) pss_nil)
      (C8.pss_cut (ps_for passesG rfl (pi_seqH (pv 8)) (pg_name (i := 10) sc.nd rfl (Or.inl rfl)) 
        (pss_one (ps_if (pt_not (pt_val (pe_z (E := fun _ _ _ _ => False) c_law_asked hG hr (by decide) rfl (fun σ => passF σ) (pa_cons (pv 4) (pa_cons (pv 5) (pa_cons (pv 6) (pa_cons (pv 10) (pa_cons (pv 7) pa_nil)))))))) 
          (pss_one (ps_ret pe_bl)) pss_nil)))
      (C8.pss_cut (ps_for passesG rfl (pi_range1 (by rfl) T.range (pa_cons pe_int pa_nil)) (pg_name (i := 9) sc.nd rfl (Or.inl rfl)) 
        (pss_one (ps_if (pt_not (pt_val (pe_z (E := fun _ _ _ _ => False) c_law_turned hG hr (by decide) rfl (fun σ => passF σ) (pa_cons (pv 4) (pa_cons (pe_ix ix_list (pv 5) (pv 9) (fun _ _ => rfl)) (pa_cons (pe_ix ix_list (pv 6) (pv 9) (fun _ _ => rfl)) pa_nil)))))) 
          (pss_one (ps_ret pe_bl)) pss_nil)))
      (C8.pss_cut (ps_if (pt_not (pt_val (pe_z (E := fun _ _ _ _ => False) c_law_strange hG hr (by decide) rfl (fun σ => passF σ) (pa_cons (pv 4) (pa_cons (pv 6) (pa_cons (pv 3) pa_nil)))))) 
        (pss_one (ps_ret pe_bl)) pss_nil)
      (C8.pss_cut (ps_if (PW.pt (pw_or (pt_not (pt_val (C8.pe_c c_law_stays hr (by decide) rfl (pa_cons (pv 4) (pa_cons (pe_ix ix_list (pv 5) pe_int (fun _ _ => rfl)) (pa_cons (pe_ix ix_list (pv 6) pe_int (fun _ _ => rfl)) pa_nil)))))) (pw_or1 (pt_not (pt_val (C8.pe_c c_law_stays hr (by decide) rfl (pa_cons (pv 4) (pa_cons (pe_ix ix_list (pv 5) pe_int (fun _ _ => rfl)) (pa_cons (pe_ix ix_list (pv 6) pe_int (fun _ _ => rfl)) pa_nil))))))))) 
        (pss_one (ps_ret pe_bl)) pss_nil)
      (pss_one (ps_ret (pe_z (E := fun _ _ _ _ => False) c_law_asked hG hr (by decide) rfl (fun σ => passF σ) (pa_cons (pv 4) (pa_cons (pv 5) (pa_cons (pv 6) (pa_cons (pe_ix ix_list (pv 8) (C8.pe_c c_law_pick hr (by decide) rfl (pa_cons (pv 3) (pa_cons (pe_callB (call_lenQ (K := K) rfl) (by rfl) T.len PySem.boot_len (pa_cons (pv 8) pa_nil)) pa_nil))) (fun _ _ => rfl)) (pa_cons (pv 7) pa_nil))))))))))))))))))))), ?_⟩
    refine ⟨_, rfl, a, ns, 0, rfl, hS, hb, by decide, by decide, fun q1 y1 t1 c1 H1 n1 s1 e1 => ?_⟩
    refine ⟨_, rfl, a, ns, 1, rfl, s1.seq hS, hb, by decide, by decide, fun q2 y2 t2 c2 H2 n2 s2 e2 => ?_⟩
    refine ⟨_, rfl, a, ns, 2, rfl, (s1.trans s2).seq hS, hb, by decide, by decide, fun q3 y3 t3 c3 H3 n3 s3 e3 => ?_⟩
    obtain ⟨A, m1, m2, m3, src⟩ : ∃ A : List Addr, q1 ∈ A ∧ q2 ∈ A ∧ q3 ∈ A ∧ ∀ a ∈ A, Src H3 a := ⟨[q1, q2, q3], by simp, by simp, by simp, fun a ha => by
      simp only [List.mem_cons, List.not_mem_nil, or_false] at ha
      rcases ha with rfl | rfl | rfl
      · exact ⟨_, _, _, s3 _ _ (s2 _ _ e1)⟩
      · exact ⟨_, _, _, s3 _ _ e2⟩
      · exact ⟨_, _, _, e3⟩⟩
    clear s1 s2 s3 e1 e2 e3 n1 n2 n3 hS hb
    refine ⟨_, rfl, A, q1, rfl, m1, src, fun al H5 hal g5 => ?_⟩
    have W5 := Wd.of (g5.src src)
    clear g5 src
    have hlen := hal.len
    refine ⟨_, rfl, _, rfl, _, rfl, A, A, q1, q2, al, rfl, m1, m2, W5, hal, fun pl v0 v1 mv0 mv1 g0 g1 H6 g6 plA epl p0 p1 M0 M1 => ?_⟩
    have W10 := W5.go g6
    clear W5 g6
    have ml0 := M0.most
    have ml1 := M1.most
    obtain ⟨ms, hms⟩ : ∃ ms : List (List (List Int) × List Int), ms = [(mv0, g0), (mv1, g1)] := ⟨_, rfl⟩
    have PL : PlsAt A H6 al.length ms [v0, v1] := by
      subst hms
      refine ⟨rfl, fun j m e => ?_⟩
      match j, e with
      | 0, e => cases e; exact ⟨v0, rfl, p0, M0⟩
      | 1, e => cases e; exact ⟨v1, rfl, p1, M1⟩
      | j + 2, e => simp at e
    have ml2 : ms.length = 2 := by rw [hms]; rfl
    refine ⟨fun σ' H' => Go A H6 H' ∧ ∃ rl ys, H' rl = some (.lst ys) ∧ rl ∉ A ∧ RdL ad A H' al ms ys ∧ σ' = [some (.ref a), some (.ref q1), some (.ref q2), some (.ref q3), some (.str al), some (.ref pl), some (.ref rl), none, none, none, none, none, none], ?_, ?_⟩
    · refine ⟨_, rfl, _, rfl, ⟨_, SqL.of epl⟩, fun L hL => lc_GL (A := A) (S := A) (j := 11) (Xp := fun i x => [v0, v1][i]? = some x) (fun i ys H' => RdL ad (L :: A) H' al (ms.take i) ys)
        walk_list (fun i H x H' _ y => ⟨y.1, y.2⟩) W10 hL (show 2 ≤ 100000 by decide) (fun H2 k2 => SqL.of (k2 _ _ (fun q => (List.mem_cons.mp q).elim (fun e => by rw [← e, epl] at hL; cases hL) plA) epl)) (fun _ => ⟨rfl, fun j m e => by simp at e⟩) (fun i ys H h => by rw [h.1, List.length_take]; omega) (fun i ys H H' k2 h => h.keep k2) (fun _ => rfl)
        (fun i ys x H3 hi h hx W3 hLz k3 Kt Kf ht hf => ?_) (fun ys H3 h3 g3 hL3 W3 => ?_)⟩
      · obtain ⟨m, hmi⟩ : ∃ m, ms[i]? = some m := ⟨ms[i]'(by have : i < 2 := hi; omega), List.getElem?_eq_getElem (by have : i < 2 := hi; omega)⟩
        obtain ⟨v, hv, rv, Mv⟩ := PL.2 i m hmi
        have hxv : x = v := by
          rw [hx] at hv
          exact Option.some.inj hv
        subst hxv
        have rv3 : Rp (L :: A) H3 x (.tup [mvD m.1, rowD m.2]) := (rv.more fun b hb => (List.mem_cons.mp hb).elim (fun e => .inr (by rw [e]; exact hL)) .inl).keep k3
        obtain ⟨mt, ws, rfl, nt, et, hws⟩ := rv3.tupItem
        cases hws with
        | cons h1 hws =>
        cases hws with
        | cons h2 hws =>
        cases hws
        cases h1 with
        | @lst am xs _ nam eam rxs =>
        cases h2 with
        | @lst ag gs _ nag eag rgs =>
        have xl := rxs.len
        rw [List.length_map] at xl
        have mm := Mv.most
        have hU : ∀ {H' : Hp}, Same H3 H' → ∀ c ∈ L :: A, ∃ xs, H' c = some (.lst xs) := fun {H'} s c hc => by
          rcases List.mem_cons.mp hc with e | hc
          · obtain ⟨zs, ez⟩ := hLz
            rw [e]
            exact ⟨_, s _ _ ez⟩
          · obtain ⟨x1, x2, x3, e⟩ := W3.src c hc
            exact ⟨_, s _ _ e⟩
        refine yes_go ⟨_, rfl, _, rfl, mt, _, _, _, rfl, rfl, .inr (.inl (.inl et)), rfl, am, xs, rfl, .inl (SqL.of eam), fun J G wJ hG L2 hL2 => lc_FS (j := 12) (Xp := fun i x => ∃ r b, m.1[i]? = some r ∧ x = .ref b ∧ b ∉ (L :: A) ∧ H3 b = some (.lst (r.map V.int))) [] (fun i => rowD (m.1.getD i [])) wJ (fun i H2 x H3 _ y => ⟨y.1, rowD_item rxs y.2⟩) (by simp) hL2 (by omega) (fun H2 s2 => hG H2 s2) (fun _ => rfl) (fun i x H5 hi hx s5 hex Kt2 ht2 => ?_) (fun ys5 H5 s5 e5 r5 => ?_)⟩
        · obtain ⟨r, b0, hr0, rfl, _, hb0⟩ := hx
          refine ⟨_, rfl, b0, _, rfl, .inl (SqL.of (s5 _ _ hb0)), fun l hl => ht2 _ _ (Same.new hl) ?_⟩
          rw [List.getD_eq_getElem?_getD, hr0]
          refine .lst (fun hm => ?_) upd_same (Rps.ints r)
          obtain ⟨o, e⟩ := hex l hm
          rw [hl] at e
          cases e
        · have eR : (List.range xs.length).map (fun i => rowD (m.1.getD i [])) = m.1.map rowD := by
            rw [xl]
            exact map_range m.1 [] rowD
          rw [eR] at r5
          have rm : Rp [] H5 (.ref L2) (mvD m.1) := .lst (by simp) e5 r5
          refine ⟨_, rfl, mt, _, _, _, rfl, rfl, .inr (.inl (.inl (s5 _ _ et))), rfl, ag, _, rfl, .inl (SqL.of (s5 _ _ eag)), fun q hq => ?_⟩
          have s6 : Same H5 (upd H5 q (.lst gs)) := Same.new hq
          have rg : Rp [] (upd H5 q (.lst gs)) (.ref q) (rowD m.2) := .lst (by simp) upd_same (rgs.ints_eq ▸ Rps.ints _)
          have rm6 := rm.same s6
          intro y dy hy hdy hne
          have hU6 := hU (s5.trans s6)
          refine init_good (U := L :: A) (.str al) rm6 rg rfl (oth_ok hal).2.2.2 (by omega) (mvO_D _) rfl Mv hU6 hy hdy hne (fun H' s r => ⟨rfl, ?_⟩)
          have s7 : Same H3 H' := (s5.trans s6).trans s
          refine ht _ _ (Go.same s7) ?_
          rw [take_snoc hmi]
          exact (h.keep (Keep.same s7)).snoc (fun z => by
            obtain ⟨xs9, e9⟩ := hU6 y z
            rw [hy] at e9
            cases e9) r
      · have h4 : RdL ad (L :: A) H3 al ms ys := by
          have h3 : RdL ad (L :: A) H3 al (ms.take 2) ys := h3
          rwa [List.take_of_length_le (by omega)] at h3
        refine ⟨g3, L, ys, hL3, W10.fresh hL, ⟨h4.1, fun j m e => ?_⟩, rfl⟩
        obtain ⟨y, h5, h6, h7⟩ := h4.2 j m e
        refine ⟨y, h5, fun z => h6 (List.mem_cons_of_mem _ z), ?_⟩
        obtain ⟨⟨dx, vm, vg, e2, rm, rg⟩, MM⟩ := h7
        exact ⟨⟨dx, vm, vg, e2, rm.less fun _ z => List.mem_cons_of_mem _ z, rg.less fun _ z => List.mem_cons_of_mem _ z⟩, MM⟩
    · rintro σ' H11 ⟨g11, rl, ys, erl, rlA, RL, rfl⟩
      have W11 := W10.go g11
      have epl11 := g11.keep pl _ plA epl
      have PL11 := PL.keep g11.keep
      refine ⟨fun σ' H' => Go A H11 H' ∧ ∃ wl wvs, H' wl = some (.lst wvs) ∧ wl ∉ A ∧ wvs.length ≤ 1000 ∧ (∀ v ∈ wvs, TxtAt al v) ∧ σ' = [some (.ref a), some (.ref q1), some (.ref q2), some (.ref q3), some (.str al), some (.ref pl), some (.ref rl), some (.ref wl), none, none, none, none, none], ?_, ?_⟩
      · have tx : ∀ {cs : List Nat} {n : Int}, (∀ c ∈ cs, c ∈ al.cps.toList) → (cs.length : Int) ≤ n → n ≤ 40 → TxtAt al (.str (SX.S cs)) := fun {cs n} h1 h2 h3 => by
          obtain ⟨wd, hwd, e⟩ := word_of h1
          subst e
          have h4 : (txW al wd).length = wd.length := List.length_map ..
          exact ⟨wd, rfl, hwd, by omega⟩
        refine ⟨_, rfl, _, rfl, A, q3, al, 6, rfl, m3, W11.src, hal, by decide, by decide, fun cs1 H12 hcs1 hl1 g12 => ?_⟩
        refine ⟨_, rfl, _, rfl, A, q3, al, 40, rfl, m3, (W11.go g12).src, hal, by decide, by decide, fun cs2 H13 hcs2 hl2 g13 => ?_⟩
        refine ⟨by show 2 ≤ sizeLine; exact szl rfl, fun wl hwl => ?_⟩
        refine ⟨(g12.trans g13).trans (Go.new hwl), wl, _, upd_same, ((W11.go g12).go g13).fresh hwl, by show 2 ≤ 1000; decide, fun v hv => ?_, rfl⟩
        simp only [List.mem_cons, List.not_mem_nil, or_false] at hv
        rcases hv with rfl | rfl
        · exact tx hcs1 hl1 (by decide)
        · exact tx hcs2 hl2 (by decide)
      · rintro σ' H12 ⟨g12, wl, wvs, ewl, wlA, hwl, hwv, rfl⟩
        have W12 := W11.go g12
        rw [← asks0_c]
        refine tups_set (asks0.map askV) (fun r hr => by obtain ⟨a, _, rfl⟩ := List.mem_map.mp hr; exact (by decide : 3 ≤ 1000)) (by decide) fun al0 ws0 H13 s13 hal0 eal0 rv0 => ?_
        have W13 := W12.go (Go.same s13)
        have alA : al0 ∉ A := W12.fresh hal0
        have gA := g12.trans (Go.same s13)
        have erl := gA.keep rl _ rlA erl
        have epl13 := gA.keep pl _ plA epl11
        have ewl := s13 _ _ ewl
        have RL := RL.keep gA.keep
        have PL13 := PL11.keep gA.keep
        have get0 : ∀ n : Nat, n < 11 → ∃ b a, ws0[n]? = some (.ref b) ∧ H13 b = some (.tup (askV a)) ∧ a.2.1 < 2 ∧ a.2.2 < 2 := fun n hn => by
          have h1 : n < asks0.length := hn
          obtain ⟨b, e1, e2⟩ := rv0.2 n (askV asks0[n]) (by rw [List.getElem?_map, List.getElem?_eq_getElem h1]; rfl)
          obtain ⟨h2, h3⟩ := asks0_in _ (List.getElem_mem h1)
          exact ⟨b, _, e1, e2, h2, h3⟩
        clear gA s13 W12 epl11 PL11
        refine ⟨fun σ' H' => Go A H13 H' ∧ ∃ asl aws as y9, H' asl = some (.lst aws) ∧ asl ∉ A ∧ RowsV H' aws (List.map askV as) ∧ 1 ≤ as.length ∧ as.length ≤ 11 ∧ (∀ a ∈ as, a.2.1 < 2 ∧ a.2.2 < 2) ∧ σ' = [some (.ref a), some (.ref q1), some (.ref q2), some (.ref q3), some (.str al), some (.ref pl), some (.ref rl), some (.ref wl), some (.ref asl), y9, none, none, none], ?_, ?_⟩
        · obtain ⟨v0', hv0, p0', _⟩ := PL13.2 0 (mv0, g0) (by rw [hms]; rfl)
          obtain ⟨v1', hv1, p1', _⟩ := PL13.2 1 (mv1, g1) (by rw [hms]; rfl)
          cases hv0
          cases hv1
          obtain ⟨t0, ws, rfl, nt0, et0, hws⟩ := p0'.tupItem
          cases hws with
          | cons h1 hws =>
          cases hws with
          | cons h2 hws =>
          cases hws
          cases h1 with
          | @lst am0 xs0 _ nam0 eam0 rxs0 =>
          obtain ⟨t1, ws', rfl, nt1, et1, hws'⟩ := p1'.tupItem
          cases hws' with
          | cons h1' hws' =>
          cases hws' with
          | cons h2' hws' =>
          cases hws'
          cases h1' with
          | @lst am1 xs1 _ nam1 eam1 rxs1 =>
          have xl0 : xs0.length = mv0.length := by have h := rxs0.len; rwa [List.length_map] at h
          have xl1 : xs1.length = mv1.length := by have h := rxs1.len; rwa [List.length_map] at h
          refine ⟨_, rfl, pl, _, _, _, rfl, rfl, SqL.of epl13, rfl, t0, _, _, _, rfl, rfl, .inr (.inl (.inl et0)), rfl, am0, xs0, rfl, .inl (SqL.of eam0), _, rfl, pl, _, _, _, rfl, rfl, SqL.of epl13, rfl, t1, _, _, _, rfl, rfl, .inr (.inl (.inl et1)), rfl, am1, xs1, rfl, .inl (SqL.of eam1), _, _, rfl, rfl, Or.inl ⟨by omega, by omega⟩, _, _, rfl, rfl, _, rfl, ite2 (fun _ => ?_) (fun _ => ?_)⟩
          · refine ⟨_, rfl, A, q3, _, rfl, m3, W13.src, by omega, by omega, fun z H14 hz0 hz1 g14 => ?_⟩
            have eal14 := g14.keep al0 _ alA eal0
            have W14 := W13.go g14
            obtain ⟨Z, rfl⟩ : ∃ Z : Nat, z = (Z : Int) := ⟨z.toNat, by omega⟩
            have get14 : ∀ n : Nat, n < 11 → ∃ b a, atI ws0 (n : Int) = some (.ref b) ∧ H14 b = some (.tup (askV a)) ∧ a.2.1 < 2 ∧ a.2.2 < 2 := fun n hn => by
              obtain ⟨b, a, e1, e2, h1, h2⟩ := get0 n hn
              exact ⟨b, a, atI_nat e1, g14.keep b _ (fun z => by obtain ⟨c1, c2, c3, q⟩ := W13.src b z; rw [e2] at q; cases q) e2, h1, h2⟩
            obtain ⟨b1, a1, hb1, eb1, r11, r12⟩ := get14 Z (by omega)
            obtain ⟨b2, a2, hb2, eb2, r21, r22⟩ := get14 (4 + Z) (by omega)
            rw [show (((4 + Z : Nat)) : Int) = 4 + (Z : Int) by omega] at hb2
            refine ⟨_, rfl, _, rfl, al0, _, _, _, rfl, rfl, SqL.of eal14, hb1, _, rfl, _, rfl, _, _, rfl, rfl, al0, _, _, _, rfl, rfl, SqL.of eal14, hb2, _, rfl, _, _, rfl, rfl, ⟨by decide, by decide⟩, _, rfl, _, _, rfl, rfl, ⟨by decide, by decide⟩, by show 3 ≤ sizeLine; exact szl rfl, fun b3 hb3 => ⟨by show 3 ≤ sizeLine; exact szl rfl, fun b4 hb4 => ?_⟩⟩
            have hZ2 : (Z : Int) / 2 = ((Z / 2 : Nat) : Int) := by omega
            have s15 : Same H14 (upd (upd H14 b3 (.tup [V.str "not", V.int ((Z : Int) / 2), V.int ((Z : Int) / 2)])) b4 (.lst [V.ref b1, V.ref b2, V.ref b3])) := (Same.new hb3).trans (Same.new hb4)
            have b34 : b3 ≠ b4 := fun e => by rw [← e, upd_same] at hb4; cases hb4
            have hb4' : H14 b4 = none := by rw [upd_ne (Ne.symm b34)] at hb4; exact hb4
            refine ⟨g14.trans (Go.same s15), b4, _, [a1, a2, (.not, Z / 2, Z / 2)], _, upd_same, W14.fresh hb4', ⟨rfl, fun j row e => ?_⟩, by show 1 ≤ 3; decide, by show 3 ≤ 11; decide, fun a ha => ?_, rfl⟩
            · match j, e with
              | 0, e => cases e; exact ⟨b1, rfl, s15 _ _ eb1⟩
              | 1, e => cases e; exact ⟨b2, rfl, s15 _ _ eb2⟩
              | 2, e =>
                cases e
                refine ⟨b3, rfl, ?_⟩
                rw [upd_ne b34, upd_same]
                unfold askV
                rw [← hZ2]
                rfl
              | j + 3, e => simp at e
            · simp only [List.mem_cons, List.not_mem_nil, or_false] at ha
              rcases ha with rfl | rfl | rfl
              · exact ⟨r11, r12⟩
              · exact ⟨r21, r22⟩
              · exact ⟨by show Z / 2 < 2; omega, by show Z / 2 < 2; omega⟩
          · exact ⟨Go.refl _ _, al0, ws0, asks0, _, eal0, alA, rv0, by decide, by decide, asks0_in, rfl⟩
        · rintro σ' H14 ⟨g14, asl, aws, as, y9, easl, aslA, rva, has1, has2, hasB, rfl⟩
          have W14 := W13.go g14
          have erl := g14.keep rl _ rlA erl
          have epl := g14.keep pl _ plA epl13
          have ewl := g14.keep wl _ wlA ewl
          have RL := RL.keep g14.keep
          have PL := PL13.keep g14.keep
          have hU : ∀ {H' : Hp}, Go A H14 H' → ∀ c ∈ A, ∃ xs, H' c = some (.lst xs) := fun {H'} g c hc => by
            obtain ⟨x1, x2, x3, e⟩ := (W14.go g).src c hc
            exact ⟨_, e⟩
          have lws : aws.length = as.length := by have h := rva.1; rwa [List.length_map] at h
          have getA : ∀ (n : Nat) (y : V), aws[n]? = some y → ∃ b a, y = .ref b ∧ H14 b = some (.tup (askV a)) ∧ a.2.1 < ms.length ∧ a.2.2 < ms.length := fun n y hy => by
            have hn : n < as.length := by rw [← lws]; exact (List.getElem?_eq_some_iff.mp hy).1
            obtain ⟨b, e1, e2⟩ := rva.2 n (askV as[n]) (by rw [List.getElem?_map, List.getElem?_eq_getElem hn]; rfl)
            rw [hy] at e1
            obtain ⟨h1, h2⟩ := hasB _ (List.getElem_mem hn)
            exact ⟨b, as[n], Option.some.inj e1, e2, by omega, by omega⟩
          let σA : Option V → Option V → L2.St := fun y9 y10 => [some (.ref a), some (.ref q1), some (.ref q2), some (.ref q3), some (.str al), some (.ref pl), some (.ref rl), some (.ref wl), some (.ref asl), y9, y10, none, none]
          refine ⟨fun σ' H' => Same H14 H' ∧ ∃ y9 y10, σ' = σA y9 y10, ?_, ?_⟩
          · refine ⟨_, rfl, asl, aws, rfl, .inl easl, fun J G wJ hGd => ?_⟩
            refine for_it wJ (fun n σ H' => Iv (Same H14 H' ∧ ∃ y10, σ = σA y9 y10)) (.of ⟨Same.refl _, _, rfl⟩) (fun _ _ _ _ hp => ?_) (fun n y σ H15 H16 hn hp hy => ?_) (fun σ H15 hp => ?_)
            · obtain ⟨s15, _⟩ := hp.get
              exact hGd _ ((s15 _ _ easl).trans easl.symm)
            · obtain ⟨s15, y10, rfl⟩ := hp.get
              obtain ⟨rfl, hy⟩ := hy
              obtain ⟨bq, aq, rfl, ebq, h1, h2⟩ := getA n y hy
              obtain ⟨op, i, j⟩ := aq
              exact ⟨_, rfl, _, rfl, _, rfl, _, rfl, _, rfl, A, A, al, pl, rl, bq, wl, _, ys, wvs, ms, op, i, j, rfl, hal, s15 _ _ epl, PL.same s15, s15 _ _ erl, RL.same s15, s15 _ _ ebq, h1, h2, s15 _ _ ewl, hwl, hwv, hU (Go.same s15), fun H' s16 => ⟨_, rfl, iteF (.of ⟨s15.trans s16, _, rfl⟩)⟩⟩
            · obtain ⟨s15, y10, rfl⟩ := hp.get
              exact ⟨s15, _, _, rfl⟩
          · rintro σ' H15 ⟨s15, y9, y10, rfl⟩
            refine ⟨fun σ' H' => Same H14 H' ∧ ∃ y9 y10, σ' = σA y9 y10, ?_, ?_⟩
            · refine ⟨2, rfl, by omega, by omega, ?_⟩
              refine for_it (walk_range (lo := 0)) (fun n σ H' => Iv (Same H14 H' ∧ ∃ y9 y10, σ = σA y9 y10)) (.of ⟨s15, _, _, rfl⟩) (fun _ _ _ _ _ => trivial) (fun n y σ H16 H17 hn hp hy => ?_) (fun σ H16 hp => ?_)
              · obtain ⟨s16, y9, y10, rfl⟩ := hp.get
                obtain ⟨rfl, rfl⟩ := hy
                have hn2 : n < ms.length := by have : n < 2 := hn; omega
                show gName 9 (V.int (0 + (n : Int))) _ _ _
                rw [Int.zero_add]
                obtain ⟨v, hv, rv, Mv⟩ := PL.2 n _ (List.getElem?_eq_getElem hn2)
                obtain ⟨x, hx, nx, rx⟩ := RL.2 n _ (List.getElem?_eq_getElem hn2)
                exact ⟨_, rfl, _, rfl, _, rfl, pl, _, _, _, rfl, rfl, SqL.of (s16 _ _ epl), atI_nat hv, _, rfl, _, rfl, rl, _, _, _, rfl, rfl, SqL.of (s16 _ _ erl), atI_nat hx, A, A, al, v, x, _, _, rfl, hal, MAt.ofD (rv.same s16), rx.same s16, hU (Go.same s16), fun H' s17 => ⟨_, rfl, iteF (.of ⟨s16.trans s17, _, _, rfl⟩)⟩⟩
              · obtain ⟨s16, y9, y10, rfl⟩ := hp.get
                exact ⟨s16, _, _, rfl⟩
            · rintro σ' H16 ⟨s16, y9, y10, rfl⟩
              have W16 := W14.go (Go.same s16)
              refine ⟨fun σ' H' => Go A H14 H' ∧ σ' = σA y9 y10, ?_, ?_⟩
              · exact ⟨_, rfl, _, rfl, _, rfl, A, A, al, rl, q3, ys, ms, rfl, hal, m3, W16, rlA, s16 _ _ erl, RL.same s16, fun H' g17 => ⟨_, rfl, iteF ⟨(Go.same s16).trans g17, rfl⟩⟩⟩
              · rintro σ' H17 ⟨g17, rfl⟩
                have W17 := W14.go g17
                have erl := g17.keep rl _ rlA erl
                have epl := g17.keep pl _ plA epl
                have ewl := g17.keep wl _ wlA ewl
                have easl := g17.keep asl _ aslA easl
                have RL := RL.keep g17.keep
                have PL := PL.keep g17.keep
                have hm0 : 0 < ms.length := by omega
                have hm1 : 1 < ms.length := by omega
                obtain ⟨v0', hv0, rv0, _⟩ := PL.2 0 _ (List.getElem?_eq_getElem hm0)
                obtain ⟨x0, hx0, _, rx0⟩ := RL.2 0 _ (List.getElem?_eq_getElem hm0)
                obtain ⟨v1', hv1, rv1, _⟩ := PL.2 1 _ (List.getElem?_eq_getElem hm1)
                obtain ⟨x1, hx1, _, rx1⟩ := RL.2 1 _ (List.getElem?_eq_getElem hm1)
                refine ⟨fun σ' H' => Same H17 H' ∧ σ' = σA y9 y10, ?_, ?_⟩
                · refine ⟨_, rfl, _, rfl, pl, _, _, _, rfl, rfl, SqL.of epl, atI_nat (j := 0) hv0, _, rfl, rl, _, _, _, rfl, rfl, SqL.of erl, atI_nat (j := 0) hx0, A, A, al, v0', x0, _, _, rfl, by omega, rv0, rx0, fun H18 s18 => ⟨_, rfl, iteF ?_⟩⟩
                  exact ⟨_, rfl, _, rfl, pl, _, _, _, rfl, rfl, SqL.of (s18 _ _ epl), atI_nat (j := 1) hv1, _, rfl, rl, _, _, _, rfl, rfl, SqL.of (s18 _ _ erl), atI_nat (j := 1) hx1, A, A, al, v1', x1, _, _, rfl, by omega, rv1.same s18, rx1.same s18, fun H19 s19 => ⟨_, rfl, iteF ⟨s18.trans s19, rfl⟩⟩⟩
                · rintro σ' H18 ⟨s18, rfl⟩
                  have W18 := W17.go (Go.same s18)
                  refine ⟨_, rfl, _, rfl, _, rfl, _, rfl, _, rfl, _, rfl, asl, _, rfl, .inl (SqL.of (s18 _ _ easl)), A, q3, _, rfl, m3, W18.src, by omega, by omega, fun z H19 hz0 hz1 g19 => ?_⟩
                  obtain ⟨Z, rfl⟩ : ∃ Z : Nat, z = (Z : Int) := ⟨z.toNat, by omega⟩
                  have hZ : Z < aws.length := by omega
                  have hy : aws[Z]? = some aws[Z] := List.getElem?_eq_getElem hZ
                  obtain ⟨bq, aq, ey, ebq, h1, h2⟩ := getA Z _ hy
                  rw [ey] at hy
                  have gg : Go A H14 H19 := (g17.trans (Go.same s18)).trans g19
                  have gh : Go A H17 H19 := (Go.same s18).trans g19
                  have ebq19 := gg.keep bq _ (fun z => by obtain ⟨c1, c2, c3, q⟩ := W14.src bq z; rw [ebq] at q; cases q) ebq
                  obtain ⟨op, i, j⟩ := aq
                  exact ⟨asl, _, _, _, rfl, rfl, SqL.of (gh.keep asl _ aslA easl), atI_nat hy, _, rfl, A, A, al, pl, rl, bq, wl, _, ys, wvs, ms, op, i, j, rfl, hal, gh.keep pl _ plA epl, PL.keep gh.keep, gh.keep rl _ rlA erl, RL.keep gh.keep, ebq19, h1, h2, gh.keep wl _ wlA ewl, hwl, hwv, hU gg, fun H' _ => k H'⟩
end

/-! ## what the top leaves, told by one run -/
section
open PySem.W PySem.Calls PyProof.Rows He
/-- a def's datum, as the run's end shows it -/
abbrev FnC : Type := Option (Str × Str × Arguments × FuncBody × Scope × Addr × List Str × Value × Addr)
def fnC (K : Frag) (f : Addr) : FnC := match K.lookup f with
  | some ⟨_, _, .func fd, _⟩ => some (fd.name, fd.qualname, fd.params, fd.body, fd.scope, fd.globals, fd.closure.map (·.1), fd.defaults, fd.builtins)
  | _ => none
/-- a def: where it stands, its name, its qualified name, its statement, its closure's names -/
structure DfV where
  at_ : Frag → Addr
  name : Str
  qual : Str
  st : Stmt
  clo : List Str := []
def DfV.val (d : DfV) : FnC := some (d.name, d.qual, C8.fnArgs d.st, .stmts (C8.fnBody d.st), C8.fnScope d.st, mainGlobals, d.clo, .none, builtinsNs)
def DfV.ok (K : Frag) (d : DfV) : Bool := keepIn K (.ref (d.at_ K)) && (match K.lookup (d.at_ K) with
  | some ⟨_, _, .func fd, _⟩ => codeIn K fd.code d.qual
  | _ => false)
theorem DfV.look {K : Frag} {d : DfV} (e : fnC K (d.at_ K) = d.val) (c : d.ok K = true) : keepIn K (.ref (d.at_ K)) = true ∧
    ∃ (oc : Value) (od : Option Addr) (cl : List (Str × Addr)) (kV doc pm : Value) (an : Option Addr) (cdv ct : Value) (osl : Array (Option Value)), cl.map (·.1) = d.clo ∧
      K.lookup (d.at_ K) = some ⟨oc, od, .func (fnX d.name d.qual (C8.fnArgs d.st) (C8.fnBody d.st) (C8.fnScope d.st) cl .none kV doc pm an cdv ct), osl⟩ ∧ codeIn K cdv d.qual = true := by
  obtain ⟨kp, c2⟩ := ba c
  refine ⟨kp, ?_⟩
  unfold fnC at e
  cases q : K.lookup (d.at_ K) with
  | none =>
    rw [q] at c2
    cases c2
  | some o =>
    obtain ⟨oc, od, dt, osl⟩ := o
    rw [q] at c2 e
    cases dt with
    | func fd =>
      obtain ⟨n1, n2, n3, n4, n5, n6, n7, n8, n9, n10, n11, n12, n13, n14, n15⟩ := fd
      have e2 : (some (n1, n2, n3, n4, n5, n6, n7.map (·.1), n8, n15) : FnC) = some (d.name, d.qual, C8.fnArgs d.st, .stmts (C8.fnBody d.st), C8.fnScope d.st, mainGlobals, d.clo, .none, builtinsNs) := e
      simp only [Option.some.injEq, Prod.mk.injEq] at e2
      obtain ⟨h1, h2, h3, h4, h5, h6, h7, h8, h9⟩ := e2
      subst h1 h2 h3 h4 h5 h6 h8 h9
      exact ⟨oc, od, n7, n9, n10, n11, n12, n13, n14, osl, h7, rfl, c2⟩
    | _ => cases c2
theorem DfV.fn {K : Frag} {d : DfV} (e : fnC K (d.at_ K) = d.val) (c : d.ok K = true) (hc : d.clo = []) : ∃ fd : FuncData, C8.Fun K d.name d.qual d.st (d.at_ K) fd ∧ fd.defaults = .none ∧ keepIn K (.ref (d.at_ K)) = true := by
  obtain ⟨kp, oc, od, cl, kV, doc, pm, an, cdv, ct, osl, h, lk, cd⟩ := DfV.look e c
  rw [hc] at h
  cases cl with
  | nil => exact ⟨_, ⟨oc, od, .none, kV, doc, pm, an, cdv, ct, osl, rfl, lk, cd⟩, rfl, kp⟩
  | cons _ _ => cases h
/-! ### the Hook -/
def asV (g : Addr → Option Obj) : Nat → List Addr
  | 0 => [mainGlobals, cStatics]
  | n + 1 => growD g (asV g n)
abbrev AlV : Type := Bool × List FnC
def obsV (fn : List DfV) (ex : Frag → Bool) (K : Frag) : AlV := (ex K && fn.all fun d => d.ok K, fn.map fun d => fnC K (d.at_ K))
def valV (fn : List DfV) : AlV := (true, fn.map DfV.val)
def SaysV (fn : List DfV) (ex : Frag → Bool) (K : Frag) : Prop := obsV fn ex K = valV fn
def obsVG (n : Nat) (fn : List DfV) (ex : Frag → Bool) (g : Addr → Option Obj) : AlV := obsV fn ex (frG g (asV g n))
def hookV (n : Nat) (fn : List DfV) (ex : Frag → Bool) : Hook where
  α := AlV
  obs := fun s => obsVG n fn ex s.heap.get?
  val := fun _ => valV fn
  says := fun _ h => ∃ K : Frag, K.In h ∧ SaysV fn ex K
  of := fun _ _ e => ⟨_, frG_in, e⟩
  keeps := fun _ _ _ ⟨K, hK, c⟩ k => ⟨K, Frag.In.keeps hK k, c⟩
theorem obsVG_eq {n : Nat} {fn : List DfV} {ex : Frag → Bool} {g : Addr → Option Obj} {s : Shared} (h : ∀ a, g a = s.heap.get? a) : obsVG n fn ex g = (hookV n fn ex).obs s := by
  have e : g = s.heap.get? := funext h
  rw [e] <;> rfl
theorem SaysV.ex {fn : List DfV} {ex : Frag → Bool} {K : Frag} (c : SaysV fn ex K) : ex K = true :=
  (ba (show (ex K && fn.all fun d => d.ok K) = true from congrArg (fun z : AlV => z.1) c)).1
theorem SaysV.at {fn : List DfV} {ex : Frag → Bool} {K : Frag} (c : SaysV fn ex K) (i : Nat) {d : DfV} (h : fn[i]? = some d := by rfl) : fnC K (d.at_ K) = d.val ∧ d.ok K = true := by
  have c2 := (ba (show (ex K && fn.all fun d => d.ok K) = true from congrArg (fun z : AlV => z.1) c)).2
  have e : fn.map (fun d => fnC K (d.at_ K)) = fn.map DfV.val := congrArg (fun z : AlV => z.2) c
  have e2 : (fn.map fun d => fnC K (d.at_ K))[i]? = (fn.map DfV.val)[i]? := by rw [e]
  rw [List.getElem?_map, List.getElem?_map, h] at e2
  exact ⟨Option.some.inj e2, List.all_eq_true.mp c2 d (List.mem_of_getElem? h)⟩
theorem SaysV.fn {fn : List DfV} {ex : Frag → Bool} {K : Frag} (c : SaysV fn ex K) (i : Nat) {d : DfV} (h : fn[i]? = some d) (hc : d.clo = []) : ∃ fd : FuncData, C8.Fun K d.name d.qual d.st (d.at_ K) fd ∧ fd.defaults = .none ∧ keepIn K (.ref (d.at_ K)) = true :=
  DfV.fn (c.at i h).1 (c.at i h).2 hc
/-- a def of the module -/
theorem SaysV.df {fn : List DfV} {ex : Frag → Bool} {K : Frag} {h : Heap} {mg : Str → Option Value} (c : SaysV fn ex K) (X : K.In h) (G : h.Ns mainGlobals mg) (i : Nat) {x : Str} {st : Stmt} (hi : fn[i]? = some ⟨fun K => ga K x, x, x, st, []⟩) (hg : (Fa.glo x).ok K = true) :
    ∃ fd : FuncData, C8.Def K mg x st (ga K x) fd ∧ fd.defaults = .none := by
  obtain ⟨fd, F, df, kp⟩ := c.fn i hi rfl
  exact ⟨fd, ⟨F, glo_ok X G hg, kp⟩, df⟩
/-! ### facts of an own exception over ValueError -/
def clsB (K : Frag) (C : Addr) : Bool := match K.lookup C with
  | some ⟨.type "type", _, .cls cd, sl⟩ => (match cd.mro, sl.toList with
    | .ref C' :: bm, [_, _, _, _, some (.builtin n), _] => C' == C && n == "ValueError.__new__" && !cd.hasDel && PySem.HandSPX.refsVE bm && cd.hasDict
    | _, _ => false)
  | _ => false
theorem clsB_ok {K : Frag} {C : Addr} (q : clsB K C = true) : ∃ nm q N bs bm sn sub ab col dd k0 k1 k2 k3 k5, K.lookup C = some (excClassObj nm q C N bs bm true sn sub ab col dd k0 k1 k2 k3 k5 "ValueError.__new__") ∧ PySem.HandSPX.refsVE bm = true := by
  unfold clsB at q
  split at q
  · rename_i dd cd sl ho
    split at q
    · rename_i C' bm k0 k1 k2 k3 n k5 hm hs
      simp only [Bool.and_eq_true, beq_iff_eq, Bool.not_eq_true'] at q
      obtain ⟨⟨⟨⟨rfl, rfl⟩, hdel⟩, ht⟩, hd⟩ := q
      obtain ⟨nm, bs, mro, ns, qn, hd', sn, sub, ab, col, del⟩ := cd
      dsimp only at hm hdel hd
      subst hm hdel hd
      have hsl : sl = #[k0, k1, k2, k3, some (.builtin "ValueError.__new__"), k5] := by
        obtain ⟨l⟩ := sl
        simp only at hs
        rw [hs]
      subst hsl
      exact ⟨nm, qn, ns, bs, bm, sn, sub, ab, col, dd, k0, k1, k2, k3, k5, ho, ht⟩
    · cases q
  · cases q
/-- the code's file, the cell __class__ -/
def cellB (K : Frag) (f D : Addr) (file : Str) : Bool := match K.lookup f with
  | some ⟨_, _, .func fd, _⟩ => (match fd.code, fd.closure with
    | .ref cda, [(_, cc)] => (match K.lookup cda, K.lookup cc with
      | some ⟨_, _, .fields vs, _⟩, some ⟨_, _, .cell (some (.ref D')), _⟩ => D' == D && (match (vs[2]? : Option Value) with
        | some (Value.str fl _) => file == fl
        | _ => false)
      | _, _ => false)
    | _, _ => false)
  | _ => false
def supB (K : Frag) (C D : Addr) (nm : Str) (file : Str) : Bool :=
  clsB K C && (eqO (findIn K (.ref C) "__setattr__") (some (some (.builtin "object.__setattr__"))) && (eqO (findIn K (.ref C) nm) (some none) && (eqO (findIn K (.ref C) "__init__") (some (some (.ref (ma K D "__init__")))) &&
  (decide (typeIn K (.ref (ma K D "__init__")) = some (.type "function")) && (keepIn K (.ref C) && (decide (subIn K (.ref C) (.type "BaseException") = some true) && (decide (typeIn K (.ref C) = some (.type "type")) && (decide (mroIn K C (.ref D) = some true) &&
  (eqO (ks_superIn K C D "__init__") (some (some (.builtin "ValueError.__init__"))) && (decide (subIn K (.ref C) (.type "ValueError") = some true) && (eqO (nsIn K cStatics "thirdparty.any") (some none) && ((clsIn K D).isSome && cellB K (ma K D "__init__") D file))))))))))))
theorem cellB_ok {K : Frag} {f D : Addr} {file : Str} (h : cellB K f D file = true) {oc : Value} {od : Option Addr} {nm ql : Str} {ar : Arguments} {bd : List Stmt} {sc : Scope} {cl : List (Str × Addr)} {kV doc pm : Value} {an : Option Addr} {cdv ct : Value} {osl : Array (Option Value)}
    (lk : K.lookup f = some ⟨oc, od, .func (fnX nm ql ar bd sc cl .none kV doc pm an cdv ct), osl⟩) (hc : cl.map (·.1) = [("__class__" : Str)]) : ∃ (cda cc : Addr) (vs : Array Value) (fl : Str) (tf : Tok) (ccl ccv : Value) (cdd cld : Option Addr) (ccs csl : Array (Option Value)),
      cdv = .ref cda ∧ cl = [(("__class__" : Str), cc)] ∧ K.lookup cda = some ⟨ccl, cdd, .fields vs, ccs⟩ ∧ vs[2]? = some (.str fl tf) ∧ (file == fl) = true ∧ K.lookup cc = some ⟨ccv, cld, .cell (some (.ref D)), csl⟩ := by
  unfold cellB at h
  rw [lk] at h
  dsimp only at h
  split at h
  · rename_i cda nn cc
    split at h
    · rename_i ccl cdd vs ccs ccv cld D' csl h1 h2
      obtain ⟨q1, q2⟩ := ba h
      split at q2
      · rename_i fl tf h3
        cases hc
        rw [beq_iff_eq.mp q1] at h2
        exact ⟨cda, cc, vs, fl, tf, ccl, ccv, cdd, cld, ccs, csl, rfl, rfl, h1, h3, q2, h2⟩
      · cases q2
    · cases h
  · cases h
end

/-! ## the facts of own exceptions, as a Bool -/
namespace SupX
open PySem.W PySem.Calls PyProof.Rows PySem.HandSPX
section
variable {P : Program} {w : World}
theorem argOk_str {nm x : Str} {k : Nat} {pos : Pos} : ArgOk P w nm (.Constant (.str x) k pos) (fun _ => True) :=
  ⟨fun _ => rfl, fun _ _ _ _ _ _ _ _ _ _ _ _ h => Constant_str (h _ _)⟩
/-- f'..{nm}' of an int -/
theorem argOk_fstr {nm x : Str} {k : Nat} {p1 p2 p3 p4 : Pos} (hd : (nm == ("__debug__" : Str)) = false) (hx : x.length ≤ 1000) : ArgOk P w nm (.JoinedStr [.Constant (.str x) k p1, .FormattedValue (.Name nm p2) (-1) none p3] p4) (fun v => ∃ (i : Int) (t : Tok), v = .int i t ∧ i.natAbs.log2 < 1920) := by
  refine ⟨fun _ => rfl, fun A E s env m v Q hk hn G hm hv h => ?_⟩
  obtain ⟨i, t, rfl, hi⟩ := hv
  refine wpAny_JoinedStr ?_
  have e0 : evalEach [Expr.Constant (.str x) k p1, .FormattedValue (.Name nm p2) (-1) none p3] env = [eval (.Constant (.str x) k p1) env, eval (.FormattedValue (.Name nm p2) (-1) none p3) env] := by first | rfl | simp [evalEach]
  rw [e0]
  have hz : (Str.empty ++ x).length ≤ sizeLine := by
    have e : (Str.empty ++ x).length = x.length := by
      rw [strLen_append]
      exact Nat.zero_add _
    rw [e]
    exact Nat.le_trans hx (by decide)
  have hz2 : (Str.empty ++ x ++ toString i).length ≤ sizeLine := by
    have e : (Str.empty ++ x).length = x.length := by
      rw [strLen_append]
      exact Nat.zero_add _
    have e2 := int_text_length_le (k := 1920) (by decide) hi
    have e3 : (Str.empty ++ x ++ (Str.ofString (toString i))).length = x.length + (toString i).length := by
      rw [strLen_append, e, PySem.ofString_length]
    show (Str.empty ++ x ++ (Str.ofString (toString i))).length ≤ sizeLine
    rw [e3, sizeLine_eq]
    omega
  refine Constant_str ⟨x, _, rfl, hz, ?_⟩
  refine wpAny_FormattedValue_plain ?_
  refine wpAny_Name (wpAny_loadName_local hk hn G hm ?_) hd
  refine wpAny_formatField_int hi ⟨toString i, _, rfl, hz2, ?_⟩
  exact ⟨hz2, h _ _⟩
end
end SupX
namespace SupX
open PySem.W PySem.Calls PyProof.Rows PySem.HandSPX
section
variable {P : Program} {w : World}
/-- f'..{nm}' of a text -/
theorem argOk_fstrS {nm x : Str} {k : Nat} {p1 p2 p3 p4 : Pos} (hd : (nm == ("__debug__" : Str)) = false) (hx : x.length ≤ 1000) : ArgOk P w nm (.JoinedStr [.Constant (.str x) k p1, .FormattedValue (.Name nm p2) (-1) none p3] p4) (fun v => ∃ (z : Str) (t : Tok), v = .str z t ∧ z.length ≤ 1000) := by
  refine ⟨fun _ => rfl, fun A E s env m v Q hk hn G hm hv h => ?_⟩
  obtain ⟨z, t, rfl, hi⟩ := hv
  refine wpAny_JoinedStr ?_
  have e0 : evalEach [Expr.Constant (.str x) k p1, .FormattedValue (.Name nm p2) (-1) none p3] env = [eval (.Constant (.str x) k p1) env, eval (.FormattedValue (.Name nm p2) (-1) none p3) env] := by first | rfl | simp [evalEach]
  rw [e0]
  have e : (Str.empty ++ x).length = x.length := by
    rw [strLen_append]
    exact Nat.zero_add _
  have hz : (Str.empty ++ x).length ≤ sizeLine := by
    rw [e]
    exact Nat.le_trans hx (by decide)
  have hz2 : (Str.empty ++ x ++ z).length ≤ sizeLine := by
    rw [strLen_append, e]
    exact Nat.le_trans (Nat.add_le_add hx hi) (by decide)
  refine Constant_str ⟨x, _, rfl, hz, ?_⟩
  refine wpAny_FormattedValue_plain ?_
  refine wpAny_Name (wpAny_loadName_local hk hn G hm ?_) hd
  refine wpAny_formatField_str ⟨z, _, rfl, hz2, ⟨hz2, h _ _⟩⟩ ⟨z, _, rfl, hz2, ⟨hz2, h _ _⟩⟩ (Nat.le_trans hi (by decide))
end
end SupX

/-! ### the facts, as a Bool -/
section
open PySem.W He
def excCB (K : Frag) (D : Addr) : Bool :=
  eqO (findIn K (.ref D) "__getattribute__") (some (some (.builtin "BaseException.__getattribute__"))) && (eqO (findIn K (.ref D) "__getattr__") (some none) && (decide (subIn K (.ref D) (.type "BaseException") = some true) && (hasDictIn K D &&
  (eqO (findIn K (.ref D) "__class__") (some (some (.builtin "object.__class__"))) && (eqO (specialIn K (.builtin "object.__class__") "__get__") (some (some (.builtin "getset_descriptor.__get__"))) && (decide (takesIn K (.builtin "object.__class__") = some true) && decide (mroIn K D (.type "object") = some true)))))))
theorem excCB_ok {K : Frag} {D : Addr} (h : excCB K D = true) : ExcC K D ∧ XfC K D := by
  obtain ⟨h1, h⟩ := ba h
  obtain ⟨h2, h⟩ := ba h
  obtain ⟨h3, h⟩ := ba h
  obtain ⟨h4, h⟩ := ba h
  obtain ⟨h5, h⟩ := ba h
  obtain ⟨h6, h⟩ := ba h
  obtain ⟨h7, h8⟩ := ba h
  exact ⟨⟨eqO_ok h1, eqO_ok h2, of_decide_eq_true h3, h4, eqO_ok h5, eqO_ok h6, of_decide_eq_true h7, of_decide_eq_true h8⟩, ⟨eqO_ok h1, eqO_ok h2, of_decide_eq_true h3, h4⟩⟩
def errB (K : Frag) (ad : Ad) (e : Wr) : Bool :=
  excCB K (e.er.cls ad) && (eqO (findIn K (.ref (e.er.cls ad)) "what") (some none) && (decide (kitOne K (.ref (e.er.cls ad)) (.type "ValueError") = some true) &&
  (([Wr.many, .unlike].all fun e2 => decide (kitOne K (.ref (e.er.cls ad)) (.ref (e2.er.cls ad)) = some (e.is e2))) &&
  (decide (kitAny K (.ref (e.er.cls ad)) [.ref ad.NoName, .ref ad.WrongItem, .ref ad.WrongThing] = some false) && decide (exmOne K (.ref (e.er.cls ad)) (.ref ad.LotsError) = some true)))))
theorem errB_ok {K : Frag} {ad : Ad} {e : Wr} (h : errB K ad e = true) : ErC K ad e := by
  obtain ⟨h1, h⟩ := ba h
  obtain ⟨h2, h⟩ := ba h
  obtain ⟨h3, h⟩ := ba h
  obtain ⟨h6, h⟩ := ba h
  obtain ⟨h7, h8⟩ := ba h
  exact ⟨(excCB_ok h1).1, (excCB_ok h1).2, eqO_ok h2, of_decide_eq_true h3, fun e2 => of_decide_eq_true (List.all_eq_true.mp h6 e2 (by cases e2 <;> simp)), of_decide_eq_true h7, of_decide_eq_true h8⟩
/-- Reader, as the walks ask of it -/
def rdB (K : Frag) (C : Addr) : Bool :=
  plainGet K C Str.empty && (hasDictIn K C && (plainOver K C && (eqO (findIn K (.ref C) "__setattr__") (some (some (.builtin "object.__setattr__"))) && (eqO (findIn K (.ref C) "alphabet") (some none) && (eqO (findIn K (.ref C) "moves") (some none) && (eqO (findIn K (.ref C) "good") (some none) &&
  (eqO (findIn K (.ref C) "__class__") (some (some (.builtin "object.__class__"))) && (eqO (specialIn K (.builtin "object.__class__") "__get__") (some (some (.builtin "getset_descriptor.__get__"))) && (decide (takesIn K (.builtin "object.__class__") = some true) && (decide (mroIn K C (.type "object") = some true) && (decide (kitOne K (.ref C) (.ref C) = some true) &&
  (notFirst K C (.ref C) && (notFirst K C (.type "tuple") && (notFirst K C (.type "str") && (decide (kitOne K (.type "tuple") (.ref C) = some false) && (decide (kitOne K (.type "str") (.ref C) = some false) &&
  (eqO (findIn K (.ref C) "__ne__") (some (some (.builtin "object.__ne__"))) && (decide (kitOne K (.ref C) (.type "list") = some false) && selfFirst K C))))))))))))))))))
theorem rdB_ok {K : Frag} {C : Addr} (h : rdB K C = true) : RdC K C ∧ RdI K C ∧ RdQ K C ∧ NeC K C ∧ kitOne K (.ref C) (.type "list") = some false ∧ selfFirst K C = true := by
  obtain ⟨h1, h⟩ := ba h
  obtain ⟨h2, h⟩ := ba h
  obtain ⟨h3, h⟩ := ba h
  obtain ⟨h4, h⟩ := ba h
  obtain ⟨h5, h⟩ := ba h
  obtain ⟨h6, h⟩ := ba h
  obtain ⟨h7, h⟩ := ba h
  obtain ⟨h8, h⟩ := ba h
  obtain ⟨h9, h⟩ := ba h
  obtain ⟨h10, h⟩ := ba h
  obtain ⟨h11, h⟩ := ba h
  obtain ⟨h12, h⟩ := ba h
  obtain ⟨h13, h⟩ := ba h
  obtain ⟨h14, h⟩ := ba h
  obtain ⟨h15, h⟩ := ba h
  obtain ⟨h16, h⟩ := ba h
  obtain ⟨h17, h⟩ := ba h
  obtain ⟨h18, h⟩ := ba h
  obtain ⟨h19, h20⟩ := ba h
  exact ⟨⟨⟨h1, h2, h3, eqO_ok h4⟩, eqO_ok h5, eqO_ok h6, eqO_ok h7⟩, ⟨eqO_ok h8, eqO_ok h9, of_decide_eq_true h10, of_decide_eq_true h11, of_decide_eq_true h12⟩, ⟨h13, h14, h15, of_decide_eq_true h16, of_decide_eq_true h17⟩, ⟨eqO_ok h18, of_decide_eq_true h11⟩, of_decide_eq_true h19, h20⟩
/-- a staticmethod's record, its def -/
def stR (K : Frag) (C : Addr) (m : Str) : Addr := ma K C m
def stF (K : Frag) (C : Addr) (m : Str) : Addr := match recIn K (stR K C m) "staticmethod" with
  | some (.ref g :: _) => g
  | _ => 0
def stB (K : Frag) (C : Addr) (m : Str) : Bool := readsIn K C (.type "type") && (eqO (specialIn K (.ref C) "__getattribute__") (some (some (.builtin "type.__getattribute__"))) &&
  ((match findCls K (.ref C) (.type "type") m with
    | some (.get (.builtin b) (.ref p) .none (.ref C')) => b == "staticmethod.__get__" && (p == stR K C m && C' == C)
    | _ => false) && (match recIn K (stR K C m) "staticmethod" with
    | some (.ref _ :: _) => true
    | _ => false)))
theorem stB_ok {K : Frag} {C : Addr} {m : Str} (h : stB K C m = true) : ClX.CRead K C (.type "type") ∧ findCls K (.ref C) (.type "type") m = some (.get (.builtin "staticmethod.__get__") (.ref (stR K C m)) .none (.ref C)) ∧ ∃ rest, recIn K (stR K C m) "staticmethod" = some (.ref (stF K C m) :: rest) := by
  obtain ⟨h1, h⟩ := ba h
  obtain ⟨h2, h⟩ := ba h
  obtain ⟨h3, h4⟩ := ba h
  refine ⟨⟨h1, eqO_ok h2⟩, ?_, ?_⟩
  · split at h3
    · rename_i b p C' e
      obtain ⟨q1, q⟩ := ba h3
      obtain ⟨q2, q3⟩ := ba q
      rw [e, beq_iff_eq.mp q1, beq_iff_eq.mp q2, beq_iff_eq.mp q3]
    · cases h3
  · split at h4
    · rename_i g rest e
      refine ⟨rest, ?_⟩
      unfold stF
      rw [e]
    · cases h4
end

/-! ## the law's call, its promise knowing of the stack -/
section
open PyProof.Rows PySem.W
/-- a heap that shows the script alone -/
structure Shows (P : Program) (w : World) (K : Frag) (h : Heap) (a : Addr) (o : Obj) (ns : List Int) (H : Hp) : Prop where
  one : ∀ b u, H b = some u → b = a ∧ ∃ xs, u = .frz o (.lst xs)
  ok : HOk P w H h
  sq : SqL K H a (ns.map V.int)
  out : ∀ u, H a = some u → K.lookup a = none
theorem shows_of {P : Program} {w : World} {K : Frag} {h : Heap} {a : Addr} {vs : List Value} {ns : List Int} (X : K.In h) (ha : h.get? a = some { cls := .type "list", data := .seq vs.toArray }) (hi : IntsAre vs ns) (hl : ns.length ≤ sizeLine) :
    ∃ H : Hp, Shows P w K h a { cls := .type "list", data := .seq vs.toArray } ns H := by
  have hr := vals_ints hi
  have hn := hi.length
  cases q : K.lookup a with
  | some o =>
    have e := (X a o q).symm.trans ha
    cases e
    exact ⟨fun _ => none, fun b u z => (by cases z), fun b u z => (by cases z), .inr ⟨_, vs.toArray, _, q, rfl, rfl, rfl, by rw [List.size_toArray, hn]; exact hl, hr⟩, fun u z => (by cases z)⟩
  | none =>
    have at_a : ∀ {b : Addr} {u : HO}, (if b = a then some (HO.frz { cls := .type "list", data := .seq vs.toArray } (.lst (ns.map V.int))) else none) = some u → b = a ∧ u = .frz { cls := .type "list", data := .seq vs.toArray } (.lst (ns.map V.int)) := fun {b u} z => by
      by_cases hb : b = a
      · rw [if_pos hb] at z
        cases z
        exact ⟨hb, rfl⟩
      · rw [if_neg hb] at z
        cases z
    refine ⟨fun b => if b = a then some (.frz { cls := .type "list", data := .seq vs.toArray } (.lst (ns.map V.int))) else none, fun b u z => ⟨(at_a z).1, _, (at_a z).2⟩, fun b u z => ?_, .inl (.inr ⟨_, if_pos rfl⟩), fun _ _ => q⟩
    obtain ⟨rfl, rfl⟩ := at_a z
    exact ⟨ha, by rw [List.length_map]; exact hl, vs, _, hr, ha⟩
variable {P : Program} {w : World} {K : Frag} {mg mb : Str → Option Value} {Z : Around → Prop} {k : Nat} {f a : Addr} {x : Str} {sp : Sp} {s : Shared} {vs : List Value} {ns : List Int}
theorem call_of_promise (hz : Z callerA) (X : K.In s.heap) (G : s.heap.Ns mainGlobals mg) (B : s.heap.Ns builtinsNs mb) (hB : ∀ x : Str, x ≠ "__name__" → mb x = bootBuiltins x) (L : s.heap.NoLimit) (hg : s.gens = #[])
    (ha : s.heap.get? a = some { cls := .type "list", data := .seq vs.toArray }) (hi : IntsAre vs ns) (hl : ns.length ≤ sizeLine) (hr : Room k callerA)
    (hm : mg x = some (.ref f)) (F : ∀ base : Heap, K.In base → base.Ns mainGlobals mg → CalZ Z P w K mg base k x sp)
    (hsp : ∀ H : Hp, SqL K H a (ns.map V.int) → sp [.ref a] H (fun v _ => v = .bl true) fun _ _ _ => False) :
    codeAny (model P w) callerA (.call (.ref f) ⟨[.ref a], []⟩) (fun r s' => r = .ok (.ret (.bool true)) ∧ OldK s.heap s'.heap ∧ s'.os = s.os ∧ AllBare s'.gens) s := by
  obtain ⟨H, S⟩ := shows_of (P := P) (w := w) X ha hi hl
  have kept : ∀ {b : Addr} {o : Obj}, s.heap.get? b = some o → (∀ u, H b ≠ some u) → (hidT s.heap H).get? b = some o := fun {b o} e n => hidT_get e (by
    cases q : H b with
    | none => rfl
    | some u => exact absurd q (n u))
  have space : ∀ {b : Addr} {m : Str → Option Value}, s.heap.Ns b m → (hidT s.heap H).Ns b m := by
    rintro b m ⟨o, es, ep, e, d, r⟩
    refine ⟨o, es, ep, kept e fun u q => ?_, d, r⟩
    obtain ⟨rfl, _⟩ := S.one b u q
    rw [ha] at e
    cases e
    cases (show Data.seq vs.toArray _ = Data.dict es ep from d)
  have inK : K.In (hidT s.heap H) := fun b o e => kept (X b o e) fun u q => by
    obtain ⟨rfl, _⟩ := S.one b u q
    rw [S.out u q] at e
    cases e
  obtain ⟨ml, l1, l2⟩ := L
  have md : Mod K mg (hidT s.heap H) := ⟨inK, space G, ⟨mb, space B, hB⟩, ⟨ml, space l1, l2⟩⟩
  have en : Env0 P w K mg (hidT s.heap H) callerA [] s H := ⟨rfl, md, fun b o e => of_hidT e, Nat.le_of_eq (hidT_size _ _), trivial, fun b hb => (List.not_mem_nil (show b ∈ ([] : List Addr) from hb)).elim, S.ok, .of_eq hg⟩
  obtain ⟨f', fd, ps, F', hm', _, bd⟩ := (F _ inK (space G)).ex
  rw [hm] at hm'
  cases hm'
  have hlen := F'.len _ _ _ _ (hsp H S.sq)
  have bd' := bd s [.ref a] X (by simpa using hlen)
  rw [List.append_nil] at bd'
  have run := F'.run callerA [] s H ⟨[.ref a], []⟩ [.ref a] [.ref a] _ _ hz hr en bd' (.cons rfl .nil) (hsp H S.sq)
  refine codeAny_mono run fun r s' q => ?_
  match r, q with
  | .error e, ⟨_, _, _, _, _, _, _, _, _, _, _, _, z⟩ => exact z.elim
  | .ok .next, z => exact z.elim
  | .ok .brk, z => exact z.elim
  | .ok .cont, z => exact z.elim
  | .ok (.ret u), ⟨v, H', os, bare, un, hok', rv, hv⟩ =>
    have hv : v = .bl true := hv
    subst hv
    obtain rfl : u = Value.bool true := rv
    refine ⟨rfl, OldK.of_keep fun b o e => ?_, os, bare⟩
    cases q : H b with
    | none => exact un.keep b o e q (fun z => (List.not_mem_nil (show b ∈ ([] : List Addr) from z)).elim) (by simp)
    | some u =>
      obtain ⟨_, xs, rfl⟩ := S.one b u q
      have z2 := un.frzs b _ _ q
      have e1 := (S.ok b _ q).1
      rw [e] at e1
      cases e1
      exact (hok' b _ z2).1
/-- the law's goal, from such a promise and what the head tells -/
theorem walk_of_promise {l : OpenLaw} {n : Nat} {q : Program} {loose : List Str} {XP : (Str → Option Value) → Heap → Prop} {YP : World → Heap → Prop} {d : DefRec} {x : Str} (hz : Z callerA)
    (hn : l.most = some n) (hn2 : n ≤ sizeLine) (hdf : d.params.defaults = []) (hr : Room k callerA)
    (F : ∀ (w : World) (mg : Str → Option Value) (fa : Addr) (h : Heap), YP w h → h.Ns mainGlobals mg → mg d.name = some (.ref fa) → ∃ (K : Frag) (sp : Sp), K.In h ∧ mg x = some (.ref fa) ∧
      (∀ (H : Hp) (a : Addr) (ns : List Int), ns.length ≤ n → (∀ z ∈ ns, Builtin.Int.intBits z ≤ 1048576) → SqL K H a (ns.map V.int) → sp [.ref a] H (fun v _ => v = .bl true) fun _ _ _ => False) ∧
      ∀ base : Heap, K.In base → base.Ns mainGlobals mg → CalZ Z l.prog w K mg base k x sp) : WalkO q loose XP YP l.row.toRowW d [] (fun f vs => PySem.call f vs) := by
  refine Att.attach_callB hn hdf fun w s₀ s1 mg mb fa o pm cd doc a vs ns G Y ho hd hcd hmg hobj hints hlen hbits hg => ?_
  obtain ⟨K, sp, KX, hm, hsp, hF⟩ := F w mg fa _ Y G.T.g hmg
  exact call_of_promise hz KX G.T.g G.T.b G.T.builtins G.T.nolimit hg hobj hints (Nat.le_trans hlen hn2) hr hm hF fun H hS => hsp H a ns hlen hbits hS
end

/-! ### all facts, the law's promise -/
def fnV0 : List DfV := [⟨fun K => He.ga K "_law_pick", "_law_pick", "_law_pick", top 37, []⟩,
  ⟨fun K => He.ga K "_law_source", "_law_source", "_law_source", top 36, []⟩,
  ⟨fun K => He.ga K "_law_alphabet", "_law_alphabet", "_law_alphabet", top 38, []⟩,
  ⟨fun K => He.ga K "_law_word", "_law_word", "_law_word", top 39, []⟩,
  ⟨fun K => He.ga K "_law_reader", "_law_reader", "_law_reader", top 40, []⟩,
  ⟨fun K => He.ga K "is_integer", "is_integer", "is_integer", top 14, []⟩,
  ⟨fun K => He.ga K "is_listed", "is_listed", "is_listed", top 15, []⟩,
  ⟨fun K => He.ga K "is_alphabet", "is_alphabet", "is_alphabet", top 16, []⟩,
  ⟨fun K => He.ga K "check_alphabet", "check_alphabet", "check_alphabet", top 17, []⟩,
  ⟨fun K => He.ga K "text_fault", "text_fault", "text_fault", top 18, []⟩,
  ⟨fun K => He.ga K "check_text", "check_text", "check_text", top 19, []⟩,
  ⟨fun K => He.ga K "checked_moves", "checked_moves", "checked_moves", top 27, []⟩,
  ⟨fun K => He.ga K "checked_good", "checked_good", "checked_good", top 28, []⟩,
  ⟨fun K => He.ma K (He.ga K "Reader") "__init__", "__init__", "Reader.__init__", sub 29 0, []⟩,
  ⟨fun K => He.ga K "room_of", "room_of", "room_of", top 30, []⟩,
  ⟨fun K => He.ga K "_law_room", "_law_room", "_law_room", top 41, []⟩,
  ⟨fun K => He.ma K (He.ga K "Reader") "room", "room", "Reader.room", sub 29 3, []⟩,
  ⟨fun K => He.ma K (He.ga K "Reader") "__contains__", "__contains__", "Reader.__contains__", sub 29 4, []⟩,
  ⟨fun K => He.ma K (He.ga K "Reader") "__len__", "__len__", "Reader.__len__", sub 29 5, []⟩,
  ⟨fun K => He.ma K (He.ga K "Reader") "__eq__", "__eq__", "Reader.__eq__", sub 29 6, []⟩]
def fnV1 : List DfV := [⟨fun K => stF K (He.ga K "Reader") "full", "full", "Reader.full", sub 29 1, []⟩,
  ⟨fun K => stF K (He.ga K "Reader") "bare", "bare", "Reader.bare", sub 29 2, []⟩,
  ⟨fun K => He.ga K "_law_is_number", "_law_is_number", "_law_is_number", top 45, []⟩,
  ⟨fun K => He.ga K "_law_is_reader", "_law_is_reader", "_law_is_reader", top 44, []⟩,
  ⟨fun K => He.ga K "reached_rooms", "reached_rooms", "reached_rooms", top 22, []⟩,
  ⟨fun K => He.ga K "room_classes", "room_classes", "room_classes", top 23, []⟩,
  ⟨fun K => He.ga K "least_table", "least_table", "least_table", top 24, []⟩,
  ⟨fun K => He.ga K "good_marks", "good_marks", "good_marks", top 31, []⟩,
  ⟨fun K => He.ga K "reader_of_table", "reader_of_table", "reader_of_table", top 32, []⟩,
  ⟨fun K => He.ga K "_law_room", "_law_room", "_law_room", top 41, []⟩,
  ⟨fun K => He.ga K "_law_within", "_law_within", "_law_within", top 42, []⟩,
  ⟨fun K => He.ga K "_law_stays", "_law_stays", "_law_stays", top 59, []⟩,
  ⟨fun K => He.ga K "_law_in_order", "_law_in_order", "_law_in_order", top 47, []⟩,
  ⟨fun K => He.ga K "_law_classes", "_law_classes", "_law_classes", top 48, []⟩,
  ⟨fun K => He.ga K "_law_tells", "_law_tells", "_law_tells", top 49, []⟩,
  ⟨fun K => He.ga K "joint_table", "joint_table", "joint_table", top 25, []⟩,
  ⟨fun K => He.ga K "check_same_letters", "check_same_letters", "check_same_letters", top 33, []⟩,
  ⟨fun K => He.ga K "met", "met", "met", top 34, []⟩,
  ⟨fun K => He.ma K (He.ga K "Reader") "__and__", "__and__", "Reader.__and__", sub 29 7, []⟩,
  ⟨fun K => He.ma K (He.ga K "Reader") "__or__", "__or__", "Reader.__or__", sub 29 8, []⟩]
def fnV2 : List DfV := [⟨fun K => He.ma K (He.ga K "Reader") "__sub__", "__sub__", "Reader.__sub__", sub 29 9, []⟩,
  ⟨fun K => He.ma K (He.ga K "Reader") "__invert__", "__invert__", "Reader.__invert__", sub 29 10, []⟩,
  ⟨fun K => He.ga K "_law_words", "_law_words", "_law_words", top 46, []⟩,
  ⟨fun K => He.ga K "_law_done", "_law_done", "_law_done", top 50, []⟩,
  ⟨fun K => He.ga K "_law_due", "_law_due", "_law_due", top 51, []⟩,
  ⟨fun K => He.ga K "_law_joint", "_law_joint", "_law_joint", top 52, []⟩,
  ⟨fun K => He.ga K "_law_holds", "_law_holds", "_law_holds", top 53, []⟩,
  ⟨fun K => He.ga K "_law_line", "_law_line", "_law_line", top 43, []⟩,
  ⟨fun K => He.ga K "_law_changed", "_law_changed", "_law_changed", top 54, []⟩,
  ⟨fun K => He.ga K "_law_some", "_law_some", "_law_some", top 55, []⟩,
  ⟨fun K => He.ga K "_law_rings", "_law_rings", "_law_rings", top 56, []⟩,
  ⟨fun K => He.ga K "_law_thin", "_law_thin", "_law_thin", top 57, []⟩,
  ⟨fun K => He.ga K "_law_both", "_law_both", "_law_both", top 58, []⟩,
  ⟨fun K => He.ga K "_law_asked", "_law_asked", "_law_asked", top 62, []⟩,
  ⟨fun K => He.ga K "_law_turned", "_law_turned", "_law_turned", top 61, []⟩,
  ⟨fun K => He.ga K "_law_strange", "_law_strange", "_law_strange", top 60, []⟩,
  ⟨fun K => He.ga K "law", "law", "law", top 63, []⟩,
  ⟨fun K => He.ma K (He.ga K "TooMany") "__init__", "__init__", "TooMany.__init__", sub 8 0, ["__class__"]⟩,
  ⟨fun K => He.ma K (He.ga K "Unlike") "__init__", "__init__", "Unlike.__init__", sub 9 0, ["__class__"]⟩,
  ⟨fun K => He.ma K (He.ga K "WrongItem") "__init__", "__init__", "WrongItem.__init__", sub 4 0, ["__class__"]⟩]
def fnV3 : List DfV := [⟨fun K => He.ma K (He.ga K "WrongThing") "__init__", "__init__", "WrongThing.__init__", sub 2 0, ["__class__"]⟩]
def fnV : List DfV := fnV0 ++ fnV1 ++ fnV2 ++ fnV3
def faV0 : List He.Fa := [.free "len", .free "int", .free "abs", .free "range", .free "isinstance", .free "repr", .free "str", .free "tuple", .free "list", .free "all", .free "any", .free "enumerate", .free "ValueError", .free "bool", .free "min", .free "set", .free "max", .free "sum", .free "sorted", .free "super", .glo "LotsError", .glo "WrongThing", .glo "BadAlphabet", .glo "WrongItem", .glo "BadText", .glo "BadMoves", .glo "BadGood", .glo "TooMany", .glo "Unlike", .glo "NoName"]
def faV1 : List He.Fa := [.glo "Reader", .glo "_law_pick", .glo "_law_source", .glo "_law_alphabet", .glo "_law_word", .glo "_law_reader", .glo "is_integer", .glo "is_listed", .glo "is_alphabet", .glo "check_alphabet", .glo "text_fault", .glo "check_text", .glo "checked_moves", .glo "checked_good", .glo "room_of", .glo "_law_room", .glo "_law_is_number", .glo "_law_is_reader", .glo "reached_rooms", .glo "room_classes", .glo "least_table", .glo "good_marks", .glo "reader_of_table", .glo "_law_room", .glo "_law_within", .glo "_law_stays", .glo "_law_in_order", .glo "_law_classes", .glo "_law_tells", .glo "joint_table"]
def faV2 : List He.Fa := [.glo "check_same_letters", .glo "met", .glo "_law_words", .glo "_law_done", .glo "_law_due", .glo "_law_joint", .glo "_law_holds", .glo "_law_line", .glo "_law_changed", .glo "_law_some", .glo "_law_rings", .glo "_law_thin", .glo "_law_both", .glo "_law_asked", .glo "_law_turned", .glo "_law_strange", .glo "law", .str "SMALL" SMALLS, .int "TEXT_LETTERS" 40, .int "MOST_ROOMS" 60, .mkr "Reader", .meth "Reader" "room", .meth "Reader" "__contains__", .meth "Reader" "__len__", .meth "Reader" "__eq__", .meth "Reader" "__and__", .meth "Reader" "__or__", .meth "Reader" "__sub__", .meth "Reader" "__invert__"]
def faV : List He.Fa := faV0 ++ faV1 ++ faV2
def adV (K : PySem.W.Frag) : Ad := ⟨He.ga K "LotsError", He.ga K "WrongThing", He.ga K "BadAlphabet", He.ga K "WrongItem", He.ga K "BadText", He.ga K "BadMoves", He.ga K "BadGood", He.ga K "TooMany", He.ga K "Unlike", He.ga K "NoName", He.ga K "Reader"⟩
abbrev PP : Program := PySem.Challenge.pw_vouchedlots_k09_whole_joins
def exV (K : PySem.W.Frag) : Bool := (faV.all fun f => f.ok K) && (supB K ((Er.alphabet).cls (adV K)) (He.ga K "WrongThing") "thing" PP.main.file && (supB K ((Er.text).cls (adV K)) (He.ga K "WrongItem") "at" PP.main.file && (supB K ((Er.moves).cls (adV K)) (He.ga K "WrongItem") "at" PP.main.file && (supB K ((Er.good).cls (adV K)) (He.ga K "WrongItem") "at" PP.main.file && (supB K ((Er.many).cls (adV K)) (He.ga K "TooMany") "what" PP.main.file && (supB K ((Er.unlike).cls (adV K)) (He.ga K "Unlike") "what" PP.main.file && (rdB K (He.ga K "Reader") && (errB K (adV K) .many && (errB K (adV K) .unlike && (stB K (He.ga K "Reader") "full" && (stB K (He.ga K "Reader") "bare")))))))))))
theorem fa_at {K : PySem.W.Frag} (h : (faV.all fun f => f.ok K) = true) (i : Nat) {f : He.Fa} (hi : faV[i]? = some f) : f.ok K = true := List.all_eq_true.mp h f (List.mem_of_getElem? hi)
theorem sup_TooMany {w : World} {K : PySem.W.Frag} {h : Heap} {mg : Str → Option Value} (c : SaysV fnV exV K) (hs : mg "super" = none) {C : Addr} (hB : supB K C (He.ga K "TooMany") "what" PP.main.file = true) :
    ∃ (D fI : Addr) (arg : Expr) (ok : Value → Prop), SupX.SupTxt PP w K mg C D fI "what" arg ok ∧ ∀ v u, RelV v u → (∃ x : Str, v = .str x ∧ x.length ≤ 1000) → ok u := by
  obtain ⟨b1, hB⟩ := He.ba hB
  obtain ⟨b2, hB⟩ := He.ba hB
  obtain ⟨b3, hB⟩ := He.ba hB
  obtain ⟨b4, hB⟩ := He.ba hB
  obtain ⟨b5, hB⟩ := He.ba hB
  obtain ⟨b6, hB⟩ := He.ba hB
  obtain ⟨b7, hB⟩ := He.ba hB
  obtain ⟨b8, hB⟩ := He.ba hB
  obtain ⟨b9, hB⟩ := He.ba hB
  obtain ⟨b10, hB⟩ := He.ba hB
  obtain ⟨b11, hB⟩ := He.ba hB
  obtain ⟨b12, hB⟩ := He.ba hB
  obtain ⟨b13, b14⟩ := He.ba hB
  obtain ⟨e, o⟩ := c.at 57 rfl
  obtain ⟨kp, oc, od, cl, kV, doc, pm, an, cdv, ct, osl, hcl, lk, cd⟩ := DfV.look e o
  obtain ⟨cda, cc, vs, fl, tf, ccl, ccv, cdd, cld, ccs, csl, rfl, rfl, h1, h2, h3, h4⟩ := cellB_ok b14 lk hcl
  refine ⟨_, _, _, _, ⟨clsB_ok b1, He.eqO_ok b2, He.eqO_ok b3, He.eqO_ok b4, of_decide_eq_true b5, b6, of_decide_eq_true b7, of_decide_eq_true b8, of_decide_eq_true b9, He.eqO_ok b10, of_decide_eq_true b11, He.eqO_ok b12, hs, b13, by decide +kernel, by decide, by decide, rfl, rfl, rfl, by decide, SupX.argOk_fstrS (by decide) (by decide), fun _ _ _ _ _ _ _ _ _ _ _ _ _ => rfl,
    ⟨oc, od, _, kV, doc, pm, an, cda, cc, ct, osl, _, _, _, _, _, _, _, _, _, _, _, vs, fl, tf, ccl, ccv, cdd, cld, ccs, csl, lk, cd, h1, h2, h3, h4, fun _ => ⟨_, rfl⟩⟩⟩, fun v u r hv => by
    obtain ⟨i, rfl, hi⟩ := hv
    obtain ⟨t, rfl⟩ := r
    exact ⟨i, t, rfl, hi⟩⟩
theorem sup_Unlike {w : World} {K : PySem.W.Frag} {h : Heap} {mg : Str → Option Value} (c : SaysV fnV exV K) (hs : mg "super" = none) {C : Addr} (hB : supB K C (He.ga K "Unlike") "what" PP.main.file = true) :
    ∃ (D fI : Addr) (arg : Expr) (ok : Value → Prop), SupX.SupTxt PP w K mg C D fI "what" arg ok ∧ ∀ v u, RelV v u → (∃ x : Str, v = .str x ∧ x.length ≤ 1000) → ok u := by
  obtain ⟨b1, hB⟩ := He.ba hB
  obtain ⟨b2, hB⟩ := He.ba hB
  obtain ⟨b3, hB⟩ := He.ba hB
  obtain ⟨b4, hB⟩ := He.ba hB
  obtain ⟨b5, hB⟩ := He.ba hB
  obtain ⟨b6, hB⟩ := He.ba hB
  obtain ⟨b7, hB⟩ := He.ba hB
  obtain ⟨b8, hB⟩ := He.ba hB
  obtain ⟨b9, hB⟩ := He.ba hB
  obtain ⟨b10, hB⟩ := He.ba hB
  obtain ⟨b11, hB⟩ := He.ba hB
  obtain ⟨b12, hB⟩ := He.ba hB
  obtain ⟨b13, b14⟩ := He.ba hB
  obtain ⟨e, o⟩ := c.at 58 rfl
  obtain ⟨kp, oc, od, cl, kV, doc, pm, an, cdv, ct, osl, hcl, lk, cd⟩ := DfV.look e o
  obtain ⟨cda, cc, vs, fl, tf, ccl, ccv, cdd, cld, ccs, csl, rfl, rfl, h1, h2, h3, h4⟩ := cellB_ok b14 lk hcl
  refine ⟨_, _, _, _, ⟨clsB_ok b1, He.eqO_ok b2, He.eqO_ok b3, He.eqO_ok b4, of_decide_eq_true b5, b6, of_decide_eq_true b7, of_decide_eq_true b8, of_decide_eq_true b9, He.eqO_ok b10, of_decide_eq_true b11, He.eqO_ok b12, hs, b13, by decide +kernel, by decide, by decide, rfl, rfl, rfl, by decide, SupX.argOk_fstrS (by decide) (by decide), fun _ _ _ _ _ _ _ _ _ _ _ _ _ => rfl,
    ⟨oc, od, _, kV, doc, pm, an, cda, cc, ct, osl, _, _, _, _, _, _, _, _, _, _, _, vs, fl, tf, ccl, ccv, cdd, cld, ccs, csl, lk, cd, h1, h2, h3, h4, fun _ => ⟨_, rfl⟩⟩⟩, fun v u r hv => by
    obtain ⟨i, rfl, hi⟩ := hv
    obtain ⟨t, rfl⟩ := r
    exact ⟨i, t, rfl, hi⟩⟩
theorem sup_WrongItem {w : World} {K : PySem.W.Frag} {h : Heap} {mg : Str → Option Value} (c : SaysV fnV exV K) (hs : mg "super" = none) {C : Addr} (hB : supB K C (He.ga K "WrongItem") "at" PP.main.file = true) :
    ∃ (D fI : Addr) (arg : Expr) (ok : Value → Prop), SupX.SupTxt PP w K mg C D fI "at" arg ok ∧ ∀ v u, RelV v u → (∃ i : Int, v = .int i ∧ i.natAbs.log2 < 1920) → ok u := by
  obtain ⟨b1, hB⟩ := He.ba hB
  obtain ⟨b2, hB⟩ := He.ba hB
  obtain ⟨b3, hB⟩ := He.ba hB
  obtain ⟨b4, hB⟩ := He.ba hB
  obtain ⟨b5, hB⟩ := He.ba hB
  obtain ⟨b6, hB⟩ := He.ba hB
  obtain ⟨b7, hB⟩ := He.ba hB
  obtain ⟨b8, hB⟩ := He.ba hB
  obtain ⟨b9, hB⟩ := He.ba hB
  obtain ⟨b10, hB⟩ := He.ba hB
  obtain ⟨b11, hB⟩ := He.ba hB
  obtain ⟨b12, hB⟩ := He.ba hB
  obtain ⟨b13, b14⟩ := He.ba hB
  obtain ⟨e, o⟩ := c.at 59 rfl
  obtain ⟨kp, oc, od, cl, kV, doc, pm, an, cdv, ct, osl, hcl, lk, cd⟩ := DfV.look e o
  obtain ⟨cda, cc, vs, fl, tf, ccl, ccv, cdd, cld, ccs, csl, rfl, rfl, h1, h2, h3, h4⟩ := cellB_ok b14 lk hcl
  refine ⟨_, _, _, _, ⟨clsB_ok b1, He.eqO_ok b2, He.eqO_ok b3, He.eqO_ok b4, of_decide_eq_true b5, b6, of_decide_eq_true b7, of_decide_eq_true b8, of_decide_eq_true b9, He.eqO_ok b10, of_decide_eq_true b11, He.eqO_ok b12, hs, b13, by decide +kernel, by decide, by decide, rfl, rfl, rfl, by decide, SupX.argOk_fstr (by decide) (by decide), fun _ _ _ _ _ _ _ _ _ _ _ _ _ => rfl,
    ⟨oc, od, _, kV, doc, pm, an, cda, cc, ct, osl, _, _, _, _, _, _, _, _, _, _, _, vs, fl, tf, ccl, ccv, cdd, cld, ccs, csl, lk, cd, h1, h2, h3, h4, fun _ => ⟨_, rfl⟩⟩⟩, fun v u r hv => by
    obtain ⟨i, rfl, hi⟩ := hv
    obtain ⟨t, rfl⟩ := r
    exact ⟨i, t, rfl, hi⟩⟩
theorem sup_WrongThing {w : World} {K : PySem.W.Frag} {h : Heap} {mg : Str → Option Value} (c : SaysV fnV exV K) (hs : mg "super" = none) {C : Addr} (hB : supB K C (He.ga K "WrongThing") "thing" PP.main.file = true) :
    ∃ (D fI : Addr) (arg : Expr) (ok : Value → Prop), SupX.SupTxt PP w K mg C D fI "thing" arg ok ∧ ∀ v u, RelV v u → True → ok u := by
  obtain ⟨b1, hB⟩ := He.ba hB
  obtain ⟨b2, hB⟩ := He.ba hB
  obtain ⟨b3, hB⟩ := He.ba hB
  obtain ⟨b4, hB⟩ := He.ba hB
  obtain ⟨b5, hB⟩ := He.ba hB
  obtain ⟨b6, hB⟩ := He.ba hB
  obtain ⟨b7, hB⟩ := He.ba hB
  obtain ⟨b8, hB⟩ := He.ba hB
  obtain ⟨b9, hB⟩ := He.ba hB
  obtain ⟨b10, hB⟩ := He.ba hB
  obtain ⟨b11, hB⟩ := He.ba hB
  obtain ⟨b12, hB⟩ := He.ba hB
  obtain ⟨b13, b14⟩ := He.ba hB
  obtain ⟨e, o⟩ := c.at 60 rfl
  obtain ⟨kp, oc, od, cl, kV, doc, pm, an, cdv, ct, osl, hcl, lk, cd⟩ := DfV.look e o
  obtain ⟨cda, cc, vs, fl, tf, ccl, ccv, cdd, cld, ccs, csl, rfl, rfl, h1, h2, h3, h4⟩ := cellB_ok b14 lk hcl
  refine ⟨_, _, _, _, ⟨clsB_ok b1, He.eqO_ok b2, He.eqO_ok b3, He.eqO_ok b4, of_decide_eq_true b5, b6, of_decide_eq_true b7, of_decide_eq_true b8, of_decide_eq_true b9, He.eqO_ok b10, of_decide_eq_true b11, He.eqO_ok b12, hs, b13, by decide +kernel, by decide, by decide, rfl, rfl, rfl, by decide, SupX.argOk_str, fun _ _ _ _ _ _ _ _ _ _ _ _ _ => rfl,
    ⟨oc, od, _, kV, doc, pm, an, cda, cc, ct, osl, _, _, _, _, _, _, _, _, _, _, _, vs, fl, tf, ccl, ccv, cdd, cld, ccs, csl, lk, cd, h1, h2, h3, h4, fun _ => ⟨_, rfl⟩⟩⟩, fun _ _ _ _ => trivial⟩
theorem law_at {w : World} {K : PySem.W.Frag} {h : Heap} {mg : Str → Option Value} (X : K.In h) (G : h.Ns mainGlobals mg) (c : SaysV fnV exV K) : mg "law" = some (.ref (He.ga K "law")) ∧ ∀ base : Heap, CalZ Gd PP w K mg base 11 "law" (spLaw K) := by
  obtain ⟨z0, z⟩ := He.ba c.ex
  obtain ⟨z1, z⟩ := He.ba z
  obtain ⟨z2, z⟩ := He.ba z
  obtain ⟨z3, z⟩ := He.ba z
  obtain ⟨z4, z⟩ := He.ba z
  obtain ⟨z5, z⟩ := He.ba z
  obtain ⟨z6, z⟩ := He.ba z
  obtain ⟨z7, z⟩ := He.ba z
  obtain ⟨z8, z⟩ := He.ba z
  obtain ⟨z9, z⟩ := He.ba z
  obtain ⟨z10, z⟩ := He.ba z
  have z11 := z
  have T : Txt mg := ⟨He.free_ok X G (fa_at z0 0 rfl), He.free_ok X G (fa_at z0 1 rfl), He.free_ok X G (fa_at z0 2 rfl), He.free_ok X G (fa_at z0 3 rfl), He.free_ok X G (fa_at z0 4 rfl), He.free_ok X G (fa_at z0 5 rfl), He.free_ok X G (fa_at z0 6 rfl), He.free_ok X G (fa_at z0 7 rfl), He.free_ok X G (fa_at z0 8 rfl), He.free_ok X G (fa_at z0 9 rfl), He.free_ok X G (fa_at z0 10 rfl), He.free_ok X G (fa_at z0 11 rfl), He.free_ok X G (fa_at z0 12 rfl), He.free_ok X G (fa_at z0 13 rfl), He.free_ok X G (fa_at z0 14 rfl), He.free_ok X G (fa_at z0 15 rfl), He.free_ok X G (fa_at z0 16 rfl), He.free_ok X G (fa_at z0 17 rfl), He.free_ok X G (fa_at z0 18 rfl)⟩
  have hsup : mg "super" = none := He.free_ok X G (fa_at z0 19 rfl)
  have O : Own K mg (adV K) := ⟨He.glo_ok X G (fa_at z0 20 rfl), He.glo_ok X G (fa_at z0 21 rfl), He.glo_ok X G (fa_at z0 22 rfl), He.glo_ok X G (fa_at z0 23 rfl), He.glo_ok X G (fa_at z0 24 rfl), He.glo_ok X G (fa_at z0 25 rfl), He.glo_ok X G (fa_at z0 26 rfl), He.glo_ok X G (fa_at z0 27 rfl), He.glo_ok X G (fa_at z0 28 rfl), He.glo_ok X G (fa_at z0 29 rfl), He.glo_ok X G (fa_at z0 30 rfl), fun e => by cases e <;> first | exact errB_ok z8 | exact errB_ok z9⟩
  have n_set := T.set
  have n_min := T.min
  have SU_alphabet : Sup PP w K mg (adV K) .alphabet := ⟨sup_WrongThing (h := h) c hsup z1⟩
  have SU_text : Sup PP w K mg (adV K) .text := ⟨sup_WrongItem (h := h) c hsup z2⟩
  have SU_moves : Sup PP w K mg (adV K) .moves := ⟨sup_WrongItem (h := h) c hsup z3⟩
  have SU_good : Sup PP w K mg (adV K) .good := ⟨sup_WrongItem (h := h) c hsup z4⟩
  have SU_many : Sup PP w K mg (adV K) .many := ⟨sup_TooMany (h := h) c hsup z5⟩
  have SU_unlike : Sup PP w K mg (adV K) .unlike := ⟨sup_Unlike (h := h) c hsup z6⟩
  obtain ⟨R, RI, RQ, ne_c, rd_lst, sf_R⟩ := rdB_ok z7
  have v_SMALL : ∃ u, mg "SMALL" = some u ∧ RelV (.str SMALLS) u := by
    obtain ⟨t, e⟩ := He.str_ok X G (fa_at z0 77 rfl)
    exact ⟨_, e, t, rfl⟩
  have v_TEXT_LETTERS : ∃ u, mg "TEXT_LETTERS" = some u ∧ RelV (.int 40) u := by
    obtain ⟨t, e⟩ := He.int_ok X G (fa_at z0 78 rfl)
    exact ⟨_, e, t, rfl⟩
  have v_MOST_ROOMS : ∃ u, mg "MOST_ROOMS" = some u ∧ RelV (.int 60) u := by
    obtain ⟨t, e⟩ := He.int_ok X G (fa_at z0 79 rfl)
    exact ⟨_, e, t, rfl⟩
  have M := He.mkr_ok (fa_at z0 80 rfl)
  obtain ⟨fd_pick, F_pick, df_pick⟩ := c.df X G 0 rfl (fa_at z0 31 rfl)
  have b_pick : Binds K fd_pick ["source", "many"] [] := C8.Fun.binds F_pick.fn df_pick fun _ _ _ _ _ _ us hl => match us, hl with | [_, _], _ => rfl
  obtain ⟨fd_source, F_source, df_source⟩ := c.df X G 1 rfl (fa_at z0 32 rfl)
  have b_source : Binds K fd_source ["script", "place"] [] := C8.Fun.binds F_source.fn df_source fun _ _ _ _ _ _ us hl => match us, hl with | [_, _], _ => rfl
  obtain ⟨fd_alphabet, F_alphabet, df_alphabet⟩ := c.df X G 2 rfl (fa_at z0 33 rfl)
  have b_alphabet : Binds K fd_alphabet ["source"] [] := C8.Fun.binds F_alphabet.fn df_alphabet fun _ _ _ _ _ _ us hl => match us, hl with | [_], _ => rfl
  obtain ⟨fd_word, F_word, df_word⟩ := c.df X G 3 rfl (fa_at z0 34 rfl)
  have b_word : Binds K fd_word ["source", "alphabet", "most"] [] := C8.Fun.binds F_word.fn df_word fun _ _ _ _ _ _ us hl => match us, hl with | [_, _, _], _ => rfl
  obtain ⟨fd_reader, F_reader, df_reader⟩ := c.df X G 4 rfl (fa_at z0 35 rfl)
  have b_reader : Binds K fd_reader ["source", "many", "most"] [] := C8.Fun.binds F_reader.fn df_reader fun _ _ _ _ _ _ us hl => match us, hl with | [_, _, _], _ => rfl
  obtain ⟨fd_integer, F_integer, df_integer⟩ := c.df X G 5 rfl (fa_at z0 36 rfl)
  have b_integer : Binds K fd_integer ["thing", "low", "high"] [] := C8.Fun.binds F_integer.fn df_integer fun _ _ _ _ _ _ us hl => match us, hl with | [_, _, _], _ => rfl
  obtain ⟨fd_listed, F_listed, df_listed⟩ := c.df X G 6 rfl (fa_at z0 37 rfl)
  have b_listed : Binds K fd_listed ["thing"] [] := C8.Fun.binds F_listed.fn df_listed fun _ _ _ _ _ _ us hl => match us, hl with | [_], _ => rfl
  obtain ⟨fd_isal, F_isal, df_isal⟩ := c.df X G 7 rfl (fa_at z0 38 rfl)
  have b_isal : Binds K fd_isal ["thing"] [] := C8.Fun.binds F_isal.fn df_isal fun _ _ _ _ _ _ us hl => match us, hl with | [_], _ => rfl
  obtain ⟨fd_chkal, F_chkal, df_chkal⟩ := c.df X G 8 rfl (fa_at z0 39 rfl)
  have b_chkal : Binds K fd_chkal ["thing"] [] := C8.Fun.binds F_chkal.fn df_chkal fun _ _ _ _ _ _ us hl => match us, hl with | [_], _ => rfl
  obtain ⟨fd_fault, F_fault, df_fault⟩ := c.df X G 9 rfl (fa_at z0 40 rfl)
  have b_fault : Binds K fd_fault ["alphabet", "thing", "most"] [] := C8.Fun.binds F_fault.fn df_fault fun _ _ _ _ _ _ us hl => match us, hl with | [_, _, _], _ => rfl
  obtain ⟨fd_chktext, F_chktext, df_chktext⟩ := c.df X G 10 rfl (fa_at z0 41 rfl)
  have b_chktext : Binds K fd_chktext ["alphabet", "thing"] [] := C8.Fun.binds F_chktext.fn df_chktext fun _ _ _ _ _ _ us hl => match us, hl with | [_, _], _ => rfl
  obtain ⟨fd_moves, F_moves, df_moves⟩ := c.df X G 11 rfl (fa_at z0 42 rfl)
  have b_moves : Binds K fd_moves ["alphabet", "moves"] [] := C8.Fun.binds F_moves.fn df_moves fun _ _ _ _ _ _ us hl => match us, hl with | [_, _], _ => rfl
  obtain ⟨fd_good, F_good, df_good⟩ := c.df X G 12 rfl (fa_at z0 43 rfl)
  have b_good : Binds K fd_good ["moves", "good"] [] := C8.Fun.binds F_good.fn df_good fun _ _ _ _ _ _ us hl => match us, hl with | [_, _], _ => rfl
  obtain ⟨fd_init, F_init, df_init, kp_init⟩ := c.fn 13 rfl rfl
  have b_init : Binds K fd_init ["self", "alphabet", "moves", "good"] [] := C8.Fun.binds F_init df_init fun _ _ _ _ _ _ us hl => match us, hl with | [_, _, _, _], _ => rfl
  obtain ⟨fd_roomof, F_roomof, df_roomof⟩ := c.df X G 14 rfl (fa_at z0 44 rfl)
  have b_roomof : Binds K fd_roomof ["reader", "text"] [] := C8.Fun.binds F_roomof.fn df_roomof fun _ _ _ _ _ _ us hl => match us, hl with | [_, _], _ => rfl
  obtain ⟨fd_lawroom, F_lawroom, df_lawroom⟩ := c.df X G 15 rfl (fa_at z0 53 rfl)
  have b_lawroom : Binds K fd_lawroom ["alphabet", "moves", "text"] [] := C8.Fun.binds F_lawroom.fn df_lawroom fun _ _ _ _ _ _ us hl => match us, hl with | [_, _, _], _ => rfl
  obtain ⟨fd_room, F_room, df_room, kp_room⟩ := c.fn 16 rfl rfl
  have b_room : Binds K fd_room ["self", "text"] [] := C8.Fun.binds F_room df_room fun _ _ _ _ _ _ us hl => match us, hl with | [_, _], _ => rfl
  obtain ⟨fd_contains, F_contains, df_contains, kp_contains⟩ := c.fn 17 rfl rfl
  have b_contains : Binds K fd_contains ["self", "text"] [] := C8.Fun.binds F_contains df_contains fun _ _ _ _ _ _ us hl => match us, hl with | [_, _], _ => rfl
  obtain ⟨fd_len, F_len, df_len, kp_len⟩ := c.fn 18 rfl rfl
  have b_len : Binds K fd_len ["self"] [] := C8.Fun.binds F_len df_len fun _ _ _ _ _ _ us hl => match us, hl with | [_], _ => rfl
  obtain ⟨fd_eq, F_eq, df_eq, kp_eq⟩ := c.fn 19 rfl rfl
  have b_eq : Binds K fd_eq ["self", "other"] [] := C8.Fun.binds F_eq df_eq fun _ _ _ _ _ _ us hl => match us, hl with | [_, _], _ => rfl
  obtain ⟨fd_full, F_full, df_full, kp_full⟩ := c.fn 20 rfl rfl
  have b_full : Binds K fd_full ["alphabet"] [] := C8.Fun.binds F_full df_full fun _ _ _ _ _ _ us hl => match us, hl with | [_], _ => rfl
  obtain ⟨fd_bare, F_bare, df_bare, kp_bare⟩ := c.fn 21 rfl rfl
  have b_bare : Binds K fd_bare ["alphabet"] [] := C8.Fun.binds F_bare df_bare fun _ _ _ _ _ _ us hl => match us, hl with | [_], _ => rfl
  obtain ⟨fd_isnum, F_isnum, df_isnum⟩ := c.df X G 22 rfl (fa_at z0 46 rfl)
  have b_isnum : Binds K fd_isnum ["thing", "low", "high"] [] := C8.Fun.binds F_isnum.fn df_isnum fun _ _ _ _ _ _ us hl => match us, hl with | [_, _, _], _ => rfl
  obtain ⟨fd_isrd, F_isrd, df_isrd⟩ := c.df X G 23 rfl (fa_at z0 47 rfl)
  have b_isrd : Binds K fd_isrd ["reader", "alphabet"] [] := C8.Fun.binds F_isrd.fn df_isrd fun _ _ _ _ _ _ us hl => match us, hl with | [_, _], _ => rfl
  obtain ⟨fd_reached, F_reached, df_reached⟩ := c.df X G 24 rfl (fa_at z0 48 rfl)
  have b_reached : Binds K fd_reached ["moves"] [] := C8.Fun.binds F_reached.fn df_reached fun _ _ _ _ _ _ us hl => match us, hl with | [_], _ => rfl
  obtain ⟨fd_classes, F_classes, df_classes⟩ := c.df X G 25 rfl (fa_at z0 49 rfl)
  have b_classes : Binds K fd_classes ["rooms", "moves", "marks"] [] := C8.Fun.binds F_classes.fn df_classes fun _ _ _ _ _ _ us hl => match us, hl with | [_, _, _], _ => rfl
  obtain ⟨fd_table, F_table, df_table⟩ := c.df X G 26 rfl (fa_at z0 50 rfl)
  have b_table : Binds K fd_table ["moves", "marks"] [] := C8.Fun.binds F_table.fn df_table fun _ _ _ _ _ _ us hl => match us, hl with | [_, _], _ => rfl
  obtain ⟨fd_marks, F_marks, df_marks⟩ := c.df X G 27 rfl (fa_at z0 51 rfl)
  have b_marks : Binds K fd_marks ["reader"] [] := C8.Fun.binds F_marks.fn df_marks fun _ _ _ _ _ _ us hl => match us, hl with | [_], _ => rfl
  obtain ⟨fd_rdtab, F_rdtab, df_rdtab⟩ := c.df X G 28 rfl (fa_at z0 52 rfl)
  have b_rdtab : Binds K fd_rdtab ["alphabet", "moves", "marks"] [] := C8.Fun.binds F_rdtab.fn df_rdtab fun _ _ _ _ _ _ us hl => match us, hl with | [_, _, _], _ => rfl
  obtain ⟨fd_lawroom8, F_lawroom8, df_lawroom8⟩ := c.df X G 29 rfl (fa_at z0 53 rfl)
  have b_lawroom8 : Binds K fd_lawroom8 ["alphabet", "moves", "text"] [] := C8.Fun.binds F_lawroom8.fn df_lawroom8 fun _ _ _ _ _ _ us hl => match us, hl with | [_, _, _], _ => rfl
  obtain ⟨fd_within, F_within, df_within⟩ := c.df X G 30 rfl (fa_at z0 54 rfl)
  have b_within : Binds K fd_within ["alphabet", "told", "text"] [] := C8.Fun.binds F_within.fn df_within fun _ _ _ _ _ _ us hl => match us, hl with | [_, _, _], _ => rfl
  obtain ⟨fd_stays, F_stays, df_stays⟩ := c.df X G 31 rfl (fa_at z0 55 rfl)
  have b_stays : Binds K fd_stays ["alphabet", "machine", "reader"] [] := C8.Fun.binds F_stays.fn df_stays fun _ _ _ _ _ _ us hl => match us, hl with | [_, _, _], _ => rfl
  obtain ⟨fd_inorder, F_inorder, df_inorder⟩ := c.df X G 32 rfl (fa_at z0 56 rfl)
  have b_inorder : Binds K fd_inorder ["moves"] [] := C8.Fun.binds F_inorder.fn df_inorder fun _ _ _ _ _ _ us hl => match us, hl with | [_], _ => rfl
  obtain ⟨fd_classes8, F_classes8, df_classes8⟩ := c.df X G 33 rfl (fa_at z0 57 rfl)
  have b_classes8 : Binds K fd_classes8 ["moves", "good", "most"] [] := C8.Fun.binds F_classes8.fn df_classes8 fun _ _ _ _ _ _ us hl => match us, hl with | [_, _, _], _ => rfl
  obtain ⟨fd_tells, F_tells, df_tells⟩ := c.df X G 34 rfl (fa_at z0 58 rfl)
  have b_tells : Binds K fd_tells ["alphabet", "machine", "reader"] [] := C8.Fun.binds F_tells.fn df_tells fun _ _ _ _ _ _ us hl => match us, hl with | [_, _, _], _ => rfl
  obtain ⟨fd_joint, F_joint, df_joint⟩ := c.df X G 35 rfl (fa_at z0 59 rfl)
  have b_joint : Binds K fd_joint ["one", "other"] [] := C8.Fun.binds F_joint.fn df_joint fun _ _ _ _ _ _ us hl => match us, hl with | [_, _], _ => rfl
  obtain ⟨fd_same, F_same, df_same⟩ := c.df X G 36 rfl (fa_at z0 60 rfl)
  have b_same : Binds K fd_same ["one", "other"] [] := C8.Fun.binds F_same.fn df_same fun _ _ _ _ _ _ us hl => match us, hl with | [_, _], _ => rfl
  obtain ⟨fd_met, F_met, df_met⟩ := c.df X G 37 rfl (fa_at z0 61 rfl)
  have b_met : Binds K fd_met ["one", "other", "wanted"] [] := C8.Fun.binds F_met.fn df_met fun _ _ _ _ _ _ us hl => match us, hl with | [_, _, _], _ => rfl
  obtain ⟨fd_and, F_and, df_and, kp_and⟩ := c.fn 38 rfl rfl
  have b_and : Binds K fd_and ["self", "other"] [] := C8.Fun.binds F_and df_and fun _ _ _ _ _ _ us hl => match us, hl with | [_, _], _ => rfl
  obtain ⟨fd_or, F_or, df_or, kp_or⟩ := c.fn 39 rfl rfl
  have b_or : Binds K fd_or ["self", "other"] [] := C8.Fun.binds F_or df_or fun _ _ _ _ _ _ us hl => match us, hl with | [_, _], _ => rfl
  obtain ⟨fd_sub, F_sub, df_sub, kp_sub⟩ := c.fn 40 rfl rfl
  have b_sub : Binds K fd_sub ["self", "other"] [] := C8.Fun.binds F_sub df_sub fun _ _ _ _ _ _ us hl => match us, hl with | [_, _], _ => rfl
  obtain ⟨fd_inv, F_inv, df_inv, kp_inv⟩ := c.fn 41 rfl rfl
  have b_inv : Binds K fd_inv ["self"] [] := C8.Fun.binds F_inv df_inv fun _ _ _ _ _ _ us hl => match us, hl with | [_], _ => rfl
  obtain ⟨fd_words, F_words, df_words⟩ := c.df X G 42 rfl (fa_at z0 62 rfl)
  have b_words : Binds K fd_words ["error"] [] := C8.Fun.binds F_words.fn df_words fun _ _ _ _ _ _ us hl => match us, hl with | [_], _ => rfl
  obtain ⟨fd_done, F_done, df_done⟩ := c.df X G 43 rfl (fa_at z0 63 rfl)
  have b_done : Binds K fd_done ["word", "one", "other"] [] := C8.Fun.binds F_done.fn df_done fun _ _ _ _ _ _ us hl => match us, hl with | [_, _, _], _ => rfl
  obtain ⟨fd_due, F_due, df_due⟩ := c.df X G 44 rfl (fa_at z0 64 rfl)
  have b_due : Binds K fd_due ["word", "first", "second"] [] := C8.Fun.binds F_due.fn df_due fun _ _ _ _ _ _ us hl => match us, hl with | [_, _, _], _ => rfl
  obtain ⟨fd_ljoint, F_ljoint, df_ljoint⟩ := c.df X G 45 rfl (fa_at z0 65 rfl)
  have b_ljoint : Binds K fd_ljoint ["one", "other", "word"] [] := C8.Fun.binds F_ljoint.fn df_ljoint fun _ _ _ _ _ _ us hl => match us, hl with | [_, _, _], _ => rfl
  obtain ⟨fd_holds, F_holds, df_holds⟩ := c.df X G 46 rfl (fa_at z0 66 rfl)
  have b_holds : Binds K fd_holds ["alphabet", "machine", "told"] [] := C8.Fun.binds F_holds.fn df_holds fun _ _ _ _ _ _ us hl => match us, hl with | [_, _, _], _ => rfl
  obtain ⟨fd_line, F_line, df_line⟩ := c.df X G 47 rfl (fa_at z0 67 rfl)
  have b_line : Binds K fd_line ["alphabet", "word", "cut"] [] := C8.Fun.binds F_line.fn df_line fun _ _ _ _ _ _ us hl => match us, hl with | [_, _, _], _ => rfl
  obtain ⟨fd_changed, F_changed, df_changed⟩ := c.df X G 48 rfl (fa_at z0 68 rfl)
  have b_changed : Binds K fd_changed ["source", "told"] [] := C8.Fun.binds F_changed.fn df_changed fun _ _ _ _ _ _ us hl => match us, hl with | [_, _], _ => rfl
  obtain ⟨fd_some, F_some, df_some⟩ := c.df X G 49 rfl (fa_at z0 69 rfl)
  have b_some : Binds K fd_some ["source", "size", "last"] [] := C8.Fun.binds F_some.fn df_some fun _ _ _ _ _ _ us hl => match us, hl with | [_, _, _], _ => rfl
  obtain ⟨fd_rings, F_rings, df_rings⟩ := c.df X G 50 rfl (fa_at z0 70 rfl)
  have b_rings : Binds K fd_rings ["source", "many"] [] := C8.Fun.binds F_rings.fn df_rings fun _ _ _ _ _ _ us hl => match us, hl with | [_, _], _ => rfl
  obtain ⟨fd_thin, F_thin, df_thin⟩ := c.df X G 51 rfl (fa_at z0 71 rfl)
  have b_thin : Binds K fd_thin ["source", "alphabet"] [] := C8.Fun.binds F_thin.fn df_thin fun _ _ _ _ _ _ us hl => match us, hl with | [_, _], _ => rfl
  obtain ⟨fd_both, F_both, df_both⟩ := c.df X G 52 rfl (fa_at z0 72 rfl)
  have b_both : Binds K fd_both ["source", "second", "alphabet"] [] := C8.Fun.binds F_both.fn df_both fun _ _ _ _ _ _ us hl => match us, hl with | [_, _, _], _ => rfl
  obtain ⟨fd_asked, F_asked, df_asked⟩ := c.df X G 53 rfl (fa_at z0 73 rfl)
  have b_asked : Binds K fd_asked ["alphabet", "plains", "readers", "ask", "words"] [] := C8.Fun.binds F_asked.fn df_asked fun _ _ _ _ _ _ us hl => match us, hl with | [_, _, _, _, _], _ => rfl
  obtain ⟨fd_turned, F_turned, df_turned⟩ := c.df X G 54 rfl (fa_at z0 74 rfl)
  have b_turned : Binds K fd_turned ["alphabet", "machine", "reader"] [] := C8.Fun.binds F_turned.fn df_turned fun _ _ _ _ _ _ us hl => match us, hl with | [_, _, _], _ => rfl
  obtain ⟨fd_strange, F_strange, df_strange⟩ := c.df X G 55 rfl (fa_at z0 75 rfl)
  have b_strange : Binds K fd_strange ["alphabet", "readers", "source"] [] := C8.Fun.binds F_strange.fn df_strange fun _ _ _ _ _ _ us hl => match us, hl with | [_, _, _], _ => rfl
  obtain ⟨fd_law, F_law, df_law⟩ := c.df X G 56 rfl (fa_at z0 76 rfl)
  have b_law : Binds K fd_law ["script"] [] := C8.Fun.binds F_law.fn df_law fun _ _ _ _ _ _ us hl => match us, hl with | [_], _ => rfl
  refine ⟨F_law.mgf, fun base => ?_⟩
  have c_law_pick := ok_pick (P := PP) (w := w) (base := base) F_pick b_pick T
  have c_law_source := ok_source (P := PP) (w := w) (base := base) F_source b_source T
  have c_law_alphabet := ok_alphabet (P := PP) (w := w) (base := base) F_alphabet b_alphabet T c_law_pick
  have c_law_word := ok_word (P := PP) (w := w) (base := base) F_word b_word T c_law_pick
  have c_law_reader := ok_reader (P := PP) (w := w) (base := base) F_reader b_reader T c_law_pick
  have c_is_integer := ok_integer (P := PP) (w := w) (base := base) F_integer b_integer T
  have c_is_listed := ok_listed (P := PP) (w := w) (base := base) F_listed b_listed T
  have c_is_alphabet := ok_isal (P := PP) (w := w) (base := base) F_isal b_isal T v_SMALL
  have c_check_alphabet := ok_chkal (P := PP) (w := w) (base := base) (ad := adV K) F_chkal b_chkal T O SU_alphabet c_is_alphabet
  have c_text_fault := ok_fault (P := PP) (w := w) (base := base) F_fault b_fault T
  have c_check_text := ok_chktext (P := PP) (w := w) (base := base) (ad := adV K) F_chktext b_chktext T O SU_text v_TEXT_LETTERS c_text_fault
  have c_checked_moves := ok_moves (P := PP) (w := w) (base := base) (ad := adV K) F_moves b_moves T O SU_moves v_MOST_ROOMS c_is_listed c_is_integer
  have c_checked_good := ok_good (P := PP) (w := w) (base := base) (ad := adV K) F_good b_good T O SU_good c_is_listed c_is_integer
  have m_Reader := ok_init (P := PP) (w := w) (base := base) (ad := adV K) M R F_init b_init T O c_check_alphabet c_checked_moves c_checked_good
  have c_room_of := ok_roomof (P := PP) (w := w) (base := base) (ad := adV K) F_roomof b_roomof T R
  have c_law_room := ok_lawroom (P := PP) (w := w) (base := base) F_lawroom b_lawroom T
  have mt_room := ok_room (P := PP) (w := w) (base := base) (ad := adV K) R (He.meth_ok (fa_at z0 81 rfl)) F_room b_room T c_check_text c_room_of
  have mt_contains := ok_contains (P := PP) (w := w) (base := base) (ad := adV K) R (He.meth_ok (fa_at z0 82 rfl)) F_contains b_contains T c_check_text c_room_of
  have mt_len := ok_len (P := PP) (w := w) (base := base) (ad := adV K) R (He.meth_ok (fa_at z0 83 rfl)) F_len b_len T
  have mt_eq := ok_eq (P := PP) (w := w) (base := base) (ad := adV K) R RI (He.meth_ok (fa_at z0 84 rfl)) F_eq b_eq T O
  have fz_full := ok_full (P := PP) (w := w) (base := base) (ad := adV K) F_full b_full T O c_check_alphabet m_Reader
  obtain ⟨cr_full, fc_full, rest_full, rc_full⟩ := stB_ok z10
  have st_full : StZ PP w K mg base 5 (adV K).Reader "full" (spEnd (adV K) [0]) := ⟨_, _, fd_full, _, _, rest_full, cr_full, fc_full, rc_full, fz_full, kp_full, b_full⟩
  have fz_bare := ok_bare (P := PP) (w := w) (base := base) (ad := adV K) F_bare b_bare T O c_check_alphabet m_Reader
  obtain ⟨cr_bare, fc_bare, rest_bare, rc_bare⟩ := stB_ok z11
  have st_bare : StZ PP w K mg base 5 (adV K).Reader "bare" (spEnd (adV K) []) := ⟨_, _, fd_bare, _, _, rest_bare, cr_bare, fc_bare, rc_bare, fz_bare, kp_bare, b_bare⟩
  have c_law_is_number := ok_isnum (P := PP) (w := w) (base := base) F_isnum b_isnum T
  have c_law_is_reader := ok_isrd (P := PP) (w := w) (base := base) (ad := adV K) R RI F_isrd b_isrd T O c_law_is_number
  have c_reached_rooms := ok_reached (P := PP) (w := w) (base := base) F_reached b_reached T
  have c_room_classes := ok_classes (P := PP) (w := w) (base := base) F_classes b_classes T
  have c_least_table := ok_table (P := PP) (w := w) (base := base) F_table b_table T c_reached_rooms c_room_classes
  have c_good_marks := ok_marks (P := PP) (w := w) (base := base) (ad := adV K) R F_marks b_marks T
  have c_reader_of_table := ok_rdtab (P := PP) (w := w) (base := base) (ad := adV K) F_rdtab b_rdtab T O SU_many v_MOST_ROOMS c_least_table m_Reader
  have c_law_room := ok_lawroom8 (P := PP) (w := w) (base := base) F_lawroom8 b_lawroom8 T
  have c_law_within := ok_within (P := PP) (w := w) (base := base) F_within b_within T c_law_room
  have c_law_stays := ok_stays (P := PP) (w := w) (base := base) (ad := adV K) R F_stays b_stays T O c_law_is_reader
  have c_law_in_order := ok_inorder (P := PP) (w := w) (base := base) F_inorder b_inorder T
  have c_law_classes := ok_classes8 (P := PP) (w := w) (base := base) F_classes8 b_classes8 T n_set
  have c_law_tells := ok_tells (P := PP) (w := w) (base := base) (ad := adV K) R F_tells b_tells T O c_law_is_reader c_law_in_order c_law_classes
  have c_joint_table := ok_joint (P := PP) (w := w) (base := base) F_joint b_joint T
  have c_check_same_letters := ok_same (P := PP) (w := w) (base := base) (ad := adV K) R F_same b_same T O SU_unlike
  have c_met := ok_met (P := PP) (w := w) (base := base) (ad := adV K) R F_met b_met T O c_check_same_letters c_joint_table c_good_marks c_reader_of_table
  have mt_and := ok_and (P := PP) (w := w) (base := base) (ad := adV K) R (He.meth_ok (fa_at z0 85 rfl)) F_and b_and T c_met
  have mt_or := ok_or (P := PP) (w := w) (base := base) (ad := adV K) R (He.meth_ok (fa_at z0 86 rfl)) F_or b_or T c_met
  have mt_sub := ok_sub (P := PP) (w := w) (base := base) (ad := adV K) R (He.meth_ok (fa_at z0 87 rfl)) F_sub b_sub T c_met
  have mt_invert := ok_inv (P := PP) (w := w) (base := base) (ad := adV K) R (He.meth_ok (fa_at z0 88 rfl)) F_inv b_inv T c_reader_of_table
  have c_law_words := ok_words (P := PP) (w := w) (base := base) (ad := adV K) F_words b_words T O
  have c_law_done := ok_done (P := PP) (w := w) (base := base) (ad := adV K) F_done b_done T O sf_R mt_and mt_or mt_sub mt_invert c_law_words
  have c_law_due := ok_due (P := PP) (w := w) (base := base) F_due b_due T
  have c_law_joint := ok_ljoint (P := PP) (w := w) (base := base) F_ljoint b_ljoint T c_law_due
  have c_law_holds := ok_holds (P := PP) (w := w) (base := base) (ad := adV K) R RI rd_lst F_holds b_holds T O c_law_classes c_law_tells
  have c_law_line := ok_line (P := PP) (w := w) (base := base) F_line b_line T
  have c_law_changed := ok_changed (P := PP) (w := w) (base := base) F_changed b_changed T c_law_pick
  have c_law_some := ok_some (P := PP) (w := w) (base := base) F_some b_some T c_law_pick
  have c_law_rings := ok_rings (P := PP) (w := w) (base := base) F_rings b_rings T c_law_pick c_law_some
  have c_law_thin := ok_thin (P := PP) (w := w) (base := base) F_thin b_thin T c_law_pick c_law_word c_law_line
  have c_law_both := ok_both (P := PP) (w := w) (base := base) F_both b_both T c_law_pick c_law_reader c_law_rings c_law_thin c_law_changed
  have c_law_asked := ok_asked (P := PP) (w := w) (base := base) (ad := adV K) R RI rd_lst F_asked b_asked T O c_law_joint c_law_done c_law_holds c_law_due c_law_within mt_room mt_contains
  have c_law_turned := ok_turned (P := PP) (w := w) (base := base) (ad := adV K) R RI RQ rd_lst F_turned b_turned T O c_law_done c_law_tells mt_eq st_full st_bare
  have c_law_strange := ok_strange (P := PP) (w := w) (base := base) (ad := adV K) F_strange b_strange T O c_law_reader c_law_done m_Reader
  have c_law := ok_law (P := PP) (w := w) (base := base) (ad := adV K) F_law b_law T O c_law_source c_law_pick c_law_alphabet c_law_both c_law_word m_Reader c_law_asked c_law_turned c_law_strange c_law_stays
  exact c_law

/-! ### the top, run once -/
abbrev RR : PySem.W.OpenRow := PySem.W.OpenLaw.row PySem.Challenge.rw_vouchedlots_k09_whole_joins
def looseV : List Str := (["_wall", "__name__", "LotsError", "WrongThing", "BadAlphabet", "WrongItem", "BadText", "BadMoves", "BadGood", "TooMany", "Unlike", "NoName", "SMALL", "TEXT_LETTERS", "is_integer", "is_listed", "is_alphabet", "check_alphabet", "text_fault", "check_text", "MOST_ROOMS", "reached_rooms", "room_classes", "least_table", "joint_table", "checked_moves", "checked_good", "Reader", "room_of", "good_marks"] : List Str) ++ (["reader_of_table", "check_same_letters", "met", "_law_source", "_law_pick", "_law_alphabet", "_law_word", "_law_reader", "_law_room", "_law_within", "_law_line", "_law_is_reader", "_law_is_number", "_law_words", "_law_in_order", "_law_classes", "_law_tells", "_law_done", "_law_due", "_law_joint", "_law_holds", "_law_changed", "_law_some", "_law_rings", "_law_thin", "_law_both", "_law_stays", "_law_strange", "_law_turned", "_law_asked"] : List Str)
abbrev hkV : PySem.W.Hook := hookV 6 fnV exV
def obV (s : PySem.W.SharedT) : AlV := obsVG 6 fnV exV (HandSHeadRun.getT s)
theorem obV_eq (s : PySem.W.SharedT) : obV s = hkV.obs s.abs := obsVG_eq (HandSHeadRun.getT_eq s)
theorem runV (w : World) : HandSHeadRun.RunEq RR (PySem.W.view RR.prog [63]) hkV obV 6000 looseV w := by
  intro os
  kernel_rfl

end Vl
open PySem PySem.W PySem.Calls PyProof.Rows
set_option maxRecDepth 100000 in
set_option maxHeartbeats 8000000 in
theorem PySem.Challenge.cw_vouchedlots_k09_whole_joins_holds : PySem.Challenge.rw_vouchedlots_k09_whole_joins.Holds := by
  w_on; o_law
  refine HandSHeadRun.head_any (r := Vl.RR) (q := view Vl.RR.prog [63]) (H := Vl.hkV) (ob := Vl.obV) (M := 6000) (loose := Vl.looseV) (d := HandSHeadRun.topDef Vl.RR.prog 63) (kwd := []) Vl.obV_eq (by kernel_rfl) (fun s => by kernel_rfl) Vl.runV
    (by kernel_rfl) (by kernel_rfl) (by kernel_rfl) (by rfl) (by first | assumption | decide +kernel) (by decide +kernel) ⟨rfl, rfl, rfl, rfl, rfl, by decide +kernel⟩ ?hw ?hc
  case hw => w_witness2
  case hc =>
    refine Vl.walk_of_promise (Z := Vl.Gd) (l := PySem.Challenge.rw_vouchedlots_k09_whole_joins) (n := 63) (k := 11) (x := "law") rfl rfl (by decide) (by kernel_rfl) ⟨rfl, by decide, by decide⟩ ?F
    intro w mg fa h Y G hmg0
    obtain ⟨K, KX, c⟩ := Y
    have hmg : mg ("law" : PySem.Str) = some (.ref fa) := by
      have e : (HandSHeadRun.topDef Vl.RR.prog 63).name = ("law" : PySem.Str) := by kernel_rfl
      rw [← e]
      exact hmg0
    obtain ⟨_, hF⟩ := Vl.law_at (w := w) KX G c
    exact ⟨K, Vl.spLaw K, KX, hmg, fun H a ns hl hb hS => ⟨a, ns, rfl, hS, hb, fun _ => rfl⟩, fun base _ _ => hF base⟩
#print axioms PySem.Challenge.cw_vouchedlots_k09_whole_joins_holds
