import PyProof.Rows.All
import Wide.All
import OpenK.AllK
import Wide.FinOn
import HandS.ForMost
import HandS.Exc
import HandS.TryOnly
import HandS.ExcOwn
import HandS.WordsExc
import HandS.IsInst
import HandS.Style
import HandS.Wide
import HandS.Defaults
import HandS.MakeKw
import HandS.ExcIs
import HandS.HotCalls
import HandS.CallSlots
import HandS.Rev
import KE.GoesRaise
import PySem.Challenge.RW_calmcount_k07_written_and_read
set_option Elab.async false
set_option linter.all false
set_option maxRecDepth 100000
set_option maxHeartbeats 4000000
namespace Dx
open PySem PySem.Spec PyProof.Rows L2

/-! ## data -/
inductive D where
  | non
  | bl (b : Bool)
  | int (i : Int)
  | str (s : Str)
  | lst (xs : List D)
  | tup (xs : List D)
  | scr (ns : List Int)

mutual
def toPy : D → PyData
  | .non => .none
  | .bl b => .bool b
  | .int i => .int i
  | .str s => .str s
  | .lst xs => .list (toPyA xs)
  | .tup xs => .tuple (toPyA xs)
  | .scr ns => .list (ns.map .int)
def toPyA : List D → List PyData
  | [] => []
  | d :: ds => toPy d :: toPyA ds
end

mutual
inductive Rp (K : PySem.W.Frag) (H : Hp) : V → D → Prop
  | non : Rp K H .non .non
  | bl (b : Bool) : Rp K H (.bl b) (.bl b)
  | int (i : Int) : Rp K H (.int i) (.int i)
  | str (x : Str) : Rp K H (.str x) (.str x)
  | lst {a : Addr} {xs : List V} {ds : List D} : H a = some (.lst xs) → RpAll K H xs ds → Rp K H (.ref a) (.lst ds)
  | tup {a : Addr} {xs : List V} {ds : List D} : H a = some (.tup xs) → RpAll K H xs ds → Rp K H (.ref a) (.tup ds)
  | scr {a : Addr} {ns : List Int} : SqL K H a (ns.map V.int) → Rp K H (.ref a) (.scr ns)
inductive RpAll (K : PySem.W.Frag) (H : Hp) : List V → List D → Prop
  | nil : RpAll K H [] []
  | cons {v : V} {vs : List V} {d : D} {ds : List D} : Rp K H v d → RpAll K H vs ds → RpAll K H (v :: vs) (d :: ds)
end

section
variable {K : PySem.W.Frag} {H H' : Hp}
mutual
theorem Rp.mono (e : Same H H') : ∀ {d : D} {v : V}, Rp K H v d → Rp K H' v d
  | .non, _, h => by cases h; exact .non
  | .bl _, _, h => by cases h; exact .bl _
  | .int _, _, h => by cases h; exact .int _
  | .str _, _, h => by cases h; exact .str _
  | .lst ds, _, h => by cases h with | lst h ha => exact .lst (e _ _ h) (RpAll.mono e ha)
  | .tup ds, _, h => by cases h with | tup h ha => exact .tup (e _ _ h) (RpAll.mono e ha)
  | .scr ns, _, h => by cases h with | scr h => exact .scr (e.seq h)
theorem RpAll.mono (e : Same H H') : ∀ {ds : List D} {vs : List V}, RpAll K H vs ds → RpAll K H' vs ds
  | [], _, h => by cases h; exact .nil
  | d :: ds, _, h => by cases h with | cons h ha => exact .cons (Rp.mono e h) (RpAll.mono e ha)
end
theorem dp_ints : ∀ {ns : List Int}, DpAll K H (ns.map V.int) (ns.map PyData.int)
  | [] => .nil
  | n :: ns => .cons (.int n) dp_ints
mutual
theorem Rp.dp : ∀ {d : D} {v : V}, Rp K H v d → Dp K H v (toPy d)
  | .non, _, h => by cases h; exact .non
  | .bl _, _, h => by cases h; exact .bl _
  | .int _, _, h => by cases h; exact .int _
  | .str _, _, h => by cases h; exact .str _
  | .lst ds, _, h => by cases h with | lst h ha => exact .lst (.of h) (RpAll.dp ha)
  | .tup ds, _, h => by cases h with | tup h ha => exact .tup (.of h) (RpAll.dp ha)
  | .scr ns, _, h => by cases h with | scr h => exact .lst h dp_ints
theorem RpAll.dp : ∀ {ds : List D} {vs : List V}, RpAll K H vs ds → DpAll K H vs (toPyA ds)
  | [], _, h => by cases h; exact .nil
  | d :: ds, _, h => by cases h with | cons h ha => exact .cons (Rp.dp h) (RpAll.dp ha)
end
theorem RpAll.length : ∀ {ds : List D} {vs : List V}, RpAll K H vs ds → vs.length = ds.length
  | [], _, h => by cases h; rfl
  | d :: ds, _, h => by cases h with | cons h ha => simp [RpAll.length ha]
theorem RpAll.get : ∀ {ds : List D} {vs : List V} {i : Nat} {v : V}, RpAll K H vs ds → vs[i]? = some v → ∃ d, ds[i]? = some d ∧ Rp K H v d
  | [], _, _, _, h, e => by cases h; simp at e
  | d :: ds, _, 0, _, h, e => by cases h with | cons h ha => simp at e; subst e; exact ⟨d, rfl, h⟩
  | d :: ds, _, i + 1, _, h, e => by cases h with | cons h ha => simp at e; simpa using RpAll.get ha e
theorem RpAll.get' : ∀ {ds : List D} {vs : List V} {i : Nat} {d : D}, RpAll K H vs ds → ds[i]? = some d → ∃ v, vs[i]? = some v ∧ Rp K H v d
  | [], _, _, _, h, e => by simp at e
  | d :: ds, _, 0, _, h, e => by cases h with | cons h ha => simp at e; subst e; exact ⟨_, rfl, h⟩
  | d :: ds, _, i + 1, _, h, e => by cases h with | cons h ha => simp at e; simpa using RpAll.get' ha e
theorem RpAll.append : ∀ {ds es : List D} {vs us : List V}, RpAll K H vs ds → RpAll K H us es → RpAll K H (vs ++ us) (ds ++ es)
  | [], _, _, _, h, q => by cases h; exact q
  | d :: ds, _, _, _, h, q => by cases h with | cons h ha => exact .cons h (RpAll.append ha q)
theorem RpAll.take : ∀ {ds : List D} {vs : List V} (n : Nat), RpAll K H vs ds → RpAll K H (vs.take n) (ds.take n)
  | _, _, 0, _ => by simpa using RpAll.nil
  | [], _, n + 1, h => by cases h; simpa using RpAll.nil
  | d :: ds, _, n + 1, h => by cases h with | cons h ha => simpa using RpAll.cons h (RpAll.take n ha)
theorem RpAll.drop : ∀ {ds : List D} {vs : List V} (n : Nat), RpAll K H vs ds → RpAll K H (vs.drop n) (ds.drop n)
  | _, _, 0, h => by simpa using h
  | [], _, n + 1, h => by cases h; simpa using RpAll.nil
  | d :: ds, _, n + 1, h => by cases h with | cons h ha => simpa using RpAll.drop n ha
theorem RpAll.reverse : ∀ {ds : List D} {vs : List V}, RpAll K H vs ds → RpAll K H vs.reverse ds.reverse
  | [], _, h => by cases h; simpa using RpAll.nil
  | d :: ds, _, h => by cases h with | cons h ha => simpa using RpAll.append (RpAll.reverse ha) (RpAll.cons h RpAll.nil)
theorem RpAll.set : ∀ {ds : List D} {vs : List V} {d : D} {v : V} (i : Nat), RpAll K H vs ds → Rp K H v d → RpAll K H (vs.set i v) (ds.set i d)
  | [], _, _, _, _, h, q => by cases h; simpa using RpAll.nil
  | d :: ds, _, _, _, 0, h, q => by cases h with | cons h ha => simpa using RpAll.cons q ha
  | d :: ds, _, _, _, i + 1, h, q => by cases h with | cons h ha => simpa using RpAll.cons h (RpAll.set i ha q)
theorem RpAll.rep {ds : List D} {vs : List V} (h : RpAll K H vs ds) : ∀ k : Nat, RpAll K H (List.replicate k vs).flatten (List.replicate k ds).flatten
  | 0 => by simpa using RpAll.nil
  | k + 1 => by simpa [List.replicate_succ] using RpAll.append h (RpAll.rep h k)
theorem RpAll.ints : ∀ {ns : List Int}, RpAll K H (ns.map V.int) (ns.map D.int)
  | [] => .nil
  | n :: ns => .cons (.int n) RpAll.ints
theorem RpAll.of_ints : ∀ {ns : List Int} {vs : List V}, RpAll K H vs (ns.map D.int) → vs = ns.map V.int
  | [], _, h => by cases h; rfl
  | n :: ns, _, h => by
    cases h with
    | cons h ha =>
      cases h
      rw [RpAll.of_ints ha]
      rfl

/-! ## heaps with addresses left out -/
def hidL (H : Hp) (O : List Addr) : Hp := fun a => if a ∈ O then none else H a
theorem hidL_some {O : List Addr} {a : Addr} {o : HO} : hidL H O a = some o ↔ a ∉ O ∧ H a = some o := by
  unfold hidL
  split
  · rename_i h
    exact ⟨fun z => (nomatch z), fun z => absurd h z.1⟩
  · rename_i h
    exact ⟨fun z => ⟨h, z⟩, fun z => z.2⟩
theorem hidL_le {O : List Addr} : Same (hidL H O) H := fun a o h => (hidL_some.mp h).2
theorem hid_le {O O' : List Addr} (e : Same H H') (h : ∀ a, a ∈ O' → a ∈ O ∨ H a = none) : Same (hidL H O) (hidL H' O') := fun a o x => by
  obtain ⟨n, x⟩ := hidL_some.mp x
  exact hidL_some.mpr ⟨fun m => (h a m).elim n (fun z => by rw [z] at x; cases x), e _ _ x⟩
theorem hidL_nil : hidL H [] = H := by
  funext a
  unfold hidL
  simp
theorem same_new {p : Addr} {o : HO} (h : H p = none) : Same H (upd H p o) := fun b x e => by
  rw [upd_ne (ne_of_none e h)]
  exact e
def fro (H : Hp) (O : List Addr) (P : List (List Addr)) : Hp := hidL H (O ++ P.flatten)
theorem fro_some {O : List Addr} {P : List (List Addr)} {a : Addr} {o : HO} : fro H O P a = some o ↔ a ∉ O ∧ a ∉ P.flatten ∧ H a = some o := by
  unfold fro
  rw [hidL_some, List.mem_append, not_or, and_assoc]
theorem fro_le {O : List Addr} {P : List (List Addr)} : Same (fro H O P) H := hidL_le
theorem fro_same {O : List Addr} {P : List (List Addr)} (e : Same H H') : Same (fro H O P) (fro H' O P) := hid_le e fun _ m => .inl m
theorem mem_set {P : List (List Addr)} {i : Nat} {l : List Addr} {a : Addr} (h : a ∈ (P.set i l).flatten) : a ∈ l ∨ ∃ j m, j ≠ i ∧ P[j]? = some m ∧ a ∈ m := by
  obtain ⟨m, hm, ha⟩ := List.mem_flatten.mp h
  obtain ⟨j, hj⟩ := List.mem_iff_getElem?.mp hm
  by_cases e : i = j
  · subst e
    rw [List.getElem?_set_self'] at hj
    cases q : P[i]? with
    | none => rw [q] at hj; cases hj
    | some x => rw [q] at hj; cases hj; exact .inl ha
  · rw [List.getElem?_set_ne e] at hj
    exact .inr ⟨j, m, fun z => e z.symm, hj, ha⟩
theorem mem_flat {P : List (List Addr)} {i : Nat} {l : List Addr} {a : Addr} (h : P[i]? = some l) (ha : a ∈ l) : a ∈ P.flatten :=
  List.mem_flatten.mpr ⟨l, List.mem_of_getElem? h, ha⟩
end

/-! ## what a slot holds -/
inductive Sl where
  | no
  | sh (d : D)
  | ow (ds : List D)
  | ob (φ : PySem.W.Frag → Hp → Hp → V → List Addr → Prop)

def SlOk (K : PySem.W.Frag) (H F : Hp) (P : List (List Addr)) (σ : L2.St) (i : Nat) : Sl → Prop
  | .no => P[i]? = some []
  | .sh d => ∃ v, σ[i]? = some (some v) ∧ Rp K F v d
  | .ow ds => ∃ p vs, σ[i]? = some (some (.ref p)) ∧ P[i]? = some [p] ∧ H p = some (.lst vs) ∧ RpAll K F vs ds
  | .ob φ => ∃ v fp, σ[i]? = some (some v) ∧ P[i]? = some fp ∧ ∀ H' F', (∀ a, a ∈ fp → H' a = H a) → Same F F' → φ K H' F' v fp
theorem SlOk.to {K : PySem.W.Frag} {H F H' F' : Hp} {P P' : List (List Addr)} {σ σ' : L2.St} {i : Nat} {sl : Sl} (h : SlOk K H F P σ i sl) (hs : σ'[i]? = σ[i]?) (hP : P'[i]? = P[i]?)
    (hH : ∀ l a, P[i]? = some l → a ∈ l → H' a = H a) (hF : Same F F') : SlOk K H' F' P' σ' i sl := by
  cases sl with
  | no => exact hP.trans h
  | sh d =>
    obtain ⟨v, e, r⟩ := h
    exact ⟨v, hs.trans e, r.mono hF⟩
  | ow ds =>
    obtain ⟨p, vs, e, eP, eH, r⟩ := h
    exact ⟨p, vs, hs.trans e, hP.trans eP, (hH _ p eP List.mem_cons_self).trans eH, r.mono hF⟩
  | ob φ =>
    obtain ⟨v, fp, e, eP, r⟩ := h
    exact ⟨v, fp, hs.trans e, hP.trans eP, fun H2 F2 a b => r H2 F2 (fun x hx => (a x hx).trans (hH _ x eP hx)) (hF.trans b)⟩

structure Rep (K : PySem.W.Frag) (O : List Addr) (H0 H : Hp) (P : List (List Addr)) (σ : L2.St) (S : List Sl) : Prop where
  len : σ.length = S.length
  lenP : P.length = S.length
  olv : ∀ a, a ∈ O → H0 a ≠ none
  base : Same H0 (hidL H P.flatten)
  inj : ∀ (i j : Nat) (l m : List Addr) (a : Addr), P[i]? = some l → P[j]? = some m → a ∈ l → a ∈ m → i = j
  liv : ∀ a, a ∈ P.flatten → H a ≠ none
  at_ : ∀ (i : Nat) (sl : Sl), S[i]? = some sl → SlOk K H (fro H O P) P σ i sl

section
variable {K : PySem.W.Frag} {O : List Addr} {H0 H H' : Hp} {P : List (List Addr)} {σ σ' : L2.St} {S : List Sl} {i : Nat} {d : D} {ds : List D} {v : V}
theorem Rep.keep (R : Rep K O H0 H P σ S) : Same H0 H := R.base.trans hidL_le
theorem Rep.same_at (R : Rep K O H0 H P σ S) (e : Same H H') {a : Addr} (h : a ∈ P.flatten) : H' a = H a := by
  cases q : H a with
  | none => exact absurd q (R.liv a h)
  | some o => exact e a o q
theorem Rep.ext (R : Rep K O H0 H P σ S) (e : Same H H') : Rep K O H0 H' P σ S :=
  ⟨R.len, R.lenP, R.olv, R.base.trans (hid_le e fun _ m => .inl m), R.inj, fun a m => by rw [R.same_at e m]; exact R.liv a m, fun i sl h => (R.at_ i sl h).to rfl rfl (fun l a h1 h2 => R.same_at e (mem_flat h1 h2)) (fro_same e)⟩
theorem Rep.notP (R : Rep K O H0 H P σ S) {a : Addr} (h : H a = none) : a ∉ P.flatten := fun m => R.liv a m h
theorem Rep.notO (R : Rep K O H0 H P σ S) {a : Addr} (h : H a = none) : a ∉ O := fun m => by
  cases q : H0 a with
  | none => exact R.olv a m q
  | some o => rw [R.keep a o q] at h; cases h
theorem Rep.pO (R : Rep K O H0 H P σ S) {a : Addr} (h : a ∈ P.flatten) : a ∉ O ∧ H0 a = none := by
  have z : H0 a = none := by
    cases q : H0 a with
    | none => rfl
    | some o => exact absurd h (hidL_some.mp (R.base a o q)).1
  exact ⟨fun m => R.olv a m z, z⟩
/-- the one step: slot i gets new content; l, its own addresses, were its own before or are new; all else stands -/
theorem Rep.step (R : Rep K O H0 H P σ S) {l : List Addr} {sl : Sl} (hi : i < S.length) (hs : σ'.length = σ.length) (hs2 : ∀ j, j ≠ i → σ'[j]? = σ[j]?)
    (hl : ∀ a, a ∈ l → (∃ m, P[i]? = some m ∧ a ∈ m) ∨ H a = none) (hv : ∀ a, a ∈ l → H' a ≠ none) (off : ∀ a o, H a = some o → a ∉ l → H' a = some o)
    (new : Same (fro H O P) (fro H' O (P.set i l)) → SlOk K H' (fro H' O (P.set i l)) (P.set i l) σ' i sl) :
    Rep K O H0 H' (P.set i l) σ' (S.set i sl) ∧ Same (fro H O P) (fro H' O (P.set i l)) := by
  have hiP : i < P.length := by rw [R.lenP]; exact hi
  have notl : ∀ a o, H a = some o → a ∉ P.flatten → a ∉ l := fun a o e n m => by
    rcases hl a m with ⟨m', q, r⟩ | q
    · exact n (mem_flat q r)
    · rw [q] at e; cases e
  have notset : ∀ a o, H a = some o → a ∉ P.flatten → a ∉ (P.set i l).flatten := fun a o e n m => by
    rcases mem_set m with q | ⟨j, m', _, q, r⟩
    · exact notl a o e n q
    · exact n (mem_flat q r)
  have other : ∀ j m a, j ≠ i → P[j]? = some m → a ∈ m → H' a = H a := fun j m a hj q r => by
    cases e : H a with
    | none => exact absurd e (R.liv a (mem_flat q r))
    | some o =>
      refine off a o e fun z => ?_
      rcases hl a z with ⟨m', q', r'⟩ | q'
      · exact hj (R.inj j i m m' a q q' r r')
      · rw [q'] at e; cases e
  have grow : Same (fro H O P) (fro H' O (P.set i l)) := fun a o e => by
    obtain ⟨e1, e2, e3⟩ := fro_some.mp e
    exact fro_some.mpr ⟨e1, notset a o e3 e2, off a o e3 (notl a o e3 e2)⟩
  refine ⟨⟨by rw [hs, R.len, List.length_set], by rw [List.length_set, List.length_set, R.lenP], R.olv, fun a o e => ?_, fun j k m m' a h1 h2 h3 h4 => ?_, fun a m => ?_, fun j sl' h => ?_⟩, grow⟩
  · obtain ⟨e1, e2⟩ := hidL_some.mp (R.base a o e)
    exact hidL_some.mpr ⟨notset a o e2 e1, off a o e2 (notl a o e2 e1)⟩
  · by_cases hj : i = j
    · by_cases hk : i = k
      · exact hj.symm.trans hk
      · subst hj
        rw [List.getElem?_set_self hiP] at h1
        cases h1
        rw [List.getElem?_set_ne hk] at h2
        rcases hl a h3 with ⟨m2, q, r⟩ | q
        · exact R.inj i k m2 m' a q h2 r h4
        · exact absurd q (R.liv a (mem_flat h2 h4))
    · rw [List.getElem?_set_ne hj] at h1
      by_cases hk : i = k
      · subst hk
        rw [List.getElem?_set_self hiP] at h2
        cases h2
        rcases hl a h4 with ⟨m2, q, r⟩ | q
        · exact R.inj j i m m2 a h1 q h3 r
        · exact absurd q (R.liv a (mem_flat h1 h3))
      · rw [List.getElem?_set_ne hk] at h2
        exact R.inj j k m m' a h1 h2 h3 h4
  · rcases mem_set m with q | ⟨j, m', hj, q, r⟩
    · exact hv a q
    · rw [other j m' a hj q r]
      exact R.liv a (mem_flat q r)
  · by_cases hj : i = j
    · subst hj
      rw [List.getElem?_set_self hi] at h
      cases h
      exact new grow
    · rw [List.getElem?_set_ne hj] at h
      exact (R.at_ j sl' h).to (hs2 j fun z => hj z.symm) (List.getElem?_set_ne hj) (fun m a q r => other j m a (fun z => hj z.symm) q r) grow
theorem Rep.setSh (R : Rep K O H0 H P σ S) (hi : i < S.length) (h : Rp K (fro H O P) v d) :
    Rep K O H0 H (P.set i []) (σ.set i (some v)) (S.set i (.sh d)) ∧ Same (fro H O P) (fro H O (P.set i [])) :=
  R.step hi (by rw [List.length_set]) (fun j hj => List.getElem?_set_ne (Ne.symm hj)) (fun a m => (nomatch m)) (fun a m => (nomatch m)) (fun a o e _ => e)
    fun g => ⟨v, List.getElem?_set_self (by rw [R.len]; exact hi), h.mono g⟩
theorem Rep.setNew (R : Rep K O H0 H P σ S) (hi : i < S.length) (e : Same H H') {p : Addr} {vs : List V} (hp : H p = none) (hp' : H' p = some (.lst vs)) (h : RpAll K (fro H' O ([p] :: P)) vs ds) :
    Rep K O H0 H' (P.set i [p]) (σ.set i (some (.ref p))) (S.set i (.ow ds)) ∧ Same (fro H O P) (fro H' O (P.set i [p])) :=
  R.step hi (by rw [List.length_set]) (fun j hj => List.getElem?_set_ne (Ne.symm hj)) (fun a m => .inr (by rw [List.mem_singleton.mp m]; exact hp)) (fun a m => by rw [List.mem_singleton.mp m, hp']; simp) (fun a o q _ => e a o q)
    fun g => ⟨p, vs, List.getElem?_set_self (by rw [R.len]; exact hi), List.getElem?_set_self (by rw [R.lenP]; exact hi), hp', h.mono (hid_le (fun _ _ z => z) fun a m => .inl (by
      rcases List.mem_append.mp m with m | m
      · exact List.mem_append_left _ m
      · refine List.mem_append_right _ ?_
        rw [List.flatten_cons]
        rcases mem_set m with q | ⟨j, m', _, q, r⟩
        · exact List.mem_append_left _ q
        · exact List.mem_append_right _ (mem_flat q r)))⟩
theorem Rep.write (R : Rep K O H0 H P σ S) {p : Addr} {vs : List V} (hP : P[i]? = some [p]) (hσ : σ[i]? = some (some (.ref p))) (hi : i < S.length) (h : RpAll K (fro H O P) vs ds) :
    Rep K O H0 (upd H p (.lst vs)) (P.set i [p]) σ (S.set i (.ow ds)) ∧ Same (fro H O P) (fro (upd H p (.lst vs)) O (P.set i [p])) :=
  R.step hi rfl (fun _ _ => rfl) (fun a m => .inl ⟨_, hP, m⟩) (fun a m => by rw [List.mem_singleton.mp m, upd_same]; simp) (fun a o q n => by rw [upd_ne (fun z => n (List.mem_singleton.mpr z))]; exact q)
    fun g => ⟨p, vs, hσ, List.getElem?_set_self (by rw [R.lenP]; exact hi), upd_same, h.mono g⟩
theorem Rep.freeze (R : Rep K O H0 H P σ S) (h : S[i]? = some (.ow ds)) :
    Rep K O H0 H (P.set i []) σ (S.set i (.sh (.lst ds))) ∧ Same (fro H O P) (fro H O (P.set i [])) := by
  obtain ⟨p, vs, e1, e2, e3, e4⟩ := R.at_ i _ h
  have hi : i < S.length := (List.getElem?_eq_some_iff.mp h).1
  refine R.step hi rfl (fun _ _ => rfl) (fun a m => (nomatch m)) (fun a m => (nomatch m)) (fun a o e _ => e) fun g => ⟨.ref p, e1, .lst (fro_some.mpr ⟨?_, fun m => ?_, e3⟩) (e4.mono g)⟩
  · exact (R.pO (mem_flat e2 List.mem_cons_self)).1
  · rcases mem_set m with q | ⟨j, m', hj, q, r⟩
    · cases q
    · exact hj (R.inj j i m' [p] p q e2 r List.mem_cons_self)
/-- slots whose content is not told may be wiped -/
theorem Rep.wiped (R : Rep K O H0 H P σ S) (ws : List Nat) (h : ∀ w, w ∈ ws → S[w]? = some .no) : Rep K O H0 H P (wipe σ ws) S :=
  ⟨by rw [wipe_length, R.len], R.lenP, R.olv, R.base, R.inj, R.liv, fun j sl e => by
    by_cases hj : j ∈ ws
    · have q := R.at_ j sl e
      rw [h j hj] at e
      cases e
      exact q
    · exact (R.at_ j sl e).to (wipe_out hj) rfl (fun _ _ _ _ => rfl) fun _ _ z => z⟩
theorem Rep.forget (R : Rep K O H0 H P σ S) (hi : i < S.length) : Rep K O H0 H (P.set i []) σ (S.set i .no) ∧ Same (fro H O P) (fro H O (P.set i [])) :=
  R.step hi rfl (fun _ _ => rfl) (fun a m => (nomatch m)) (fun a m => (nomatch m)) (fun a o e _ => e) fun _ => List.getElem?_set_self (by rw [R.lenP]; exact hi)
/-- beside what runs, Dl is kept aside -/
theorem Rep.side (R : Rep K O H0 H P σ S) (e : Same H H') {l : Addr} (hl : H l = none) (hl' : H' l ≠ none) : Rep K (l :: O) (hidL H' P.flatten) H' P σ S := by
  have olv : ∀ a, a ∈ l :: O → hidL H' P.flatten a ≠ none := fun a m z => by
    have n : a ∉ P.flatten ∧ H' a ≠ none := by
      rcases List.mem_cons.mp m with q | q
      · rw [q]
        exact ⟨R.notP hl, hl'⟩
      · refine ⟨fun m2 => (R.pO m2).1 q, fun z2 => ?_⟩
        cases y : H0 a with
        | none => exact R.olv a q y
        | some o => rw [e _ _ (R.keep _ _ y)] at z2; cases z2
    cases y : H' a with
    | none => exact n.2 y
    | some o => rw [hidL_some.mpr ⟨n.1, y⟩] at z; cases z
  have g : Same (fro H O P) (fro H' (l :: O) P) := hid_le e fun a m => by
    rcases List.mem_append.mp m with q | q
    · rcases List.mem_cons.mp q with q | q
      · exact .inr (by rw [q]; exact hl)
      · exact .inl (List.mem_append_left _ q)
    · exact .inl (List.mem_append_right _ q)
  exact ⟨R.len, R.lenP, olv, fun _ _ z => z, R.inj, fun a m => by rw [R.same_at e m]; exact R.liv a m,
    fun i sl h => (R.at_ i sl h).to rfl rfl (fun m a h1 h2 => R.same_at e (mem_flat h1 h2)) g⟩
end
end Dx

namespace Dx
open PySem PySem.Spec PyProof.Rows L2

/-! ## expressions -/
def EvD (K : PySem.W.Frag) (te : TE) (S : List Sl) (d : D) : Prop := ∀ O H0 H P σ, Rep K O H0 H P σ S → ∀ Q : VK, (∀ v H', Same H H' → Rp K (fro H' O P) v d → Q v H') → te σ H Q
def EvF (K : PySem.W.Frag) (te : TE) (S : List Sl) (d : D) : Prop := ∀ O H0 H P σ, Rep K O H0 H P σ S → ∀ Q : VK, (∀ v H', Same H H' → Rp K H' v d → Q v H') → te σ H Q
def EvN (K : PySem.W.Frag) (te : TE) (S : List Sl) (ds : List D) : Prop := ∀ O H0 H P σ, Rep K O H0 H P σ S → ∀ Q : VK, (∀ p vs H', Same H H' → H p = none → H' p = some (.lst vs) → RpAll K (fro H' O ([p] :: P)) vs ds → Q (.ref p) H') → te σ H Q
def EvT (K : PySem.W.Frag) (tt : TT) (S : List Sl) (b : Bool) : Prop := ∀ O H0 H P σ, Rep K O H0 H P σ S → ∀ Q : Bool → Hp → Prop, (∀ H', Same H H' → Q b H') → tt σ H Q
def EvA (K : PySem.W.Frag) (ta : TA) (S : List Sl) (ds : List D) : Prop := ∀ O H0 H P σ, Rep K O H0 H P σ S → ∀ Q : List V → Hp → Prop, (∀ vs H', Same H H' → RpAll K (fro H' O P) vs ds → Q vs H') → ta σ H Q
def EvB (K : PySem.W.Frag) (ta : TA) (S : List Sl) (ds : List D) : Prop := ∀ O H0 H P σ, Rep K O H0 H P σ S → ∀ Q : List V → Hp → Prop, (∀ vs H', Same H H' → RpAll K H' vs ds → Q vs H') → ta σ H Q
def EvO (K : PySem.W.Frag) (to : TO) (S : List Sl) (o : Option Int) : Prop := ∀ O H0 H P σ, Rep K O H0 H P σ S → ∀ Q : Option Int → Hp → Prop, (∀ H', Same H H' → Q o H') → to σ H Q

section
variable {K : PySem.W.Frag} {S : List Sl} {ta tb te tc : TE} {t u : TT} {d e : D} {ds es : List D} {i j : Int} {n : Nat} {a b : Bool} {x y : Str}
theorem evf (h : EvD K te S d) : EvF K te S d := fun O H0 H P σ R Q q => h O H0 H P σ R Q fun v H' e r => q v H' e (r.mono fro_le)
theorem evd_new (h : EvN K te S ds) : EvD K te S (.lst ds) := fun O H0 H P σ R Q q => h O H0 H P σ R Q fun p vs H' e n hp r =>
  q _ H' e (.lst (fro_some.mpr ⟨R.notO n, R.notP n, hp⟩) (r.mono (hid_le (fun _ _ z => z) fun a m => .inl (by
    rcases List.mem_append.mp m with m | m
    · exact List.mem_append_left _ m
    · exact List.mem_append_right _ (by rw [List.flatten_cons]; exact List.mem_append_right _ m)))))
theorem sc_int (h : EvF K te S (.int i)) : EvD K te S (.int i) := fun O H0 H P σ R Q q => h O H0 H P σ R Q fun v H' e r => q v H' e (by cases r; exact .int _)
theorem sc_bl (h : EvF K te S (.bl a)) : EvD K te S (.bl a) := fun O H0 H P σ R Q q => h O H0 H P σ R Q fun v H' e r => q v H' e (by cases r; exact .bl _)
theorem sc_str (h : EvF K te S (.str x)) : EvD K te S (.str x) := fun O H0 H P σ R Q q => h O H0 H P σ R Q fun v H' e r => q v H' e (by cases r; exact .str _)
theorem sc_non (h : EvF K te S .non) : EvD K te S .non := fun O H0 H P σ R Q q => h O H0 H P σ R Q fun v H' e r => q v H' e (by cases r; exact .non)
theorem EvD.to (h : EvD K te S d) (q : d = e) : EvD K te S e := q ▸ h
theorem EvF.to (h : EvF K te S d) (q : d = e) : EvF K te S e := q ▸ h
theorem EvN.to (h : EvN K te S ds) (q : ds = es) : EvN K te S es := q ▸ h
theorem EvT.to (h : EvT K t S a) (q : a = b) : EvT K t S b := q ▸ h

/-! names, constants -/
theorem evd_var {k : Nat} (h : S[k]? = some (.sh d)) : EvD K (tVar k) S d := fun O H0 H P σ R Q q => by
  obtain ⟨v, e, r⟩ := R.at_ k _ h
  exact ⟨v, e, q v H (Same.refl H) r⟩
theorem evf_own {k : Nat} (h : S[k]? = some (.ow ds)) : EvF K (tVar k) S (.lst ds) := fun O H0 H P σ R Q q => by
  obtain ⟨p, vs, e, _, hp, r⟩ := R.at_ k _ h
  exact ⟨_, e, q _ H (Same.refl H) (.lst hp (r.mono fro_le))⟩
theorem evd_cint : EvD K (tC (.int i)) S (.int i) := fun O H0 H P σ R Q q => q _ H (Same.refl H) (.int i)
theorem evd_cbl : EvD K (tC (.bl a)) S (.bl a) := fun O H0 H P σ R Q q => q _ H (Same.refl H) (.bl a)
theorem evd_cstr : EvD K (tC (.str x)) S (.str x) := fun O H0 H P σ R Q q => q _ H (Same.refl H) (.str x)
theorem evd_cnon : EvD K (tC .non) S .non := fun O H0 H P σ R Q q => q _ H (Same.refl H) .non

/-! operators -/
theorem ev2 {r : R2} {z : D} (ha : EvF K ta S d) (hb : EvF K tb S e)
    (hr : ∀ x y H Q, Rp K H x d → Rp K H y e → (∀ v, (∀ F, Rp K F v z) → Q v H) → r x y H Q) : EvD K (tOp r ta tb) S z := fun O H0 H P σ R Q q =>
  ha O H0 H P σ R _ fun x H1 e1 r1 => hb O H0 H1 P σ (R.ext e1) _ fun y H2 e2 r2 => hr x y H2 Q (r1.mono e2) r2 fun v hv => q v H2 (e1.trans e2) (hv _)
theorem ev1 {r : V → Hp → VK → Prop} {z : D} (ha : EvF K ta S d) (hr : ∀ x H Q, Rp K H x d → (∀ v, (∀ F, Rp K F v z) → Q v H) → r x H Q) : EvD K (tUn r ta) S z := fun O H0 H P σ R Q q =>
  ha O H0 H P σ R _ fun x H1 e1 r1 => hr x H1 Q r1 fun v hv => q v H1 e1 (hv _)
theorem evd_add (ha : EvF K ta S (.int i)) (hb : EvF K tb S (.int j)) : EvD K (tOp (rI0 fun i j => .int (i + j)) ta tb) S (.int (i + j)) :=
  ev2 ha hb fun x y H Q h1 h2 q => by cases h1; cases h2; exact ⟨i, j, rfl, rfl, q _ fun _ => .int _⟩
theorem evd_sub (ha : EvF K ta S (.int i)) (hb : EvF K tb S (.int j)) : EvD K (tOp (rI0 fun i j => .int (i - j)) ta tb) S (.int (i - j)) :=
  ev2 ha hb fun x y H Q h1 h2 q => by cases h1; cases h2; exact ⟨i, j, rfl, rfl, q _ fun _ => .int _⟩
theorem evd_mul (ha : EvF K ta S (.int i)) (hb : EvF K tb S (.int j)) (hc : CMul i j) : EvD K (tOp (rI CMul fun i j => .int (i * j)) ta tb) S (.int (i * j)) :=
  ev2 ha hb fun x y H Q h1 h2 q => by cases h1; cases h2; exact ⟨i, j, rfl, rfl, hc, q _ fun _ => .int _⟩
theorem evd_mulW (ha : EvF K ta S (.int i)) (hb : EvF K tb S (.int j)) (hc : CMulW i j) : EvD K (tOp (rI CMulW fun i j => .int (i * j)) ta tb) S (.int (i * j)) :=
  ev2 ha hb fun x y H Q h1 h2 q => by cases h1; cases h2; exact ⟨i, j, rfl, rfl, hc, q _ fun _ => .int _⟩
theorem evd_div (ha : EvF K ta S (.int i)) (hb : EvF K tb S (.int j)) (hc : CDiv i j) : EvD K (tOp (rI CDiv fun i j => .int (i / j)) ta tb) S (.int (i / j)) :=
  ev2 ha hb fun x y H Q h1 h2 q => by cases h1; cases h2; exact ⟨i, j, rfl, rfl, hc, q _ fun _ => .int _⟩
theorem evd_mod (ha : EvF K ta S (.int i)) (hb : EvF K tb S (.int j)) (hc : 0 < j) : EvD K (tOp (rI (fun _ j => 0 < j) fun i j => .int (i % j)) ta tb) S (.int (i % j)) :=
  ev2 ha hb fun x y H Q h1 h2 q => by cases h1; cases h2; exact ⟨i, j, rfl, rfl, hc, q _ fun _ => .int _⟩
theorem evd_pow (ha : EvF K ta S (.int i)) (hb : EvF K tb S (.int j)) (hc : CPow i j) : EvD K (tOp (rI CPow fun i j => .int (i ^ j.toNat)) ta tb) S (.int (i ^ j.toNat)) :=
  ev2 ha hb fun x y H Q h1 h2 q => by cases h1; cases h2; exact ⟨i, j, rfl, rfl, hc, q _ fun _ => .int _⟩
theorem evd_neg (ha : EvF K ta S (.int i)) : EvD K (tUn (rU fun i => .int (-i)) ta) S (.int (-i)) :=
  ev1 ha fun x H Q h1 q => by cases h1; exact ⟨i, rfl, q _ fun _ => .int _⟩
theorem evd_lt (ha : EvF K ta S (.int i)) (hb : EvF K tb S (.int j)) : EvD K (tOp (rI0 fun i j => .bl (decide (i < j))) ta tb) S (.bl (decide (i < j))) :=
  ev2 ha hb fun x y H Q h1 h2 q => by cases h1; cases h2; exact ⟨i, j, rfl, rfl, q _ fun _ => .bl _⟩
theorem evd_le (ha : EvF K ta S (.int i)) (hb : EvF K tb S (.int j)) : EvD K (tOp (rI0 fun i j => .bl (decide (i ≤ j))) ta tb) S (.bl (decide (i ≤ j))) :=
  ev2 ha hb fun x y H Q h1 h2 q => by cases h1; cases h2; exact ⟨i, j, rfl, rfl, q _ fun _ => .bl _⟩
theorem evd_gt (ha : EvF K ta S (.int i)) (hb : EvF K tb S (.int j)) : EvD K (tOp (rI0 fun i j => .bl (decide (j < i))) ta tb) S (.bl (decide (j < i))) :=
  ev2 ha hb fun x y H Q h1 h2 q => by cases h1; cases h2; exact ⟨i, j, rfl, rfl, q _ fun _ => .bl _⟩
theorem evd_ge (ha : EvF K ta S (.int i)) (hb : EvF K tb S (.int j)) : EvD K (tOp (rI0 fun i j => .bl (decide (j ≤ i))) ta tb) S (.bl (decide (j ≤ i))) :=
  ev2 ha hb fun x y H Q h1 h2 q => by cases h1; cases h2; exact ⟨i, j, rfl, rfl, q _ fun _ => .bl _⟩
theorem evd_eqI (ha : EvF K ta S (.int i)) (hb : EvF K tb S (.int j)) : EvD K (tOp rEq ta tb) S (.bl (decide (i = j))) :=
  ev2 ha hb fun x y H Q h1 h2 q => by cases h1; cases h2; exact ⟨rfl, q _ fun _ => by rw [show decide (V.int i = V.int j) = decide (i = j) from by simp]; exact .bl _⟩
theorem evd_neI (ha : EvF K ta S (.int i)) (hb : EvF K tb S (.int j)) : EvD K (tOp rNe ta tb) S (.bl (!decide (i = j))) :=
  ev2 ha hb fun x y H Q h1 h2 q => by cases h1; cases h2; exact ⟨rfl, q _ fun _ => by rw [show decide (V.int i = V.int j) = decide (i = j) from by simp]; exact .bl _⟩
theorem evd_eqB (ha : EvF K ta S (.bl a)) (hb : EvF K tb S (.bl b)) : EvD K (tOp rEq ta tb) S (.bl (decide (a = b))) :=
  ev2 ha hb fun x y H Q h1 h2 q => by cases h1; cases h2; exact ⟨rfl, q _ fun _ => by rw [show decide (V.bl a = V.bl b) = decide (a = b) from by simp]; exact .bl _⟩
theorem evd_neB (ha : EvF K ta S (.bl a)) (hb : EvF K tb S (.bl b)) : EvD K (tOp rNe ta tb) S (.bl (!decide (a = b))) :=
  ev2 ha hb fun x y H Q h1 h2 q => by cases h1; cases h2; exact ⟨rfl, q _ fun _ => by rw [show decide (V.bl a = V.bl b) = decide (a = b) from by simp]; exact .bl _⟩
theorem evd_eqS (ha : EvF K ta S (.str x)) (hb : EvF K tb S (.str y)) : EvD K (tOp rEq ta tb) S (.bl (decide (x = y))) :=
  ev2 ha hb fun x' y' H Q h1 h2 q => by cases h1; cases h2; exact ⟨rfl, q _ fun _ => by rw [show decide (V.str x = V.str y) = decide (x = y) from by simp]; exact .bl _⟩
theorem evd_neS (ha : EvF K ta S (.str x)) (hb : EvF K tb S (.str y)) : EvD K (tOp rNe ta tb) S (.bl (!decide (x = y))) :=
  ev2 ha hb fun x' y' H Q h1 h2 q => by cases h1; cases h2; exact ⟨rfl, q _ fun _ => by rw [show decide (V.str x = V.str y) = decide (x = y) from by simp]; exact .bl _⟩
theorem evd_eqD (ha : EvF K ta S d) (hb : EvF K tb S e) (sd : SeqAt.shaped (toPy d) = true) (se : SeqAt.shaped (toPy e) = true) : EvD K (tOp (rEqD K) ta tb) S (.bl (PyData.eqv (toPy d) (toPy e))) :=
  ev2 ha hb fun x y H Q h1 h2 q => ⟨_, _, h1.dp, h2.dp, sd, se, q _ fun _ => .bl _⟩
theorem evd_neD (ha : EvF K ta S d) (hb : EvF K tb S e) (sd : SeqAt.shaped (toPy d) = true) (se : SeqAt.shaped (toPy e) = true) : EvD K (tOp (rNeD K) ta tb) S (.bl (!PyData.eqv (toPy d) (toPy e))) :=
  ev2 ha hb fun x y H Q h1 h2 q => ⟨_, _, h1.dp, h2.dp, sd, se, q _ fun _ => .bl _⟩
def isNon : D → Bool
  | .non => true
  | _ => false
theorem non_iff {H : Hp} {v : V} (h : Rp K H v d) : decide (v = .non) = isNon d := by
  cases h <;> simp [isNon]
theorem evd_isN (ha : EvF K ta S d) : EvD K (tOp (fun x y H Q => y = .non ∧ Q (.bl (decide (x = .non))) H) ta (tC .non)) S (.bl (isNon d)) :=
  ev2 ha (evf evd_cnon) fun x y H Q h1 h2 q => by
    cases h2
    refine ⟨rfl, q _ fun _ => ?_⟩
    rw [non_iff h1]
    exact .bl _
theorem evd_notB (ha : EvF K ta S (.bl a)) (hb : EvF K tb S (.bl b)) : EvD K (tOp rNotB ta tb) S (.bl (!decide (a = b))) :=
  ev2 ha hb fun x y H Q h1 h2 q => by cases h1; cases h2; exact ⟨a, b, rfl, rfl, q _ fun _ => .bl _⟩
theorem evd_addS (ha : EvF K ta S (.str x)) (hb : EvF K tb S (.str y)) (h : x.length + y.length ≤ sizeLine) : EvD K (tOp (fun x y H Q => ∃ i j, x = .str i ∧ y = .str j ∧ i.length + j.length ≤ sizeLine ∧ Q (.str (i ++ j)) H) ta tb) S (.str (x ++ y)) :=
  ev2 ha hb fun x' y' H Q h1 h2 q => by cases h1; cases h2; exact ⟨x, y, rfl, rfl, h, q _ fun _ => .str _⟩

/-! indices -/
theorem ixv {α β : Type} {xs : List α} {ys : List β} {i : Int} {y : β} (h : atI ys i = some y) (hl : xs.length = ys.length) : ∃ k : Nat, ys[k]? = some y ∧ ∀ x : α, xs[k]? = some x → atI xs i = some x := by
  unfold atI at *
  rw [hl]
  cases q : ixN ys.length i with
  | none => rw [q] at h; cases h
  | some k => rw [q] at h; exact ⟨k, h, fun x hx => hx⟩
/-- a list that is read: its items tell what is frozen -/
def EvL (K : PySem.W.Frag) (te : TE) (S : List Sl) (ds : List D) : Prop := ∀ O H0 H P σ, Rep K O H0 H P σ S → ∀ Q : VK, (∀ p vs H', Same H H' → SqL K H' p vs → RpAll K (fro H' O P) vs ds → Q (.ref p) H') → te σ H Q
/-- a tracked list -/
def EvM (K : PySem.W.Frag) (te : TE) (S : List Sl) (ds : List D) : Prop := ∀ O H0 H P σ, Rep K O H0 H P σ S → ∀ Q : VK, (∀ p vs H', Same H H' → H' p = some (.lst vs) → RpAll K (fro H' O P) vs ds → Q (.ref p) H') → te σ H Q
theorem evm_d (h : EvD K te S (.lst ds)) : EvM K te S ds := fun O H0 H P σ R Q q => h O H0 H P σ R _ fun x H1 e1 r1 => by
  cases r1 with
  | lst hp r => exact q _ _ H1 e1 (fro_le _ _ hp) r
theorem evm_own {k : Nat} (hk : S[k]? = some (.ow ds)) : EvM K (tVar k) S ds := fun O H0 H P σ R Q q => by
  obtain ⟨p, vs, e, _, hp, r⟩ := R.at_ k _ hk
  exact ⟨_, e, q p vs H (Same.refl H) hp r⟩
theorem evl_m (h : EvM K te S ds) : EvL K te S ds := fun O H0 H P σ R Q q => h O H0 H P σ R _ fun p vs H1 e1 hp r => q p vs H1 e1 (.of hp) r
theorem evl_scr {ns : List Int} (h : EvF K te S (.scr ns)) : EvL K te S (ns.map D.int) := fun O H0 H P σ R Q q => h O H0 H P σ R _ fun x H1 e1 r1 => by
  cases r1 with
  | scr hp => exact q _ _ H1 e1 hp RpAll.ints
theorem evd_ix (ha : EvL K ta S ds) (hb : EvF K tb S (.int i)) (h : atI ds i = some d) : EvD K (tOp (rIxL K) ta tb) S d := fun O H0 H P σ R Q q =>
  ha O H0 H P σ R _ fun p vs H1 e1 hp r => hb O H0 H1 P σ (R.ext e1) _ fun y H2 e2 r2 => by
    cases r2
    obtain ⟨k, h1, h2⟩ := ixv h r.length
    obtain ⟨v, h3, h4⟩ := r.get' h1
    exact ⟨p, vs, i, v, rfl, rfl, e2.seq hp, h2 v h3, q v H2 (e1.trans e2) (h4.mono (fro_same e2))⟩
theorem evd_ixT (ha : EvD K ta S (.tup ds)) (hb : EvF K tb S (.int i)) (h : atI ds i = some d) : EvD K (tOp (rIxT K) ta tb) S d := fun O H0 H P σ R Q q =>
  ha O H0 H P σ R _ fun x H1 e1 r1 => hb O H0 H1 P σ (R.ext e1) _ fun y H2 e2 r2 => by
    cases r1 with
    | tup hp r =>
      cases r2
      obtain ⟨k, h1, h2⟩ := ixv h r.length
      obtain ⟨v, h3, h4⟩ := r.get' h1
      exact ⟨_, _, i, v, rfl, rfl, .of (e2 _ _ (fro_le _ _ hp)), h2 v h3, q v H2 (e1.trans e2) (h4.mono (fro_same e2))⟩
theorem evd_ixS {c : Nat} (ha : EvF K ta S (.str x)) (hb : EvF K tb S (.int i)) (hl : x.length ≤ sizeLine) (h : atI x.cps.toList i = some c) : EvD K (tOp rIxS ta tb) S (.str ⟨#[c]⟩) :=
  ev2 ha hb fun x' y' H Q h1 h2 q => by cases h1; cases h2; exact ⟨x, i, c, rfl, rfl, hl, h, q _ fun _ => .str _⟩
theorem atI_ge {α : Type} {xs : List α} {i : Int} {v : α} (h0 : 0 ≤ i) (h : xs[i.toNat]? = some v) : atI xs i = some v := by
  obtain ⟨k, rfl⟩ := Int.eq_ofNat_of_zero_le h0
  exact atI_nat h
theorem atI_neg1 {α : Type} {xs : List α} {v : α} (h : xs[xs.length - 1]? = some v) : atI xs (-1) = some v := by
  have hl : xs ≠ [] := fun z => by rw [z] at h; cases h
  obtain ⟨l, x, rfl⟩ : ∃ l x, xs = l ++ [x] := ⟨xs.dropLast, xs.getLast hl, (List.dropLast_concat_getLast hl).symm⟩
  rw [List.length_append, List.length_singleton, Nat.add_sub_cancel, List.getElem?_append_right (Nat.le_refl _), Nat.sub_self] at h
  cases h
  exact atI_last l _
theorem getD_at {ns : List Int} {k : Nat} (h : k < ns.length) : (ns.map D.int)[k]? = some (.int (ns.getD k 0)) := by
  rw [List.getElem?_map, List.getElem?_eq_getElem h, List.getD_eq_getElem?_getD, List.getElem?_eq_getElem h]
  rfl
theorem getD_at0 {ns : List Int} {k : Nat} (h : k < ns.length) : ns[k]? = some (ns.getD k 0) := by
  rw [List.getElem?_eq_getElem h, List.getD_eq_getElem?_getD, List.getElem?_eq_getElem h]
  rfl
/-- row[i], row of ints -/
theorem evd_ixI {ns : List Int} (ha : EvL K ta S (ns.map D.int)) (hb : EvF K tb S (.int i)) (h : 0 ≤ i ∧ i < ns.length) : EvD K (tOp (rIxL K) ta tb) S (.int (ns.getD i.toNat 0)) :=
  evd_ix ha hb (atI_ge h.1 (getD_at (by omega)))
theorem evd_ixI1 {ns : List Int} (ha : EvL K ta S (ns.map D.int)) (h : 0 < ns.length) : EvD K (tOp (rIxL K) ta (tUn (rU fun i => .int (-i)) (tC (.int 1)))) S (.int (ns.getD (ns.length - 1) 0)) :=
  evd_ix ha (evf (evd_neg (evf evd_cint))) (atI_neg1 (by rw [List.length_map]; exact getD_at (by omega)))

/-! displays, arguments -/
theorem ea_nil : EvA K tNil S [] := fun O H0 H P σ R Q q => q [] H (Same.refl H) .nil
theorem ea_cons {tr : TA} (h : EvD K ta S d) (hr : EvA K tr S ds) : EvA K (tCons ta tr) S (d :: ds) := fun O H0 H P σ R Q q =>
  h O H0 H P σ R _ fun v H1 e1 r1 => hr O H0 H1 P σ (R.ext e1) _ fun vs H2 e2 r2 => q _ H2 (e1.trans e2) (.cons (r1.mono (fro_same e2)) r2)
theorem eb_nil : EvB K tNil S [] := fun O H0 H P σ R Q q => q [] H (Same.refl H) .nil
theorem eb_cons {tr : TA} (h : EvF K ta S d) (hr : EvB K tr S ds) : EvB K (tCons ta tr) S (d :: ds) := fun O H0 H P σ R Q q =>
  h O H0 H P σ R _ fun v H1 e1 r1 => hr O H0 H1 P σ (R.ext e1) _ fun vs H2 e2 r2 => q _ H2 (e1.trans e2) (.cons (r1.mono e2) r2)
theorem evd_tup {ta : TA} (h : EvA K ta S ds) (hl : ds.length ≤ sizeLine) : EvD K (tTup ta) S (.tup ds) := fun O H0 H P σ R Q q =>
  h O H0 H P σ R _ fun vs H1 e1 r1 => ⟨by rw [r1.length]; exact hl, fun p hp => q _ _ (e1.trans (same_new hp)) (.tup (fro_some.mpr ⟨(R.ext e1).notO hp, (R.ext e1).notP hp, upd_same⟩) (r1.mono (fro_same (same_new hp))))⟩
theorem fro_cons {H : Hp} {O : List Addr} {P : List (List Addr)} {p : Addr} {o : HO} (hp : H p = none) : Same (fro H O P) (fro (upd H p o) O ([p] :: P)) := hid_le (same_new hp) fun a m => by
  rcases List.mem_append.mp m with m | m
  · exact .inl (List.mem_append_left _ m)
  · rw [List.flatten_cons] at m
    rcases List.mem_append.mp m with m | m
    · exact .inr (by rw [List.mem_singleton.mp m]; exact hp)
    · exact .inl (List.mem_append_right _ m)
theorem fro_cons' {H H' : Hp} {O : List Addr} {P : List (List Addr)} {p : Addr} (e : Same H H') (hp : H p = none) : Same (fro H O P) (fro H' O ([p] :: P)) := hid_le e fun a m => by
  rcases List.mem_append.mp m with m | m
  · exact .inl (List.mem_append_left _ m)
  · rw [List.flatten_cons] at m
    rcases List.mem_append.mp m with m | m
    · exact .inr (by rw [List.mem_singleton.mp m]; exact hp)
    · exact .inl (List.mem_append_right _ m)
theorem evn_lst {ta : TA} (h : EvA K ta S ds) (hl : ds.length ≤ sizeLine) : EvN K (tLst ta) S ds := fun O H0 H P σ R Q q =>
  h O H0 H P σ R _ fun vs H1 e1 r1 => ⟨by rw [r1.length]; exact hl, fun p hp => q p vs _ (e1.trans (same_new hp)) (e1.free hp) upd_same (r1.mono (fro_cons hp))⟩

/-! tests -/
theorem et_test (h : EvF K te S (.bl a)) : EvT K (tTest te) S a := fun O H0 H P σ R Q q => h O H0 H P σ R _ fun v H1 e1 r1 => by cases r1; exact ⟨a, rfl, q H1 e1⟩
theorem et_B (h : EvF K te S (.bl a)) : EvT K (tB te) S a := fun O H0 H P σ R Q q => h O H0 H P σ R _ fun v H1 e1 r1 => by cases r1; exact ⟨a, rfl, q H1 e1⟩
theorem et_and (h1 : EvT K t S a) (h2 : a = true → EvT K u S b) : EvT K (tAnd t u) S (a && b) := fun O H0 H P σ R Q q => h1 O H0 H P σ R _ fun H1 e1 => by
  cases a with
  | true => exact h2 rfl O H0 H1 P σ (R.ext e1) Q fun H2 e2 => q H2 (e1.trans e2)
  | false => exact q H1 e1
theorem et_or (h1 : EvT K t S a) (h2 : a = false → EvT K u S b) : EvT K (tOr t u) S (a || b) := fun O H0 H P σ R Q q => h1 O H0 H P σ R _ fun H1 e1 => by
  cases a with
  | true => exact q H1 e1
  | false => exact h2 rfl O H0 H1 P σ (R.ext e1) Q fun H2 e2 => q H2 (e1.trans e2)
theorem et_not (h1 : EvT K t S a) : EvT K (tNot t) S (!a) := fun O H0 H P σ R Q q => h1 O H0 H P σ R _ fun H1 e1 => q H1 e1
theorem evd_and (h1 : EvF K ta S (.bl a)) (h2 : a = true → EvF K tb S (.bl b)) : EvD K (tAndV ta tb) S (.bl (a && b)) := fun O H0 H P σ R Q q => h1 O H0 H P σ R _ fun v H1 e1 r1 => by
  cases r1
  refine ⟨a, rfl, ?_⟩
  cases a with
  | true => exact h2 rfl O H0 H1 P σ (R.ext e1) Q fun w H2 e2 r2 => by cases r2; exact q _ H2 (e1.trans e2) (.bl _)
  | false => exact q _ H1 e1 (.bl _)
theorem evd_or (h1 : EvF K ta S (.bl a)) (h2 : a = false → EvF K tb S (.bl b)) : EvD K (tOrV ta tb) S (.bl (a || b)) := fun O H0 H P σ R Q q => h1 O H0 H P σ R _ fun v H1 e1 r1 => by
  cases r1
  refine ⟨a, rfl, ?_⟩
  cases a with
  | false => exact h2 rfl O H0 H1 P σ (R.ext e1) Q fun w H2 e2 r2 => by cases r2; exact q _ H2 (e1.trans e2) (.bl _)
  | true => exact q _ H1 e1 (.bl _)
theorem evd_not (h1 : EvF K ta S (.bl a)) : EvD K (tNotV ta) S (.bl (!a)) := fun O H0 H P σ R Q q => h1 O H0 H P σ R _ fun v H1 e1 r1 => by
  cases r1
  exact ⟨a, rfl, q _ H1 e1 (.bl _)⟩
theorem evd_if (h : EvT K t S a) (h1 : a = true → EvD K ta S d) (h2 : a = false → EvD K tb S d) : EvD K (tIf t ta tb) S d := fun O H0 H P σ R Q q => h O H0 H P σ R _ fun H1 e1 => by
  cases a with
  | true => exact h1 rfl O H0 H1 P σ (R.ext e1) Q fun w H2 e2 r2 => q _ H2 (e1.trans e2) r2
  | false => exact h2 rfl O H0 H1 P σ (R.ext e1) Q fun w H2 e2 r2 => q _ H2 (e1.trans e2) r2
/-- two comparisons in a chain -/
theorem ev_chain {g g' : Int → Int → Bool} {k : Int} (ha : EvF K ta S (.int i)) (hb : EvF K tb S (.int j)) (hc : g i j = true → EvF K tc S (.int k)) :
    EvD K (tChain (rI0 fun i j => .bl (g i j)) (rI0 fun i j => .bl (g' i j)) ta tb tc) S (.bl (g i j && g' j k)) := fun O H0 H P σ R Q q =>
  ha O H0 H P σ R _ fun x H1 e1 r1 => hb O H0 H1 P σ (R.ext e1) _ fun y H2 e2 r2 => by
    cases r1
    cases r2
    refine ⟨i, j, rfl, rfl, g i j, rfl, ?_⟩
    cases h : g i j with
    | true =>
      refine hc h O H0 H2 P σ (R.ext (e1.trans e2)) _ fun z H3 e3 r3 => ?_
      cases r3
      exact ⟨j, k, rfl, rfl, q _ H3 ((e1.trans e2).trans e3) (by rw [h]; exact .bl _)⟩
    | false => exact q _ H2 (e1.trans e2) (by rw [h]; exact .bl _)
end
end Dx

namespace Dx
open PySem PySem.Spec PyProof.Rows L2

section
variable {K : PySem.W.Frag} {S : List Sl} {ta tb te tc : TE} {t u : TT} {d e : D} {ds es : List D} {i j : Int} {n : Nat} {a b : Bool} {x y : Str}

/-! ## slices -/
def cutG {α : Type} (xs : List α) (lo hi : Option Int) : List α := (xs.drop (HT.sIx xs.length 0 lo)).take (HT.sIx xs.length xs.length hi - HT.sIx xs.length 0 lo)
theorem cutG_map {α β : Type} (f : α → β) (xs : List α) (lo hi : Option Int) : cutG (xs.map f) lo hi = (cutG xs lo hi).map f := by
  unfold cutG
  rw [List.length_map, List.map_take, List.map_drop]
theorem cutG_to {α : Type} (xs : List α) {i : Int} (h : 0 ≤ i) : cutG xs none (some i) = xs.take i.toNat := by
  unfold cutG
  obtain ⟨k, rfl⟩ := Int.eq_ofNat_of_zero_le h
  rw [HT.sIx_none, HT.sIx_nat, Nat.sub_zero, List.drop_zero]
  simp
theorem cutG_from {α : Type} (xs : List α) {i : Int} (h : 0 ≤ i) : cutG xs (some i) none = xs.drop i.toNat := by
  unfold cutG
  obtain ⟨k, rfl⟩ := Int.eq_ofNat_of_zero_le h
  rw [HT.sIx_none, HT.sIx_nat]
  simp
  rw [List.take_of_length_le (by rw [List.length_drop]; omega)]
  by_cases hk : k ≤ xs.length
  · rw [Nat.min_eq_left hk]
  · rw [Nat.min_eq_right (by omega), List.drop_length, List.drop_of_length_le (by omega)]
theorem cutG_mid {α : Type} (xs : List α) {i j : Int} (h : 0 ≤ i) (hj : 0 ≤ j) : cutG xs (some i) (some j) = (xs.take j.toNat).drop i.toNat := by
  unfold cutG
  obtain ⟨k, rfl⟩ := Int.eq_ofNat_of_zero_le h
  obtain ⟨m, rfl⟩ := Int.eq_ofNat_of_zero_le hj
  rw [HT.sIx_nat, HT.sIx_nat, List.drop_take]
  simp
  by_cases hk : k ≤ xs.length
  · rw [Nat.min_eq_left hk]
    by_cases hm : m ≤ xs.length
    · rw [Nat.min_eq_left hm]
    · rw [Nat.min_eq_right (by omega), List.take_of_length_le (by rw [List.length_drop]; omega), List.take_of_length_le (by rw [List.length_drop]; omega)]
  · rw [Nat.min_eq_right (show xs.length ≤ k by omega), List.drop_length, List.drop_of_length_le (show xs.length ≤ k by omega)]
    simp
theorem cutG_upto1 {α : Type} (xs : List α) : cutG xs none (some (-1)) = xs.dropLast := by
  unfold cutG HT.sIx
  rw [List.dropLast_eq_take]
  simp
  congr 1
  omega
theorem RpAll.cut {H : Hp} {vs : List V} (h : RpAll K H vs ds) (lo hi : Option Int) : RpAll K H (cutV vs lo hi) (cutG ds lo hi) := by
  have e : cutV vs lo hi = cutG vs lo hi := rfl
  rw [e]
  unfold cutG
  rw [h.length]
  exact (h.drop _).take _
theorem eo_none : EvO K tNoPart S none := fun O H0 H P σ R Q q => q H (Same.refl H)
theorem eo_some (h : EvF K te S (.int i)) : EvO K (tPart te) S (some i) := fun O H0 H P σ R Q q => h O H0 H P σ R _ fun v H1 e1 r1 => by
  cases r1
  exact ⟨i, rfl, q H1 e1⟩
theorem evn_slice {tl th : TO} {lo hi : Option Int} (h : EvL K te S ds) (hl : EvO K tl S lo) (hh : EvO K th S hi) : EvN K (tSl (rSlL K) te tl th) S (cutG ds lo hi) := fun O H0 H P σ R Q q =>
  h O H0 H P σ R _ fun p vs H1 e1 hp r => hl O H0 H1 P σ (R.ext e1) _ fun H2 e2 => hh O H0 H2 P σ (R.ext (e1.trans e2)) _ fun H3 e3 =>
    ⟨p, vs, rfl, e3.seq (e2.seq hp), fun l hn => q l _ _ (((e1.trans e2).trans e3).trans (same_new hn)) (((e1.trans e2).trans e3).free hn) upd_same
      (((r.mono (fro_same (e2.trans e3))).cut lo hi).mono (fro_cons hn))⟩
theorem evn_rev (h : EvL K te S ds) : EvN K (tRevL K te) S ds.reverse := fun O H0 H P σ R Q q =>
  h O H0 H P σ R _ fun p vs H1 e1 hp r => ⟨p, vs, rfl, hp, fun l hn => q l _ _ (e1.trans (same_new hn)) (e1.free hn) upd_same (r.reverse.mono (fro_cons hn))⟩
theorem evn_cat (ha : EvM K ta S ds) (hb : EvM K tb S es) (hz : ds.length + es.length ≤ sizeLine) : EvN K (tOp rCat ta tb) S (ds ++ es) := fun O H0 H P σ R Q q =>
  ha O H0 H P σ R _ fun p vs H1 e1 hp r => hb O H0 H1 P σ (R.ext e1) _ fun p' vs' H2 e2 hp' r' =>
    ⟨p, p', vs, vs', rfl, rfl, e2 _ _ hp, hp', by rw [r.length, r'.length]; exact hz, fun l hn => q l _ _ ((e1.trans e2).trans (same_new hn)) ((e1.trans e2).free hn) upd_same
      (((r.mono (fro_same e2)).append r').mono (fro_cons hn))⟩
theorem evn_rep {k : Int} (ha : EvM K ta S ds) (hb : EvF K tb S (.int k)) (h1 : -(2 ^ 63) ≤ k) (h2 : k < 2 ^ 63) (hz : ds.length * k.toNat ≤ sizeLine) : EvN K (tOp rRep ta tb) S (List.replicate k.toNat ds).flatten := fun O H0 H P σ R Q q =>
  ha O H0 H P σ R _ fun p vs H1 e1 hp r => hb O H0 H1 P σ (R.ext e1) _ fun y H2 e2 r2 => by
    cases r2
    exact ⟨p, k, vs, rfl, rfl, e2 _ _ hp, h1, h2, by rw [r.length]; exact hz, fun l hn => q l _ _ ((e1.trans e2).trans (same_new hn)) ((e1.trans e2).free hn) upd_same
      (((r.mono (fro_same e2)).rep k.toNat).mono (fro_cons hn))⟩
theorem flat1 {α : Type} (k : Nat) (x : α) : (List.replicate k [x]).flatten = List.replicate k x := by
  induction k with
  | zero => rfl
  | succ k ih => rw [List.replicate_succ, List.flatten_cons, ih, List.replicate_succ]; rfl
/-- [x] * k -/
theorem evn_rep1 {k : Int} {v : Int} (ha : EvM K ta S [D.int v]) (hb : EvF K tb S (.int k)) (h2 : -1000000 ≤ k ∧ k ≤ 1000000) : EvN K (tOp rRep ta tb) S ((List.replicate k.toNat v).map D.int) := by
  have h := evn_rep ha hb (by omega) (by omega) (by
    have : (sizeLine : Nat) = 16777216 := sizeLine_eq
    simp only [List.length_singleton]
    omega)
  rw [flat1] at h
  rwa [List.map_replicate]

/-! ## calls of built-ins -/
abbrev rLenA (K : PySem.W.Frag) : List V → Hp → VK → Prop := fun xs H Q => ∃ p ys, xs = [.ref p] ∧ (SqL K H p ys ∨ SqT K H p ys) ∧ Q (.int ys.length) H
theorem evd_len (h : EvL K te S ds) : EvD K (tCB (rLenA K) (tCons te tNil)) S (.int ds.length) := fun O H0 H P σ R Q q =>
  h O H0 H P σ R _ fun p vs H1 e1 hp r => ⟨p, vs, rfl, .inl hp, by rw [r.length]; exact q _ H1 e1 (.int _)⟩
theorem evd_lenI {ns : List Int} (h : EvL K te S (ns.map D.int)) : EvD K (tCB (rLenA K) (tCons te tNil)) S (.int ns.length) := by
  have := evd_len h
  rwa [List.length_map] at this
theorem evd_lenT (h : EvD K te S (.tup ds)) : EvD K (tCB (rLenA K) (tCons te tNil)) S (.int ds.length) := fun O H0 H P σ R Q q =>
  h O H0 H P σ R _ fun x H1 e1 r1 => by
    cases r1 with
    | tup hp r => exact ⟨_, _, rfl, .inr (.of (fro_le _ _ hp)), by rw [r.length]; exact q _ H1 e1 (.int _)⟩
theorem evd_lenS (h : EvF K te S (.str x)) (hx : x.length ≤ sizeLine) : EvD K (tCB (fun xs H Q => ∃ z, xs = [.str z] ∧ z.length ≤ sizeLine ∧ Q (.int z.length) H) (tCons te tNil)) S (.int x.length) := fun O H0 H P σ R Q q =>
  h O H0 H P σ R _ fun v H1 e1 r1 => by
    cases r1
    exact ⟨x, rfl, hx, q _ H1 e1 (.int _)⟩
abbrev rListA (K : PySem.W.Frag) : List V → Hp → VK → Prop := fun xs H Q => ∃ p ys, xs = [.ref p] ∧ (SqL K H p ys ∨ SqT K H p ys) ∧ ∀ l, H l = none → Q (.ref l) (upd H l (.lst ys))
theorem evn_list (h : EvL K te S ds) : EvN K (tCB (rListA K) (tCons te tNil)) S ds := fun O H0 H P σ R Q q =>
  h O H0 H P σ R _ fun p vs H1 e1 hp r => ⟨p, vs, rfl, .inl hp, fun l hn => q l _ _ (e1.trans (same_new hn)) (e1.free hn) upd_same (r.mono (fro_cons hn))⟩
theorem evn_listT (h : EvD K te S (.tup ds)) : EvN K (tCB (rListA K) (tCons te tNil)) S ds := fun O H0 H P σ R Q q =>
  h O H0 H P σ R _ fun x H1 e1 r1 => by
    cases r1 with
    | tup hp r => exact ⟨_, _, rfl, .inr (.of (fro_le _ _ hp)), fun l hn => q l _ _ (e1.trans (same_new hn)) (e1.free hn) upd_same (r.mono (fro_cons hn))⟩
theorem evd_min2 (h1 : EvF K ta S (.int i)) (h2 : EvF K tb S (.int j)) : EvD K (tCB (fun xs H Q => ∃ i j, xs = [.int i, .int j] ∧ Q (.int (if j < i then j else i)) H) (tCons ta (tCons tb tNil))) S (.int (if j < i then j else i)) := fun O H0 H P σ R Q q =>
  h1 O H0 H P σ R _ fun v H1 e1 r1 => h2 O H0 H1 P σ (R.ext e1) _ fun w H2 e2 r2 => by
    cases r1
    cases r2
    exact ⟨i, j, rfl, q _ H2 (e1.trans e2) (.int _)⟩
theorem evd_abs (h1 : EvF K ta S (.int i)) : EvD K (tCB (fun xs H Q => ∃ i, xs = [.int i] ∧ Q (.int (if i < 0 then -i else i)) H) (tCons ta tNil)) S (.int (if i < 0 then -i else i)) := fun O H0 H P σ R Q q =>
  h1 O H0 H P σ R _ fun v H1 e1 r1 => by
    cases r1
    exact ⟨i, rfl, q _ H1 e1 (.int _)⟩
theorem evd_intB (h1 : EvF K ta S (.bl a)) : EvD K (tCB (fun xs H Q => (∃ i, xs = [.int i] ∧ Q (.int i) H) ∨ ∃ k, xs = [.bl k] ∧ Q (.int (if k then 1 else 0)) H) (tCons ta tNil)) S (.int (if a = true then 1 else 0)) := fun O H0 H P σ R Q q =>
  h1 O H0 H P σ R _ fun v H1 e1 r1 => by
    cases r1
    exact .inr ⟨a, rfl, q _ H1 e1 (.int _)⟩
def tyN : D → Option String
  | .non => some "NoneType"
  | .bl _ => some "bool"
  | .int _ => some "int"
  | .str _ => some "str"
  | .lst _ => some "list"
  | .tup _ => some "tuple"
  | .scr _ => none
theorem ty_of {H : Hp} {v : V} {s : String} (r : Rp K H v d) (h : tyN d = some s) : TyX K H v (.type s) := by
  cases r with
  | non => cases h; exact .base .non
  | bl b => cases h; exact .base (.bl b)
  | int i => cases h; exact .base (.int i)
  | str x => cases h; exact .base (.str x)
  | lst hp _ => cases h; exact .base (.lst hp)
  | tup hp _ => cases h; exact .base (.tup hp)
  | scr _ => cases h
theorem evd_isi {s c : String} (h : EvF K te S d) (ht : tyN d = some s) (hk : kitB s c = some b) : EvD K (tCB (rIsi K) (tCons te (tCons (tC (.ty c)) tNil))) S (.bl b) := fun O H0 H P σ R Q q =>
  h O H0 H P σ R _ fun v H1 e1 r1 => ⟨v, .ty c, _, _, b, rfl, .ty c, ty_of r1 ht, kit_ty hk, q _ H1 e1 (.bl _)⟩

/-! ## promises of defs -/
inductive Rv where
  | val (d : D)
  | new (ds : List D)
def RetOk (K : PySem.W.Frag) (O : List Addr) (H H' : Hp) (v : V) : Rv → Prop
  | .val d => Same H H' ∧ Rp K (hidL H' O) v d
  | .new ds => Same H H' ∧ ∃ p vs, v = .ref p ∧ H p = none ∧ H' p = some (.lst vs) ∧ RpAll K (hidL H' (p :: O)) vs ds
def PSp {α : Type} (K : PySem.W.Frag) (A : α → List D) (pre : α → Prop) (f : α → Rv) : Sp := fun vs H Q _ => ∃ a O, (∀ x, x ∈ O → H x ≠ none) ∧ RpAll K (hidL H O) vs (A a) ∧ pre a ∧ ∀ v H', RetOk K O H H' v (f a) → Q v H'

section
variable {α : Type} {A : α → List D} {pre : α → Prop} {f : α → Rv} {E : XK} {ta : TA} {dvs : List V}
theorem call_core {O : List Addr} {H0 H : Hp} {P : List (List Addr)} {σ : L2.St} (R : Rep K O H0 H P σ S) : ∀ x, x ∈ O ++ P.flatten → H x ≠ none := fun x m => by
  rcases List.mem_append.mp m with m | m
  · intro z
    cases y : H0 x with
    | none => exact R.olv x m y
    | some o => rw [R.keep _ _ y] at z; cases z
  · exact R.liv x m
theorem evd_call (a : α) (h : EvA K ta S ds) (hd : ∀ H, RpAll K H dvs es) (hA : A a = ds ++ es) (hp : pre a) (hf : f a = .val d) : EvD K (tCall (PSp K A pre f) dvs E ta) S d := fun O H0 H P σ R Q q =>
  h O H0 H P σ R _ fun vs H1 e1 r1 => ⟨a, O ++ P.flatten, call_core (R.ext e1), by rw [hA]; exact r1.append (hd _), hp, fun v H2 hr => by
    rw [hf] at hr
    exact q v H2 (e1.trans hr.1) hr.2⟩
theorem evf_call (a : α) (h : EvB K ta S ds) (hd : ∀ H, RpAll K H dvs es) (hA : A a = ds ++ es) (hp : pre a) (hf : f a = .val d) : EvF K (tCall (PSp K A pre f) dvs E ta) S d := fun O H0 H P σ R Q q =>
  h O H0 H P σ R _ fun vs H1 e1 r1 => ⟨a, [], fun x m => (nomatch m), by rw [hA, hidL_nil]; exact r1.append (hd _), hp, fun v H2 hr => by
    rw [hf] at hr
    have r := hr.2
    rw [hidL_nil] at r
    exact q v H2 (e1.trans hr.1) r⟩
theorem evn_call (a : α) (h : EvA K ta S ds) (hd : ∀ H, RpAll K H dvs es) (hA : A a = ds ++ es) (hp : pre a) {rs : List D} (hf : f a = .new rs) : EvN K (tCall (PSp K A pre f) dvs E ta) S rs := fun O H0 H P σ R Q q =>
  h O H0 H P σ R _ fun vs H1 e1 r1 => ⟨a, O ++ P.flatten, call_core (R.ext e1), by rw [hA]; exact r1.append (hd _), hp, fun v H2 hr => by
    rw [hf] at hr
    obtain ⟨e2, p, us, rfl, hn, hp2, r2⟩ := hr
    exact q p us H2 (e1.trans e2) (e1.free hn) hp2 (r2.mono (hid_le (fun _ _ z => z) fun a m => .inl (by
      rcases List.mem_append.mp m with m | m
      · exact List.mem_cons_of_mem _ (List.mem_append_left _ m)
      · rw [List.flatten_cons] at m
        rcases List.mem_append.mp m with m | m
        · rw [List.mem_singleton.mp m]; exact List.mem_cons_self
        · exact List.mem_cons_of_mem _ (List.mem_append_right _ m))))⟩
/-- arguments of any kind, a new list of ints comes -/
theorem evn_callI (a : α) (h : EvB K ta S ds) (hd : ∀ H, RpAll K H dvs es) (hA : A a = ds ++ es) (hp : pre a) {ns : List Int} (hf : f a = .new (ns.map D.int)) : EvN K (tCall (PSp K A pre f) dvs E ta) S (ns.map D.int) := fun O H0 H P σ R Q q =>
  h O H0 H P σ R _ fun vs H1 e1 r1 => ⟨a, [], fun x m => (nomatch m), by rw [hA, hidL_nil]; exact r1.append (hd _), hp, fun v H2 hr => by
    rw [hf] at hr
    obtain ⟨e2, p, us, rfl, hn, hp2, r2⟩ := hr
    rw [r2.of_ints] at hp2
    exact q p _ H2 (e1.trans e2) (e1.free hn) hp2 RpAll.ints⟩
end
end

/-! ## statements -/
def Sm (K : PySem.W.Frag) (t : TS) (N : List Sl → Prop) (R : Rv → Prop) (S : List Sl) : Prop := ∀ O H0 H P σ, Rep K O H0 H P σ S → ∀ De : Ends,
  (∀ H' P' σ' S', Rep K O H0 H' P' σ' S' → Same (fro H O P) (fro H' O P') → N S' → De.nx σ' H') → (∀ v H' r, RetOk K O H0 H' v r → R r → De.rt v H') → t De σ H
section
variable {K : PySem.W.Frag} {S : List Sl} {te : TE} {t u : TS} {tt : TT} {d : D} {ds : List D} {N N' : List Sl → Prop} {R R' : Rv → Prop} {b : Bool} {i : Nat}
theorem sem_seq (h : Sm K t (fun S' => Sm K u N R S') R S) : Sm K (tSeq t u) N R S := fun O H0 H P σ r De kn kr =>
  h O H0 H P σ r { De with nx := u De } (fun H' P' σ' S' r' g n => n O H0 H' P' σ' r' De (fun H2 P2 σ2 S2 r2 g2 n2 => kn H2 P2 σ2 S2 r2 (g.trans g2) n2) kr) kr
theorem sem_next (h : N S) : Sm K tNext N R S := fun O H0 H P σ r De kn kr => kn H P σ S r (Same.refl _) h
theorem sem_imp (h : Sm K t N R S) (hN : ∀ S', N S' → N' S') (hR : ∀ r, R r → R' r) : Sm K t N' R' S := fun O H0 H P σ r De kn kr =>
  h O H0 H P σ r De (fun H' P' σ' S' r' g n => kn H' P' σ' S' r' g (hN _ n)) fun v H' r q w => kr v H' r q (hR _ w)
theorem sem_asg (h : EvD K te S d) (hi : Nat.blt i S.length = true) (k : N (S.set i (.sh d))) : Sm K (tAsg te (gName i)) N R S := fun O H0 H P σ r De kn kr =>
  h O H0 H P σ r _ fun v H1 e1 r1 => by
    obtain ⟨r2, g2⟩ := (r.ext e1).setSh (Nat.le_of_ble_eq_true hi) r1
    exact kn H1 _ _ _ r2 ((fro_same e1).trans g2) k
theorem sem_asgN (h : EvN K te S ds) (hi : Nat.blt i S.length = true) (k : N (S.set i (.ow ds))) : Sm K (tAsg te (gName i)) N R S := fun O H0 H P σ r De kn kr =>
  h O H0 H P σ r _ fun p vs H1 e1 hn hp r1 => by
    obtain ⟨r2, g2⟩ := r.setNew (Nat.le_of_ble_eq_true hi) e1 hn hp r1
    exact kn H1 _ _ _ r2 g2 k
theorem sem_ret (h : EvD K te S d) (k : R (.val d)) : Sm K (tRet te) N R S := fun O H0 H P σ r De kn kr =>
  h O H0 H P σ r _ fun v H1 e1 r1 => kr v H1 (.val d) ⟨r.keep.trans e1, r1.mono (hid_le (fun _ _ z => z) fun a m => .inl (List.mem_append_left _ m))⟩ k
theorem sem_retN (h : EvN K te S ds) (k : R (.new ds)) : Sm K (tRet te) N R S := fun O H0 H P σ r De kn kr =>
  h O H0 H P σ r _ fun p vs H1 e1 hn hp r1 => kr _ H1 (.new ds) ⟨r.keep.trans e1, p, vs, rfl, r.keep.free hn, hp, r1.mono (hid_le (fun _ _ z => z) fun a m => .inl (by
    rcases List.mem_cons.mp m with m | m
    · rw [m]; exact List.mem_append_right _ (by rw [List.flatten_cons]; exact List.mem_append_left _ List.mem_cons_self)
    · exact List.mem_append_left _ m))⟩ k
theorem sem_retO {k : Nat} (hk : S[k]? = some (.ow ds)) (q : R (.new ds)) : Sm K (tRet (tVar k)) N R S := fun O H0 H P σ r De kn kr => by
  obtain ⟨p, vs, e, eP, hp, r1⟩ := r.at_ k _ hk
  refine ⟨_, e, kr _ H (.new ds) ⟨r.keep, p, vs, rfl, (r.pO (mem_flat eP List.mem_cons_self)).2, hp, r1.mono (hid_le (fun _ _ z => z) fun a m => .inl ?_)⟩ q⟩
  rcases List.mem_cons.mp m with m | m
  · rw [m]; exact List.mem_append_right _ (mem_flat eP List.mem_cons_self)
  · exact List.mem_append_left _ m
theorem sem_retNon (k : R (.val .non)) : Sm K tRetN N R S := fun O H0 H P σ r De kn kr => kr .non H (.val .non) ⟨r.keep, .non⟩ k
theorem sem_if (h : EvT K tt S b) (h1 : b = true → Sm K t N R S) (h2 : b = false → Sm K u N R S) : Sm K (tIfS tt t u) N R S := fun O H0 H P σ r De kn kr =>
  h O H0 H P σ r _ fun H1 e1 => by
    cases b with
    | true => exact h1 rfl O H0 H1 P σ (r.ext e1) De (fun H' P' σ' S' r' g n => kn H' P' σ' S' r' ((fro_same e1).trans g) n) kr
    | false => exact h2 rfl O H0 H1 P σ (r.ext e1) De (fun H' P' σ' S' r' g n => kn H' P' σ' S' r' ((fro_same e1).trans g) n) kr
theorem sem_drop (h : EvF K te S d) (k : N S) : Sm K (tDrop te) N R S := fun O H0 H P σ r De kn kr =>
  h O H0 H P σ r _ fun v H1 e1 r1 => kn H1 P σ S (r.ext e1) (fro_same e1) k
theorem sem_dropN (h : EvN K te S ds) (k : N S) : Sm K (tDrop te) N R S := fun O H0 H P σ r De kn kr =>
  h O H0 H P σ r _ fun p vs H1 e1 hn hp r1 => kn H1 P σ S (r.ext e1) (fro_same e1) k
/-- from here on slot k's list is no more changed -/
theorem sem_freeze (k : Nat) (hk : S[k]? = some (.ow ds)) (h : Sm K t N R (S.set k (.sh (.lst ds)))) : Sm K t N R S := fun O H0 H P σ r De kn kr => by
  obtain ⟨r2, g2⟩ := r.freeze hk
  exact h O H0 H _ σ r2 De (fun H' P' σ' S' r' g n => kn H' P' σ' S' r' (g2.trans g) n) kr
theorem sem_forget (k : Nat) (hk : k < S.length) (h : Sm K t N R (S.set k .no)) : Sm K t N R S := fun O H0 H P σ r De kn kr => by
  obtain ⟨r2, g2⟩ := r.forget hk
  exact h O H0 H _ σ r2 De (fun H' P' σ' S' r' g n => kn H' P' σ' S' r' (g2.trans g) n) kr
theorem set_some {α : Type} {l : List α} {k : Nat} {x : α} (h : l[k]? = some x) : k < l.length := (List.getElem?_eq_some_iff.mp h).1
/-- xs.append(e) -/
theorem sem_append {k : Nat} (hk : S[k]? = some (.ow ds)) (h : EvD K te S d) (hz : ds.length < sizeLine) (q : N (S.set k (.ow (ds ++ [d])))) : Sm K (tDrop (tBM K "list" rAppend (tVar k) (tCons te tNil))) N R S := fun O H0 H P σ r De kn kr => by
  obtain ⟨p, vs, e, eP, hp, r1⟩ := r.at_ k _ hk
  refine ⟨_, e, .inl ⟨rfl, _, .of hp⟩, h O H0 H P σ r _ fun v H1 e1 rv => ?_⟩
  have R1 := r.ext e1
  obtain ⟨R2, g2⟩ := R1.write (ds := ds ++ [d]) (vs := vs ++ [v]) eP e (set_some hk) ((r1.mono (fro_same e1)).append (.cons rv .nil))
  exact ⟨p, vs, v, rfl, rfl, e1 _ _ hp, by rw [r1.length]; exact hz, kn _ _ _ _ R2 ((fro_same e1).trans g2) q⟩
theorem sem_appI {ns : List Int} {v : Int} {k : Nat} (hk : S[k]? = some (.ow (ns.map D.int))) (h : EvF K te S (.int v)) (hz : ns.length < sizeLine) (q : N (S.set k (.ow ((ns ++ [v]).map D.int)))) : Sm K (tDrop (tBM K "list" rAppend (tVar k) (tCons te tNil))) N R S :=
  sem_append hk (sc_int h) (by rw [List.length_map]; exact hz) (by rw [List.map_append] at q; exact q)
theorem RpAll.dropLast {H : Hp} {ds : List D} {vs : List V} (h : RpAll K H vs ds) : RpAll K H vs.dropLast ds.dropLast := by
  rw [List.dropLast_eq_take, List.dropLast_eq_take, h.length]
  exact h.take _
theorem sem_pop {k : Nat} (hk : S[k]? = some (.ow ds)) (hz : 0 < ds.length) (q : N (S.set k (.ow ds.dropLast))) : Sm K (tDrop (tBM0 K "list" rPop (tVar k))) N R S := fun O H0 H P σ r De kn kr => by
  obtain ⟨p, vs, e, eP, hp, r1⟩ := r.at_ k _ hk
  have hl := r1.length
  obtain ⟨v, hv⟩ : ∃ v, vs[vs.length - 1]? = some v := ⟨_, List.getElem?_eq_getElem (by omega)⟩
  obtain ⟨R2, g2⟩ := r.write (ds := ds.dropLast) (vs := vs.dropLast) eP e (set_some hk) r1.dropLast
  exact ⟨_, e, .inl ⟨rfl, _, .of hp⟩, p, vs, v, rfl, rfl, hp, hv, kn _ _ _ _ R2 g2 q⟩
theorem sem_popI {ns : List Int} {k : Nat} (hk : S[k]? = some (.ow (ns.map D.int))) (hz : 0 < ns.length) (q : N (S.set k (.ow (ns.dropLast.map D.int)))) : Sm K (tDrop (tBM0 K "list" rPop (tVar k))) N R S :=
  sem_pop hk (by rw [List.length_map]; exact hz) (by rw [List.dropLast_eq_take, List.map_take, ← List.length_map (f := D.int), ← List.dropLast_eq_take] at q; exact q)
theorem sem_clear {k : Nat} (hk : S[k]? = some (.ow ds)) (q : N (S.set k (.ow []))) : Sm K (tDrop (tBM0 K "list" rClear (tVar k))) N R S := fun O H0 H P σ r De kn kr => by
  obtain ⟨p, vs, e, eP, hp, r1⟩ := r.at_ k _ hk
  obtain ⟨R2, g2⟩ := r.write (ds := []) (vs := []) eP e (set_some hk) .nil
  exact ⟨_, e, .inl ⟨rfl, _, .of hp⟩, p, vs, rfl, rfl, hp, kn _ _ _ _ R2 g2 q⟩
theorem sem_extend {es : List D} {k : Nat} (hk : S[k]? = some (.ow ds)) (h : EvM K te S es) (hz : ds.length + es.length ≤ sizeLine) (q : N (S.set k (.ow (ds ++ es)))) : Sm K (tDrop (tBM K "list" rExtend (tVar k) (tCons te tNil))) N R S := fun O H0 H P σ r De kn kr => by
  obtain ⟨p, vs, e, eP, hp, r1⟩ := r.at_ k _ hk
  refine ⟨_, e, .inl ⟨rfl, _, .of hp⟩, h O H0 H P σ r _ fun p' vs' H1 e1 hp' rv => ?_⟩
  have R1 := r.ext e1
  obtain ⟨R2, g2⟩ := R1.write (ds := ds ++ es) (vs := vs ++ vs') eP e (set_some hk) ((r1.mono (fro_same e1)).append rv)
  exact ⟨p, p', vs, vs', rfl, rfl, e1 _ _ hp, hp', by rw [r1.length, rv.length]; exact hz, kn _ _ _ _ R2 ((fro_same e1).trans g2) q⟩
theorem sem_extI {ns ms : List Int} {k : Nat} (hk : S[k]? = some (.ow (ns.map D.int))) (h : EvM K te S (ms.map D.int)) (hz : ns.length + ms.length ≤ sizeLine) (q : N (S.set k (.ow ((ns ++ ms).map D.int)))) : Sm K (tDrop (tBM K "list" rExtend (tVar k) (tCons te tNil))) N R S :=
  sem_extend hk h (by rw [List.length_map, List.length_map]; exact hz) (by rw [List.map_append] at q; exact q)
theorem evm_new (h : EvN K te S ds) : EvM K te S ds := evm_d (evd_new h)
/-- xs[i] = e -/
theorem sem_setIx {k m : Nat} {ti : TE} {j : Int} (hk : S[k]? = some (.ow ds)) (h : EvD K te S d) (hi : EvF K ti S (.int j)) (hj : ixN ds.length j = some m) (q : N (S.set k (.ow (ds.set m d)))) : Sm K (tAsg te (gSub (tVar k) ti rSetL)) N R S := fun O H0 H P σ r De kn kr =>
  h O H0 H P σ r _ fun v H1 e1 rv => by
    have R1 := r.ext e1
    obtain ⟨p, vs, e, eP, hp, r1⟩ := R1.at_ k _ hk
    refine ⟨_, e, hi O H0 H1 P σ R1 _ fun w H2 e2 rw' => ?_⟩
    cases rw'
    have R2 := R1.ext e2
    obtain ⟨R3, g3⟩ := R2.write (ds := ds.set m d) (vs := vs.set m v) eP e (set_some hk) (RpAll.set m (r1.mono (fro_same e2)) (rv.mono (fro_same e2)))
    exact ⟨p, vs, j, m, rfl, rfl, e2 _ _ hp, by rw [r1.length]; exact hj, kn _ _ _ _ R3 (((fro_same e1).trans (fro_same e2)).trans g3) q⟩

/-! ## targets -/
def TgD (K : PySem.W.Frag) (g : TG) (js : List Nat) (d : D) (S S' : List Sl) : Prop := ∀ O H0 H P σ v, Rep K O H0 H P σ S → Rp K (fro H O P) v d → ∀ Q : L2.St → Hp → Prop,
  (∀ P' σ', Rep K O H0 H P' σ' S' → Same (fro H O P) (fro H O P') → (∀ j, j ∉ js → σ'[j]? = σ[j]?) → σ'.length = σ.length → (∀ j, j ∉ js → P'[j]? = P[j]?) → Q σ' H) → g v σ H Q
def TgS (K : PySem.W.Frag) (g : TGs) (js : List Nat) (ds : List D) (S S' : List Sl) : Prop := ∀ O H0 H P σ vs, Rep K O H0 H P σ S → RpAll K (fro H O P) vs ds → ∀ Q : L2.St → Hp → Prop,
  (∀ P' σ', Rep K O H0 H P' σ' S' → Same (fro H O P) (fro H O P') → (∀ j, j ∉ js → σ'[j]? = σ[j]?) → σ'.length = σ.length → (∀ j, j ∉ js → P'[j]? = P[j]?) → Q σ' H) → g vs σ H Q
theorem tg_name (hi : i < S.length) : TgD K (gName i) [i] d S (S.set i (.sh d)) := fun O H0 H P σ v r rv Q q => by
  obtain ⟨r2, g2⟩ := r.setSh hi rv
  exact q _ _ r2 g2 (fun j hj => List.getElem?_set_ne fun z => hj (by rw [z]; exact List.mem_cons_self)) List.length_set fun j hj => List.getElem?_set_ne fun z => hj (by rw [z]; exact List.mem_cons_self)
theorem tg_nil : TgS K gNil [] [] S S := fun O H0 H P σ vs r rv Q q => by
  cases rv
  exact ⟨rfl, q _ _ r (Same.refl _) (fun _ _ => rfl) rfl fun _ _ => rfl⟩
theorem tg_cons {g : TG} {gs : TGs} {js ks : List Nat} {S1 S2 : List Sl} (h1 : TgD K g js d S S1) (h2 : TgS K gs ks ds S1 S2) : TgS K (gCons g gs) (js ++ ks) (d :: ds) S S2 := fun O H0 H P σ vs r rv Q q => by
  cases rv with
  | cons rv rvs =>
    refine ⟨_, _, rfl, h1 O H0 H P σ _ r rv _ fun P1 σ1 r1 g1 k1 l1 f1 => ?_⟩
    refine h2 O H0 H P1 σ1 _ r1 (rvs.mono g1) _ fun P2 σ2 r2 g2 k2 l2 f2 => ?_
    exact q P2 σ2 r2 (g1.trans g2) (fun j hj => (k2 j fun z => hj (List.mem_append_right _ z)).trans (k1 j fun z => hj (List.mem_append_left _ z))) (l2.trans l1)
      fun j hj => (f2 j fun z => hj (List.mem_append_right _ z)).trans (f1 j fun z => hj (List.mem_append_left _ z))
theorem tg_tup {gs : TGs} {js : List Nat} {S2 : List Sl} {n : Nat} (h : TgS K gs js ds S S2) (hn : ds.length = n) : TgD K (gTup K n gs) js (.tup ds) S S2 := fun O H0 H P σ v r rv Q q => by
  cases rv with
  | tup hp rvs => exact ⟨_, _, rfl, .of (fro_le _ _ hp), by rw [rvs.length]; exact hn, h O H0 H P σ _ r rvs Q q⟩

/-! ## what is walked -/
def jn (F0 H H' : Hp) : Hp := fun a => match F0 a with
  | some o => some o
  | none => match H a with
    | none => H' a
    | some _ => none
theorem jn_le {F0 H H' : Hp} {O : List Addr} {P : List (List Addr)} (g : Same F0 (fro H O P)) (e : Same H H') (hn : ∀ a, a ∈ O ++ P.flatten → H a ≠ none) : Same (jn F0 H H') (fro H' O P) := fun a o x => by
  unfold jn at x
  split at x
  · rename_i o' h
    cases x
    exact fro_same e _ _ (g _ _ h)
  · split at x
    · rename_i h1 h2
      exact hidL_some.mpr ⟨fun m => hn a m h2, x⟩
    · cases x
theorem jn_left {F0 H H' : Hp} : Same F0 (jn F0 H H') := fun a o x => by
  unfold jn
  rw [x]
def Walks (K : PySem.W.Frag) (J : It) (F0 : Hp) (ds : List D) : Prop :=
  (∀ i H, Same F0 H → i < ds.length → J.go i H) ∧ (∀ i H, Same F0 H → ds.length ≤ i → J.stop i H) ∧
  ∀ i H x H' d, Same F0 H → ds[i]? = some d → J.yld i H x H' → Same H H' ∧ Rp K (jn F0 H H') x d
def ItD (K : PySem.W.Frag) (wi : TI) (S : List Sl) (ds : List D) : Prop := ∀ O H0 H P σ, Rep K O H0 H P σ S → ∀ Z : It → Hp → Prop, (∀ J H', Same H H' → Walks K J (fro H' O P) ds → Z J H') → wi σ H Z
theorem walks_l {a : Addr} {F0 : Hp} {vs : List V} (hq : SqL K F0 a vs) (r : RpAll K F0 vs ds) : Walks K (Itl K a) F0 ds := by
  have hl := r.length
  refine ⟨fun i H g hi => ⟨vs, vs[i], g.seq hq, List.getElem?_eq_getElem (by omega)⟩, fun i H g hi => ⟨vs, g.seq hq, by omega⟩, fun i H x H' d g hd y => ?_⟩
  obtain ⟨e, hx⟩ := y
  obtain ⟨d', h1, h2⟩ := r.get (hx vs (g.seq hq))
  rw [hd] at h1
  cases h1
  exact ⟨by rw [e]; exact Same.refl _, h2.mono jn_left⟩
theorem it_list (h : EvD K te S (.lst ds)) : ItD K (iList K te) S ds := fun O H0 H P σ r Z q => h O H0 H P σ r _ fun x H1 e1 r1 => by
  cases r1 with
  | lst hp rv => exact ⟨_, rfl, ⟨_, .of (fro_le _ _ hp)⟩, q _ H1 e1 (walks_l (.of hp) rv)⟩
theorem it_new (h : EvN K te S ds) : ItD K (iList K te) S ds := it_list (evd_new h)
theorem it_scr {ns : List Int} (h : EvD K te S (.scr ns)) : ItD K (iList K te) S (ns.map D.int) := fun O H0 H P σ r Z q => h O H0 H P σ r _ fun x H1 e1 r1 => by
  cases r1 with
  | scr hp => exact ⟨_, rfl, ⟨_, Same.seq fro_le hp⟩, q _ H1 e1 (walks_l hp RpAll.ints)⟩
theorem it_tup (h : EvD K te S (.tup ds)) : ItD K (iTup K te) S ds := fun O H0 H P σ r Z q => h O H0 H P σ r _ fun x H1 e1 r1 => by
  cases r1 with
  | tup hp rv =>
    refine ⟨_, rfl, ⟨_, .of (fro_le _ _ hp)⟩, q _ H1 e1 ?_⟩
    have hl := rv.length
    have tt : ∀ {H : Hp}, Same (fro H1 O P) H → SqT K H _ _ := fun g => .of (g _ _ hp)
    refine ⟨fun i H g hi => ⟨_, _, tt g, List.getElem?_eq_getElem (by omega)⟩, fun i H g hi => ⟨_, tt g, by omega⟩, fun i H x H' d g hd y => ?_⟩
    obtain ⟨e, hx⟩ := y
    obtain ⟨d', h1, h2⟩ := rv.get (hx _ (tt g))
    rw [hd] at h1
    cases h1
    exact ⟨by rw [e]; exact Same.refl _, h2.mono jn_left⟩
def rangeD (lo : Int) (n : Nat) : List D := (List.range n).map fun (k : Nat) => D.int (lo + (k : Int))
theorem rangeD_len (lo : Int) (n : Nat) : (rangeD lo n).length = n := by unfold rangeD; rw [List.length_map, List.length_range]
theorem rangeD_get {lo : Int} {n i : Nat} {d : D} (h : (rangeD lo n)[i]? = some d) : i < n ∧ d = .int (lo + (i : Int)) := by
  have hi : i < n := by
    have := (List.getElem?_eq_some_iff.mp h).1
    rwa [rangeD_len] at this
  refine ⟨hi, ?_⟩
  unfold rangeD at h
  rw [List.getElem?_map, List.getElem?_range hi] at h
  exact (Option.some.inj h).symm
theorem walks_r {F0 : Hp} {lo : Int} {n : Nat} : Walks K (Itr lo n) F0 (rangeD lo n) := by
  refine ⟨fun i H g hi => by rw [rangeD_len] at hi; exact hi, fun i H g hi => by rw [rangeD_len] at hi; exact hi, fun i H x H' d g hd y => ?_⟩
  obtain ⟨e, hx⟩ := y
  obtain ⟨_, rfl⟩ := rangeD_get hd
  subst hx e
  exact ⟨Same.refl _, .int _⟩
theorem it_range1 {ta : TA} {j : Int} (h : EvB K ta S [.int j]) (hj : -(2 ^ 62) ≤ j ∧ j < 2 ^ 62) : ItD K (iRng1 ta) S (rangeD 0 j.toNat) := fun O H0 H P σ r Z q => h O H0 H P σ r _ fun vs H1 e1 r1 => by
  cases r1 with
  | cons r1 r2 =>
    cases r1
    cases r2
    exact ⟨j, rfl, hj.1, hj.2, q _ H1 e1 walks_r⟩
theorem it_range2 {ta : TA} {i j : Int} (h : EvB K ta S [.int i, .int j]) (hj : -(2 ^ 62) ≤ i ∧ i < 2 ^ 62 ∧ -(2 ^ 62) ≤ j ∧ j < 2 ^ 62) : ItD K (iRng2 ta) S (rangeD i (j - i).toNat) := fun O H0 H P σ r Z q => h O H0 H P σ r _ fun vs H1 e1 r1 => by
  cases r1 with
  | cons r1 r2 =>
    cases r1
    cases r2 with
    | cons r1 r2 =>
      cases r1
      cases r2
      exact ⟨i, j, rfl, hj, q _ H1 e1 walks_r⟩
theorem it_rev {ta : TA} (h : EvA K ta S [.lst ds]) : ItD K (iRev K ta) S ds.reverse := fun O H0 H P σ r Z q => h O H0 H P σ r _ fun vs H1 e1 r1 => by
  cases r1 with
  | cons r1 r2 =>
    cases r2
    cases r1 with
    | @lst a xs _ hp rv =>
      refine ⟨a, xs, rfl, .of (fro_le _ _ hp), q _ H1 e1 ?_⟩
      have hl := rv.length
      have tt : ∀ {H : Hp}, Same (fro H1 O P) H → SqL K H a xs := fun g => .of (g _ _ hp)
      refine ⟨fun i H g hi => ?_, fun i H g hi => ?_, fun i H x H' d g hd y => ?_⟩
      · rw [List.length_reverse] at hi
        exact ⟨by omega, xs, xs[xs.length - 1 - i]'(by omega), tt g, List.getElem?_eq_getElem (by omega)⟩
      · rw [List.length_reverse] at hi
        show xs.length ≤ i
        omega
      · obtain ⟨e, hx⟩ := y
        have hi := (List.getElem?_eq_some_iff.mp hd).1
        rw [List.length_reverse] at hi
        rw [List.getElem?_reverse hi] at hd
        obtain ⟨d', h1, h2⟩ := rv.get (hx _ (tt g))
        rw [hl, hd] at h1
        cases h1
        exact ⟨by rw [e]; exact Same.refl _, h2.mono jn_left⟩

/-! ## loops -/
theorem sem_for {wi : TI} {g : TG} (h : ItD K wi S ds) (Pv : Nat → List Sl → Prop) (h0 : Pv 0 S) (hs : ∀ (i : Nat) (d : D) (S' : List Sl), ds[i]? = some d → Pv i S' → ∃ js S2, TgD K g js d S' S2 ∧ Sm K t (Pv (i + 1)) R S2) (hd : ∀ S', Pv ds.length S' → N S') :
    Sm K (tFor wi g t) N R S := fun O H0 H P σ r De kn kr => h O H0 H P σ r _ fun J H1 e1 w => by
  obtain ⟨w1, w2, w3⟩ := w
  have up : ∀ {H2 : Hp} {P2 : List (List Addr)}, Same (fro H1 O P) (fro H2 O P2) → Same (fro H1 O P) H2 := fun g => g.trans fro_le
  refine ⟨fun i m σ' H' => m = ds.length - i ∧ i ≤ ds.length ∧ ∃ P' S', Rep K O H0 H' P' σ' S' ∧ Same (fro H1 O P) (fro H' O P') ∧ Pv i S', ⟨ds.length, rfl, Nat.zero_le _, P, S, r.ext e1, Same.refl _, h0⟩, ?_⟩
  rintro i m σ' H' ⟨rfl, hi, P', S', r', g', p'⟩
  by_cases hlt : i < ds.length
  · refine .inr ⟨w1 i H' (up g') hlt, fun σ2 H2 => ∃ P2 S2, Rep K O H0 H2 P2 σ2 S2 ∧ Same (fro H1 O P) (fro H2 O P2) ∧ Pv (i + 1) S2, fun σ2 H2 q => ⟨ds.length - (i + 1), by omega, rfl, hlt, q⟩, fun x H2 y => ?_⟩
    have hd' : ds[i]? = some ds[i] := List.getElem?_eq_getElem hlt
    obtain ⟨e2, rx⟩ := w3 i H' x H2 _ (up g') hd' y
    obtain ⟨js, S2, tg, body⟩ := hs i _ S' hd' p'
    have r2 := r'.ext e2
    refine tg O H0 H2 P' σ' x r2 (rx.mono (jn_le g' e2 (call_core r'))) _ fun P3 σ3 r3 g3 _ _ _ => ?_
    exact body O H0 H2 P3 σ3 r3 _ (fun H4 P4 σ4 S4 r4 g4 n4 => ⟨P4, S4, r4, ((g'.trans (fro_same e2)).trans g3).trans g4, n4⟩) kr
  · have e : i = ds.length := by omega
    subst e
    exact .inl ⟨w2 _ H' (up g') (Nat.le_refl _), kn H' P' σ' S' r' ((fro_same e1).trans g') (hd S' p')⟩
theorem sem_while (W : Nat → List Sl → Prop) (m0 : Nat) (h0 : W m0 S) (hs : ∀ m S', W m S' → ∃ b, EvT K tt S' b ∧ (b = true → Sm K t (fun S2 => ∃ m', m' < m ∧ W m' S2) R S') ∧ (b = false → N S')) :
    Sm K (tWhile tt t) N R S := fun O H0 H P σ r De kn kr => by
  refine ⟨fun m σ' H' => ∃ P' S', Rep K O H0 H' P' σ' S' ∧ Same (fro H O P) (fro H' O P') ∧ W m S', ⟨m0, P, S, r, Same.refl _, h0⟩, ?_⟩
  rintro m σ' H' ⟨P', S', r', g', w⟩
  obtain ⟨b, hb, h1, h2⟩ := hs m S' w
  refine hb O H0 H' P' σ' r' _ fun H2 e2 => ?_
  cases b with
  | true =>
    refine ⟨fun σ2 H2 => ∃ m', m' < m ∧ ∃ P2 S2, Rep K O H0 H2 P2 σ2 S2 ∧ Same (fro H O P) (fro H2 O P2) ∧ W m' S2, fun σ2 H2 q => q, ?_⟩
    refine h1 rfl O H0 H2 P' σ' (r'.ext e2) _ (fun H4 P4 σ4 S4 r4 g4 n4 => ?_) kr
    obtain ⟨m', hm, w'⟩ := n4
    exact ⟨m', hm, P4, S4, r4, (g'.trans (fro_same e2)).trans g4, w'⟩
  | false => exact kn H2 P' σ' S' (r'.ext e2) (g'.trans (fro_same e2)) (h2 rfl)

/-! ## comprehensions -/
theorem wipe_eq2 {σ σ' : L2.St} {js vs : List Nat} (h1 : ∀ j, j ∉ js → σ'[j]? = (wipe σ vs)[j]?) (h2 : σ'.length = (wipe σ vs).length) (h3 : ∀ j, j ∈ js → j ∈ vs) : wipe σ' vs = wipe σ vs := by
  apply List.ext_getElem?
  intro j
  by_cases hj : j ∈ vs
  · have key : ∀ (τ : L2.St) (ws : List Nat), j ∈ ws → (wipe τ ws)[j]? = if j < τ.length then some none else none := fun τ ws => by
      induction ws with
      | nil => intro m; cases m
      | cons w ws ih =>
        intro m
        unfold wipe
        by_cases hw : w = j
        · subst hw
          rw [List.getElem?_set_self']
          by_cases hl : w < τ.length
          · rw [if_pos hl, List.getElem?_eq_getElem (by rw [wipe_length]; exact hl)]
            rfl
          · rw [if_neg hl, List.getElem?_eq_none (by rw [wipe_length]; omega)]
            rfl
        · rw [List.getElem?_set_ne hw]
          exact ih ((List.mem_cons.mp m).elim (fun z => absurd z.symm hw) id)
    rw [key _ _ hj, key _ _ hj, h2, wipe_length]
  · rw [wipe_out hj, wipe_out hj, h1 j fun z => hj (h3 j z), wipe_out hj]
theorem evn_lc {wi : TI} {g : TG} {vs : List Nat} {es : List D} (hit : ItD K wi S ds) (hw : ∀ w, w ∈ vs → S[w]? = some .no) (hz : ds.length < sizeLine) (hl : es.length = ds.length)
    (hs : ∀ (i : Nat) (d e : D), ds[i]? = some d → es[i]? = some e → ∃ js S2, (∀ j, j ∈ js → j ∈ vs) ∧ TgD K g js d S S2 ∧ EvD K te S2 e) : EvN K (tLc wi g tYes te vs) S es := fun O H0 H P σ r Q q => hit O H0 H P σ r _ fun J H1 e1 w l hn => by
  obtain ⟨w1, w2, w3⟩ := w
  have r1 := r.ext e1
  refine ⟨fun i m H' => m = ds.length - i ∧ i ≤ ds.length ∧ Same H1 H' ∧ ∃ acc, H' l = some (.lst acc) ∧ RpAll K (fro H' (l :: O) P) acc (es.take i), ⟨ds.length, rfl, Nat.zero_le _, same_new hn, [], upd_same, by rw [List.take_zero]; exact .nil⟩, ?_⟩
  rintro i m H' ⟨rfl, hi, s1, acc, ha, ra⟩
  by_cases hlt : i < ds.length
  · refine .inr ⟨w1 i H' (fro_le.trans s1) hlt, fun H2 => i + 1 ≤ ds.length ∧ Same H1 H2 ∧ ∃ acc, H2 l = some (.lst acc) ∧ RpAll K (fro H2 (l :: O) P) acc (es.take (i + 1)), fun H2 q => ⟨ds.length - (i + 1), by omega, rfl, q⟩, fun x H2 y => ?_⟩
    have hd' : ds[i]? = some ds[i] := List.getElem?_eq_getElem hlt
    have he' : es[i]? = some (es[i]'(by omega)) := List.getElem?_eq_getElem (by omega)
    obtain ⟨e2, rx⟩ := w3 i H' x H2 _ (fro_le.trans s1) hd' y
    have hl' : H' l ≠ none := by rw [ha]; simp
    have hl2 : H2 l ≠ none := by rw [e2 _ _ ha]; simp
    have R1 := (r1.side s1 hn hl').wiped vs hw
    have R2 := R1.ext e2
    have g0 : Same (fro H1 O P) (fro H' (l :: O) P) := hid_le s1 fun a m => by
      rcases List.mem_append.mp m with z | z
      · rcases List.mem_cons.mp z with z | z
        · exact .inr (by rw [z]; exact hn)
        · exact .inl (List.mem_append_left _ z)
      · exact .inl (List.mem_append_right _ z)
    obtain ⟨js, S2, hj, tg, body⟩ := hs i _ _ hd' he'
    refine tg _ _ H2 P _ x R2 (rx.mono (jn_le g0 e2 (call_core R1))) _ fun P3 σ3 r3 g3 k3 l3 f3 => ⟨wipe_eq2 k3 l3 hj, ?_⟩
    refine body _ _ H2 P3 σ3 r3 _ fun v H3 e3 rv => ⟨acc, e3 _ _ (e2 _ _ ha), ?_, hlt, ?_, acc ++ [v], upd_same, ?_⟩
    · have := ra.length
      rw [List.length_take] at this
      omega
    · intro a o z
      by_cases hal : a = l
      · subst hal; rw [hn] at z; cases z
      · rw [upd_ne hal]
        exact e3 _ _ (e2 _ _ (s1 _ _ z))
    · have eq : fro (upd H3 l (.lst (acc ++ [v]))) (l :: O) P = fro H3 (l :: O) P := by
        funext a
        unfold fro hidL
        by_cases hal : a = l
        · subst hal
          simp
        · rw [upd_ne hal]
      rw [eq, List.take_succ, he']
      refine (ra.mono (fro_same (e2.trans e3))).append (.cons (rv.mono (hid_le (fun _ _ z => z) fun a m => ?_)) .nil)
      rcases List.mem_append.mp m with z | z
      · exact .inl (List.mem_append_left _ z)
      · obtain ⟨m', hm', ha'⟩ := List.mem_flatten.mp z
        obtain ⟨j, hj'⟩ := List.mem_iff_getElem?.mp hm'
        by_cases hjs : j ∈ js
        · have z2 := R2.at_ j .no (hw j (hj j hjs))
          have z3 : P[j]? = some [] := z2
          rw [hj'] at z3
          cases z3
          cases ha'
        · exact .inl (List.mem_append_right _ (mem_flat ((f3 j hjs).trans hj') ha'))
  · have e : i = ds.length := by omega
    subst e
    refine .inl ⟨w2 _ H' (fro_le.trans s1) (Nat.le_refl _), q l acc H' (e1.trans s1) (e1.free hn) ha ?_⟩
    rw [List.take_of_length_le (by omega)] at ra
    exact ra.mono (hid_le (fun _ _ z => z) fun a m => .inl (by
      rcases List.mem_append.mp m with z | z
      · exact List.mem_append_left _ (List.mem_cons_of_mem _ z)
      · rw [List.flatten_cons] at z
        rcases List.mem_append.mp z with z | z
        · rw [List.mem_singleton.mp z]; exact List.mem_append_left _ List.mem_cons_self
        · exact List.mem_append_right _ z))
end

/-! ## a def -/
section
variable {P : Program} {w : World} {K : PySem.W.Frag} {mg : Str → Option Value} {base : Heap}
theorem fn_pure {α : Type} {A : α → List D} {pre : α → Prop} {f : α → Rv} {x qual : Str} {st : Stmt} {fa : Addr} {fd : FuncData} {N ps : List Str} {k : Nat} (F : Fun K x qual st fa fd) (sc : FnScope N ps (defScope st)) (hl : ∀ a, (A a).length = ps.length) (hn : ps.length ≤ N.length)
    (hb : ∀ (cdv : Value) (A0 : Around) (outer : List Env) (s : Shared) (H : Hp) (E : XK), Room k (A0.deeper (envOfC qual (defScope st) s.heap.objs.size fa cdv)) →
      ∃ t, PSs (cxOf CX0 P w K mg base N qual (defScope st) fa cdv A0 outer s H E).nox (defBody st) t ∧ ∀ a, pre a → Sm K t (fun _ => f a = .val .non) (fun r => r = f a) ((A a).map Sl.sh ++ List.replicate (N.length - ps.length) Sl.no)) :
    FnOk P w K mg base CX0 (k + 1) fa fd ps (PSp K A pre f) := by
  refine F.ok sc (fun vs H Q E h => ?_) (fun cdv A0 outer s H vs Q E hr h => ?_)
  · obtain ⟨a, O, _, h, _⟩ := h
    rw [h.length]
    exact hl a
  · obtain ⟨a, O, hO, hv, hp, q⟩ := h
    obtain ⟨t, ht, hs⟩ := hb cdv A0 outer s H E hr
    refine ⟨t, ht, ?_⟩
    have lv : vs.length = ps.length := hv.length.trans (hl a)
    have P0 : (List.replicate N.length ([] : List Addr)).flatten = [] := by simp
    refine hs a hp O H H (List.replicate N.length []) (L2.start N vs) ⟨?_, ?_, hO, ?_, ?_, ?_, ?_⟩ _ (fun H' P' σ' S' r' g n => ?_) (fun v H' r hr e => ?_)
    · unfold L2.start
      simp only [List.length_append, List.length_map, List.length_replicate, hl a, lv]
    · simp only [List.length_append, List.length_map, List.length_replicate, hl a]
      omega
    · rw [P0, hidL_nil]
      exact Same.refl H
    · intro i j l m a' h1 h2 h3 h4
      have := List.mem_of_getElem? h1
      rw [List.mem_replicate] at this
      rw [this.2] at h3
      cases h3
    · intro a' m
      rw [P0] at m
      cases m
    · intro i sl h
      have fz : fro H O (List.replicate N.length []) = hidL H O := by unfold fro; rw [P0, List.append_nil]
      rw [fz]
      by_cases hi : i < (A a).length
      · rw [List.getElem?_append_left (by rw [List.length_map]; exact hi), List.getElem?_map] at h
        cases e : (A a)[i]? with
        | none => rw [e] at h; cases h
        | some d =>
          rw [e] at h
          cases h
          obtain ⟨v, e1, e2⟩ := hv.get' e
          refine ⟨v, ?_, e2⟩
          unfold L2.start
          rw [List.getElem?_append_left (by rw [List.length_map, lv, ← hl a]; exact hi), List.getElem?_map, e1]
          rfl
      · rw [List.getElem?_append_right (by rw [List.length_map]; omega)] at h
        have hm := List.mem_of_getElem? h
        rw [List.mem_replicate] at hm
        rw [hm.2]
        have hlt := (List.getElem?_eq_some_iff.mp h).1
        rw [List.length_replicate, List.length_map, hl a] at hlt
        show (List.replicate N.length ([] : List Addr))[i]? = some []
        rw [List.getElem?_replicate, if_pos (by have := hl a; omega)]
    · have n' : f a = .val .non := n
      exact q .non H' (by rw [n']; exact ⟨r'.keep, .non⟩)
    · have e' : r = f a := e
      subst e'
      exact q v H' hr
end
end Dx

namespace Dx
open PySem PySem.Spec PyProof.Rows L2

/-! ## equality of data -/
def Shp (n : Nat) (d : PyData) : Prop := d.canLay0 = true ∧ d.depth ≤ n
theorem Shp.mono {n m : Nat} {d : PyData} (h : Shp n d) (hm : n ≤ m) : Shp m d := ⟨h.1, Nat.le_trans h.2 hm⟩
theorem shp_non {n : Nat} : Shp n .none := ⟨rfl, by simp [PyData.depth]⟩
theorem shp_bl {n : Nat} {b : Bool} : Shp n (.bool b) := ⟨rfl, by simp [PyData.depth]⟩
theorem shp_int {n : Nat} {i : Int} : Shp n (.int i) := ⟨rfl, by simp [PyData.depth]⟩
theorem shp_all {n : Nat} : ∀ {ds : List PyData}, (∀ d, d ∈ ds → Shp n d) → PyData.canLayAll0 ds = true ∧ PyData.depthAll ds ≤ n
  | [], _ => ⟨rfl, by simp [PyData.depthAll]⟩
  | d :: ds, h => by
    have h1 := h d List.mem_cons_self
    have h2 := shp_all (ds := ds) fun x m => h x (List.mem_cons_of_mem _ m)
    refine ⟨by simp [PyData.canLayAll0, h1.1, h2.1], ?_⟩
    have := h1.2
    have := h2.2
    simp only [PyData.depthAll]
    omega
theorem shp_list {n : Nat} {ds : List PyData} (h : ∀ d, d ∈ ds → Shp n d) : Shp (n + 1) (.list ds) := by
  have := shp_all h
  exact ⟨by simp only [PyData.canLay0]; exact this.1, by simp only [PyData.depth]; omega⟩
theorem shp_tup {n : Nat} {ds : List PyData} (h : ∀ d, d ∈ ds → Shp n d) : Shp (n + 1) (.tuple ds) := by
  have := shp_all h
  exact ⟨by simp only [PyData.canLay0]; exact this.1, by simp only [PyData.depth]; omega⟩
theorem Shp.ok {n : Nat} {d : PyData} (h : Shp n d) (hn : n ≤ 64) : SeqAt.shaped d = true := by
  unfold SeqAt.shaped
  rw [h.1, Bool.true_and]
  exact decide_eq_true (Nat.le_trans h.2 hn)
theorem toPyA_map {α : Type} (g : α → D) (xs : List α) : toPyA (xs.map g) = xs.map fun x => toPy (g x) := by
  induction xs with
  | nil => rfl
  | cons x xs ih => rw [List.map_cons, toPyA, ih, List.map_cons]
theorem toPy_list {α : Type} (g : α → D) (xs : List α) : toPy (.lst (xs.map g)) = .list (xs.map fun x => toPy (g x)) := by rw [toPy, toPyA_map]
/-- what g writes is read back -/
structure Enc {α : Type} [DecidableEq α] (g : α → D) (n : Nat) : Prop where
  shp : ∀ x, Shp n (toPy (g x))
  eq : ∀ x y, PyData.eqv (toPy (g x)) (toPy (g y)) = decide (x = y)
theorem enc_int : Enc D.int 1 := ⟨fun _ => shp_int, fun x y => by simp only [toPy, PyData.eqv]; exact Bool.beq_eq_decide_eq x y⟩
theorem enc_bl : Enc D.bl 1 := ⟨fun _ => shp_bl, fun x y => by simp only [toPy, PyData.eqv]; exact Bool.beq_eq_decide_eq x y⟩
theorem eqv_map {α : Type} [DecidableEq α] {f : α → PyData} (h : ∀ x y, PyData.eqv (f x) (f y) = decide (x = y)) : ∀ xs ys : List α, PyData.eqvAll (xs.map f) (ys.map f) = decide (xs = ys)
  | [], [] => rfl
  | [], _ :: _ => by simp [PyData.eqvAll]
  | _ :: _, [] => by simp [PyData.eqvAll]
  | x :: xs, y :: ys => by
    rw [List.map_cons, List.map_cons, PyData.eqvAll, h, eqv_map h xs ys, ← Bool.decide_and]
    apply decide_eq_decide.mpr
    simp
theorem Enc.list {α : Type} [DecidableEq α] {g : α → D} {n : Nat} (E : Enc g n) : Enc (fun xs : List α => D.lst (xs.map g)) (n + 1) :=
  ⟨fun xs => by
    rw [toPy_list]
    refine shp_list fun d m => ?_
    obtain ⟨x, _, rfl⟩ := List.mem_map.mp m
    exact E.shp x,
  fun xs ys => by rw [toPy_list, toPy_list, PyData.eqv]; exact eqv_map E.eq xs ys⟩
section
variable {K : PySem.W.Frag} {S : List Sl} {ta tb te : TE} {d e : D} {ds es : List D} {i j : Int}
theorem evd_eqG {α : Type} [DecidableEq α] {g : α → D} {n : Nat} {x y : α} (E : Enc g n) (hn : n ≤ 64) (ha : EvF K ta S (g x)) (hb : EvF K tb S (g y)) : EvD K (tOp (rEqD K) ta tb) S (.bl (decide (x = y))) :=
  (evd_eqD ha hb ((E.shp x).ok hn) ((E.shp y).ok hn)).to (by rw [E.eq])
theorem evd_neG {α : Type} [DecidableEq α] {g : α → D} {n : Nat} {x y : α} (E : Enc g n) (hn : n ≤ 64) (ha : EvF K ta S (g x)) (hb : EvF K tb S (g y)) : EvD K (tOp (rNeD K) ta tb) S (.bl (!decide (x = y))) :=
  (evd_neD ha hb ((E.shp x).ok hn) ((E.shp y).ok hn)).to (by rw [E.eq])
theorem evd_eqLI {ns ms : List Int} (ha : EvF K ta S (.lst (ns.map D.int))) (hb : EvF K tb S (.lst (ms.map D.int))) : EvD K (tOp (rEqD K) ta tb) S (.bl (decide (ns = ms))) := evd_eqG enc_int.list (by decide) ha hb
theorem evd_neLI {ns ms : List Int} (ha : EvF K ta S (.lst (ns.map D.int))) (hb : EvF K tb S (.lst (ms.map D.int))) : EvD K (tOp (rNeD K) ta tb) S (.bl (!decide (ns = ms))) := evd_neG enc_int.list (by decide) ha hb
theorem evd_eqLN {ns : List Int} (ha : EvF K ta S (.lst (ns.map D.int))) (hb : EvF K tb S (.lst [])) : EvD K (tOp (rEqD K) ta tb) S (.bl (decide (ns = []))) := evd_eqLI (ms := []) ha hb
theorem evd_neLN {ns : List Int} (ha : EvF K ta S (.lst (ns.map D.int))) (hb : EvF K tb S (.lst [])) : EvD K (tOp (rNeD K) ta tb) S (.bl (!decide (ns = []))) := evd_neLI (ms := []) ha hb
theorem evn_catI {ns ms : List Int} (ha : EvM K ta S (ns.map D.int)) (hb : EvM K tb S (ms.map D.int)) (hz : ns.length + ms.length ≤ sizeLine) : EvN K (tOp rCat ta tb) S ((ns ++ ms).map D.int) := by
  rw [List.map_append]
  exact evn_cat ha hb (by rw [List.length_map, List.length_map]; exact hz)
theorem evn_catI1 {ns : List Int} {v : Int} (ha : EvM K ta S (ns.map D.int)) (hb : EvM K tb S [D.int v]) (hz : ns.length < sizeLine) : EvN K (tOp rCat ta tb) S ((ns ++ [v]).map D.int) := evn_catI (ms := [v]) ha hb hz
theorem eai_nil : EvA K tNil S (([] : List Int).map D.int) := ea_nil
theorem eai_cons {tr : TA} {v : Int} {ns : List Int} (h : EvF K ta S (.int v)) (hr : EvA K tr S (ns.map D.int)) : EvA K (tCons ta tr) S ((v :: ns).map D.int) := ea_cons (sc_int h) hr
theorem evn_lstI {ta : TA} {ns : List Int} (h : EvA K ta S (ns.map D.int)) (hl : ns.length ≤ sizeLine) : EvN K (tLst ta) S (ns.map D.int) := evn_lst h (by rw [List.length_map]; exact hl)
theorem evn_sliceI {ns : List Int} {tl th : TO} {lo hi : Option Int} (h : EvL K te S (ns.map D.int)) (hl : EvO K tl S lo) (hh : EvO K th S hi) : EvN K (tSl (rSlL K) te tl th) S ((cutG ns lo hi).map D.int) := by
  rw [← cutG_map]
  exact evn_slice h hl hh
theorem evn_revI {ns : List Int} (h : EvL K te S (ns.map D.int)) : EvN K (tRevL K te) S (ns.reverse.map D.int) := by
  rw [List.map_reverse]
  exact evn_rev h
end

theorem kit_ii : kitB "int" "int" = some true := by decide +kernel
theorem kit_ib : kitB "int" "bool" = some false := by decide +kernel
theorem kit_bi : kitB "bool" "int" = some true := by decide +kernel
theorem kit_bb : kitB "bool" "bool" = some true := by decide +kernel
theorem kit_ll : kitB "list" "list" = some true := by decide +kernel
theorem kit_tt : kitB "tuple" "tuple" = some true := by decide +kernel
theorem kit_ss : kitB "str" "str" = some true := by decide +kernel

/-! ## loops that fold -/
theorem foldl_take {α β : Type} {g : β → α → β} {b : β} {xs : List α} {i : Nat} {v : α} (h : xs[i]? = some v) : (xs.take (i + 1)).foldl g b = g ((xs.take i).foldl g b) v := by
  rw [List.take_succ, h, List.foldl_append]
  rfl
section
variable {K : PySem.W.Frag} {S : List Sl} {t : TS} {N : List Sl → Prop} {R : Rv → Prop}
/-- a loop over ints: the state st b x (x: the slot of the loop's name), b changed by g; Iv, what more is known -/
theorem sem_foldI {β : Type} {wi : TI} {j : Nat} {xs : List Int} (g : β → Int → β) (b0 : β) (st : β → Sl → List Sl) (Iv : Nat → β → Prop) (h : ItD K wi S (xs.map D.int)) (x0 : Sl) (h0 : S = st b0 x0) (hi : Iv 0 b0)
    (hj : ∀ b x, j < (st b x).length) (hset : ∀ b x y, (st b x).set j y = st b y)
    (hs : ∀ i b v, xs[i]? = some v → b = (xs.take i).foldl g b0 → Iv i b → Sm K t (fun S' => (∃ x, S' = st (g b v) x) ∧ Iv (i + 1) (g b v)) R (st b (.sh (.int v))))
    (hd : ∀ x, Iv xs.length (xs.foldl g b0) → N (st (xs.foldl g b0) x)) : Sm K (tFor wi (gName j) t) N R S := by
  refine sem_for h (fun i S' => (∃ x, S' = st ((xs.take i).foldl g b0) x) ∧ Iv i ((xs.take i).foldl g b0)) ⟨⟨x0, h0⟩, hi⟩ (fun i d S' hd p => ?_) (fun S' p => ?_)
  · obtain ⟨⟨x, rfl⟩, hI⟩ := p
    rw [List.getElem?_map] at hd
    cases e : xs[i]? with
    | none => rw [e] at hd; cases hd
    | some v =>
      rw [e] at hd
      cases hd
      refine ⟨[j], _, tg_name (hj _ _), ?_⟩
      rw [hset, foldl_take e]
      exact hs i _ v e rfl hI
  · rw [List.length_map, List.take_length] at p
    obtain ⟨⟨x, rfl⟩, hI⟩ := p
    exact hd x hI
/-- the same over range(lo, lo + n) -/
theorem sem_foldR {β : Type} {wi : TI} {j : Nat} {lo : Int} {n : Nat} (g : β → Nat → β) (b0 : β) (st : β → Sl → List Sl) (Iv : Nat → β → Prop) (h : ItD K wi S (rangeD lo n)) (x0 : Sl) (h0 : S = st b0 x0) (hi : Iv 0 b0)
    (hj : ∀ b x, j < (st b x).length) (hset : ∀ b x y, (st b x).set j y = st b y)
    (hs : ∀ i b, i < n → b = (List.range i).foldl g b0 → Iv i b → Sm K t (fun S' => (∃ x, S' = st (g b i) x) ∧ Iv (i + 1) (g b i)) R (st b (.sh (.int (lo + (i : Int))))))
    (hd : ∀ x, Iv n ((List.range n).foldl g b0) → N (st ((List.range n).foldl g b0) x)) : Sm K (tFor wi (gName j) t) N R S := by
  refine sem_for h (fun i S' => (∃ x, S' = st ((List.range i).foldl g b0) x) ∧ Iv i ((List.range i).foldl g b0)) ⟨⟨x0, h0⟩, hi⟩ (fun i d S' hd p => ?_) (fun S' p => ?_)
  · obtain ⟨⟨x, rfl⟩, hI⟩ := p
    obtain ⟨hlt, rfl⟩ := rangeD_get hd
    refine ⟨[j], _, tg_name (hj _ _), ?_⟩
    rw [hset, List.range_succ, List.foldl_append]
    exact hs i _ hlt rfl hI
  · rw [rangeD_len] at p
    obtain ⟨⟨x, rfl⟩, hI⟩ := p
    exact hd x hI
end
end Dx

namespace Dx
open PySem PySem.Spec PyProof.Rows L2

section
variable {K : PySem.W.Frag} {S : List Sl} {ta tb te : TE} {t : TS} {tt : TT} {N : List Sl → Prop} {R : Rv → Prop}
theorem inV_ints {v : Int} : ∀ {ns : List Int}, inV (.int v) (ns.map V.int) = ns.any fun m => m == v
  | [] => rfl
  | n :: ns => by
    have ih := inV_ints (v := v) (ns := ns)
    unfold inV at *
    rw [List.map_cons, List.any_cons, List.any_cons, ih]
    rfl
theorem flat_ints : ∀ {ns : List Int}, (ns.map V.int).all flatV = true
  | [] => rfl
  | n :: ns => by rw [List.map_cons, List.all_cons, flat_ints]; rfl
/-- x in (a, b, ..), all ints -/
theorem evd_inT {v : Int} {ns : List Int} {tu : TA} (ha : EvF K te S (.int v)) (hb : EvA K tu S (ns.map D.int)) (hl : ns.length ≤ sizeLine) : EvD K (tOp (rIn K false) te (tTup tu)) S (.bl (ns.any fun m => m == v)) := fun O H0 H P σ r Q q =>
  ha O H0 H P σ r _ fun x H1 e1 r1 => hb O H0 H1 P σ (r.ext e1) _ fun vs H2 e2 r2 => by
    cases r1
    have ev := r2.of_ints
    subst ev
    refine ⟨by rw [List.length_map]; exact hl, fun p hp => ⟨p, _, rfl, .inr (.of upd_same), rfl, flat_ints, ?_⟩⟩
    show Q (.bl (inV (.int v) (ns.map V.int))) _
    rw [inV_ints]
    exact q _ _ ((e1.trans e2).trans (same_new hp)) (.bl _)
theorem it_rangeN {ta : TA} {n : Nat} (h : EvB K ta S [.int (n : Int)]) (hn : n ≤ 1000000) : ItD K (iRng1 ta) S (rangeD 0 n) := by
  have := it_range1 h (by omega)
  rwa [Int.toNat_natCast] at this
theorem sem_clearI {ns : List Int} {k : Nat} (hk : S[k]? = some (.ow (ns.map D.int))) (q : N (S.set k (.ow (([] : List Int).map D.int)))) : Sm K (tDrop (tBM0 K "list" rClear (tVar k))) N R S := sem_clear hk q
theorem sem_cut (M : List Sl → Prop) (h : Sm K t M R S) (k : ∀ S', M S' → N S') : Sm K t N R S := sem_imp h k fun _ z => z
end

/-! ## plain mathematics -/
theorem nand {p : Prop} {b : Bool} (h : ¬p ∨ b = false) : ¬(p ∧ b = true) := fun z => h.elim (fun q => q z.1) fun q => by rw [z.2] at q; cases q
theorem drop_cons {α : Type} {xs : List α} {i : Nat} {v : α} (h : xs[i]? = some v) : xs.drop i = v :: xs.drop (i + 1) := by
  obtain ⟨hi, e⟩ := List.getElem?_eq_some_iff.mp h
  rw [List.drop_eq_getElem_cons hi, e]
theorem cutG_len {α : Type} (xs : List α) (lo hi : Option Int) : (cutG xs lo hi).length ≤ xs.length := by
  unfold cutG
  rw [List.length_take, List.length_drop]
  omega
/-- 0s at the end taken off -/
def trim (ns : List Int) : List Int := (ns.reverse.dropWhile (· == 0)).reverse
theorem trim_zero (ns : List Int) : trim (ns ++ [0]) = trim ns := by
  unfold trim
  rw [List.reverse_append]
  rfl
theorem trim_nil : trim [] = [] := rfl
theorem trim_last {ns : List Int} {v : Int} (h : v ≠ 0) : trim (ns ++ [v]) = ns ++ [v] := by
  unfold trim
  rw [List.reverse_append, List.reverse_singleton, List.singleton_append, List.dropWhile_cons_of_neg (by simpa using h)]
  simp
theorem snoc_of {ns : List Int} (h : 0 < ns.length) : ns = ns.dropLast ++ [ns.getD (ns.length - 1) 0] := by
  have hn : ns ≠ [] := List.length_pos_iff.mp h
  have e : ns.getD (ns.length - 1) 0 = ns.getLast hn := by
    rw [List.getD_eq_getElem?_getD, ← List.getLast?_eq_getElem?, List.getLast?_eq_getLast hn]
    rfl
  rw [e]
  exact (List.dropLast_concat_getLast hn).symm
theorem trim_pop {ns : List Int} (h : 0 < ns.length) (h0 : ns.getD (ns.length - 1) 0 = 0) : trim ns = trim ns.dropLast := by
  have e := snoc_of h
  rw [h0] at e
  rw [e, trim_zero, List.dropLast_concat]
theorem trim_stop {ns : List Int} (h : ns.length = 0 ∨ ns.getD (ns.length - 1) 0 ≠ 0) : trim ns = ns := by
  rcases h with h | h
  · rw [List.length_eq_zero_iff.mp h]
    rfl
  · by_cases hp : 0 < ns.length
    · have e := snoc_of hp
      rw [e]
      exact trim_last h
    · rw [List.length_eq_zero_iff.mp (show ns.length = 0 by omega)]
      rfl
theorem trim_len (ns : List Int) : (trim ns).length ≤ ns.length := by
  unfold trim
  rw [List.length_reverse]
  have h := (List.dropWhile_sublist (fun x : Int => x == 0) (l := ns.reverse)).length_le
  rwa [List.length_reverse] at h
section
variable {K : PySem.W.Frag} {S : List Sl} {t : TS} {tt : TT} {N : List Sl → Prop} {R : Rv → Prop}
/-- while there is a 0 at the end: pop -/
theorem sem_trim (k : Nat) (st : List Int → List Sl) (r0 : List Int) (h0 : S = st r0) (hk : ∀ r, (st r)[k]? = some (.ow (r.map D.int))) (hs : ∀ r r', (st r).set k (.ow (r'.map D.int)) = st r')
    (ht : ∀ r, EvT K tt (st r) (decide (0 < r.length) && decide (r.getD (r.length - 1) 0 = 0))) (hd : N (st (trim r0))) : Sm K (tWhile tt (tDrop (tBM0 K "list" rPop (tVar k)))) N R S := by
  refine sem_while (fun m S' => ∃ r, S' = st r ∧ trim r = trim r0 ∧ m = r.length) r0.length ⟨r0, h0, rfl, rfl⟩ fun m S' w => ?_
  obtain ⟨r, rfl, he, rfl⟩ := w
  refine ⟨_, ht r, fun hb => ?_, fun hb => ?_⟩
  · simp only [Bool.and_eq_true, decide_eq_true_eq] at hb
    refine sem_popI (hk r) hb.1 ?_
    rw [hs]
    exact ⟨_, by rw [List.length_dropLast]; omega, _, rfl, by rw [← trim_pop hb.1 hb.2]; exact he, rfl⟩
  · simp only [Bool.and_eq_false_iff, decide_eq_false_iff_not] at hb
    rw [trim_stop (hb.elim (fun z => .inl (by omega)) .inr)] at he
    rw [he]
    exact hd
end

/-! ## calm rows -/
def calmGo : List Int → Bool → Bool → Bool
  | [], _, _ => true
  | f :: r, two, less => if f < -1 ∨ 2 < f then false else if f = 2 ∧ two = true ∨ f = -1 ∧ less = true then false
    else calmGo r (decide (f = 2) || (decide (f = 1) && two)) (decide (f = -1) || (decide (f = 0) && less))
def isCalm (ns : List Int) : Bool := calmGo ns false false && (decide (ns = []) || !decide (ns.getD (ns.length - 1) 0 = 0))
/-- from a figure upward: no other like it ahead of what parts them -/
def partedGo (sign : Int) : List Int → Bool
  | [] => true
  | f :: r => if sign = 2 ∧ f < 1 ∨ sign = -1 ∧ 0 < f then true else if f = sign then false else partedGo sign r
def lcGo : List Int → Bool
  | [] => true
  | f :: r => if f < -1 ∨ 2 < f then false else if (f = 2 ∨ f = -1) ∧ partedGo f r = false then false else lcGo r
theorem calmGo_lc : ∀ (r : List Int) (two less : Bool), calmGo r two less = (lcGo r && (!two || partedGo 2 r) && (!less || partedGo (-1) r))
  | [], two, less => by cases two <;> cases less <;> rfl
  | f :: r, two, less => by
    unfold calmGo lcGo
    by_cases h1 : f < -1 ∨ 2 < f
    · rw [if_pos h1, if_pos h1]
      simp
    · rw [if_neg h1, if_neg h1]
      have hf : f = -1 ∨ f = 0 ∨ f = 1 ∨ f = 2 := by omega
      rcases hf with rfl | rfl | rfl | rfl
      · cases less with
        | true => simp [partedGo]
        | false =>
          simp only [partedGo]
          have ih := calmGo_lc r false true
          simp at ih ⊢
          rw [ih]
          cases lcGo r <;> cases partedGo (-1) r <;> simp
      · have ih := calmGo_lc r false less
        simp [partedGo] at ih ⊢
        rw [ih]
      · have ih := calmGo_lc r two false
        simp [partedGo] at ih ⊢
        rw [ih]
      · cases two with
        | true => simp [partedGo]
        | false =>
          have ih := calmGo_lc r true false
          simp [partedGo] at ih ⊢
          rw [ih]
          cases lcGo r <;> cases partedGo 2 r <;> simp
end Dx

namespace Dx
open PySem PySem.Spec PyProof.Rows L2

/-! ## lists of lists, lists of any encoded things -/
abbrev lstI (ns : List Int) : D := .lst (ns.map D.int)
theorem enc_LI : Enc lstI 2 := enc_int.list
theorem enc_LLI : Enc (fun xs : List (List Int) => D.lst (xs.map lstI)) 3 := enc_LI.list
section
variable {K : PySem.W.Frag} {S : List Sl} {ta tb te : TE} {d e : D} {ds es : List D} {i j : Int} {t : TS} {tt : TT} {N : List Sl → Prop} {R : Rv → Prop} {α : Type} {g : α → D}
theorem at_map {xs : List α} {k : Nat} {z : α} (h : k < xs.length) : (xs.map g)[k]? = some (g (xs.getD k z)) := by
  rw [List.getElem?_map, List.getElem?_eq_getElem h, List.getD_eq_getElem?_getD, List.getElem?_eq_getElem h]
  rfl
theorem evd_ixG {xs : List α} (z : α) (ha : EvL K ta S (xs.map g)) (hb : EvF K tb S (.int i)) (h : 0 ≤ i ∧ i < xs.length) : EvD K (tOp (rIxL K) ta tb) S (g (xs.getD i.toNat z)) :=
  evd_ix ha hb (atI_ge h.1 (at_map (by omega)))
theorem evd_ixLI {xs : List (List Int)} (ha : EvL K ta S (xs.map lstI)) (hb : EvF K tb S (.int i)) (h : 0 ≤ i ∧ i < xs.length) : EvD K (tOp (rIxL K) ta tb) S (.lst ((xs.getD i.toNat []).map D.int)) := evd_ixG [] ha hb h
theorem evd_lenG {xs : List α} (h : EvL K te S (xs.map g)) : EvD K (tCB (rLenA K) (tCons te tNil)) S (.int xs.length) := by
  have := evd_len h
  rwa [List.length_map] at this
theorem sem_appG {x : α} {xs : List α} {k : Nat} (hk : S[k]? = some (.ow (xs.map g))) (h : EvD K te S (g x)) (hz : xs.length < sizeLine) (q : N (S.set k (.ow ((xs ++ [x]).map g)))) : Sm K (tDrop (tBM K "list" rAppend (tVar k) (tCons te tNil))) N R S :=
  sem_append hk h (by rw [List.length_map]; exact hz) (by rw [List.map_append] at q; exact q)
/-- told.append(row): row is no more changed -/
theorem sem_appOwn {k m : Nat} {es : List D} (hk : S[k]? = some (.ow ds)) (hm : S[m]? = some (.ow es)) (hkm : Nat.beq k m = false) (hz : ds.length < sizeLine) (q : N ((S.set m (.sh (.lst es))).set k (.ow (ds ++ [.lst es])))) : Sm K (tDrop (tBM K "list" rAppend (tVar k) (tCons (tVar m) tNil))) N R S := by
  have hne : m ≠ k := fun z => by
    subst z
    exact absurd (Nat.eq_of_beq_eq_true (show Nat.beq m m = true from Nat.beq_refl m)) (fun _ => by rw [Nat.beq_refl] at hkm; cases hkm)
  refine sem_freeze m hm (sem_append (d := .lst es) (ds := ds) ?_ (evd_var ?_) hz q)
  · rw [List.getElem?_set_ne hne]
    exact hk
  · rw [List.getElem?_set_self (set_some hm)]
theorem sem_appOwnI {k m : Nat} {xs : List (List Int)} {ns : List Int} (hk : S[k]? = some (.ow (xs.map lstI))) (hm : S[m]? = some (.ow (ns.map D.int))) (hkm : Nat.beq k m = false) (hz : xs.length < sizeLine) (q : N ((S.set m (.sh (.lst (ns.map D.int)))).set k (.ow ((xs ++ [ns]).map lstI)))) : Sm K (tDrop (tBM K "list" rAppend (tVar k) (tCons (tVar m) tNil))) N R S :=
  sem_appOwn hk hm hkm (by rw [List.length_map]; exact hz) (by rw [List.map_append] at q; exact q)
theorem map_set {xs : List α} {k : Nat} {x : α} : (xs.set k x).map g = (xs.map g).set k (g x) := by
  rw [List.map_set]
theorem ixN_ge {n : Nat} {i : Int} (h : 0 ≤ i ∧ i < n) : ixN n i = some i.toNat := by
  unfold ixN
  rw [if_pos h.1, if_pos h.2]
theorem sem_setI {ns : List Int} {v : Int} {k : Nat} {ti : TE} {j : Int} (hk : S[k]? = some (.ow (ns.map D.int))) (h : EvF K te S (.int v)) (hi : EvF K ti S (.int j)) (hj : 0 ≤ j ∧ j < ns.length) (q : N (S.set k (.ow ((ns.set j.toNat v).map D.int)))) : Sm K (tAsg te (gSub (tVar k) ti rSetL)) N R S :=
  sem_setIx hk (sc_int h) hi (by rw [List.length_map]; exact ixN_ge hj) (by rw [map_set] at q; exact q)
/-- [f(x) for x in ..], ints to anything -/
theorem evn_lcG {wi : TI} {j : Nat} {β : Type} {f : β → D} {xs : List α} (y : α → β) (hit : ItD K wi S (xs.map g)) (hw : S[j]? = some .no) (hz : xs.length < sizeLine)
    (hs : ∀ x, x ∈ xs → EvD K te (S.set j (.sh (g x))) (f (y x))) : EvN K (tLc wi (gName j) tYes te [j]) S ((xs.map y).map f) := by
  refine evn_lc hit (fun w m => by rw [List.mem_singleton.mp m]; exact hw) (by rw [List.length_map]; exact hz) (by rw [List.length_map, List.length_map, List.length_map]) fun i d e hd he => ?_
  rw [List.getElem?_map] at hd
  rw [List.getElem?_map, List.getElem?_map] at he
  cases q : xs[i]? with
  | none => rw [q] at hd; cases hd
  | some x =>
    rw [q] at hd he
    cases hd
    cases he
    exact ⟨[j], _, fun _ m => m, tg_name (set_some hw), hs x (List.mem_of_getElem? q)⟩
end

section
variable {K : PySem.W.Frag} {S : List Sl} {t : TS} {N : List Sl → Prop} {R : Rv → Prop}
/-- as sem_foldI, with slots whose content is not told (c; up: the loop's name is stored) -/
theorem sem_foldJ {β γ α : Type} {e : α → D} {wi : TI} {j : Nat} {xs : List α} (g : β → α → β) (b0 : β) (st : β → γ → List Sl) (up : γ → Sl → γ) (Iv : Nat → β → Prop) (h : ItD K wi S (xs.map e)) (c0 : γ) (h0 : S = st b0 c0) (hi : Iv 0 b0)
    (hj : ∀ b x, j < (st b x).length) (hset : ∀ b x y, (st b x).set j y = st b (up x y))
    (hs : ∀ i b v c, xs[i]? = some v → b = (xs.take i).foldl g b0 → Iv i b → Sm K t (fun S' => (∃ x, S' = st (g b v) x) ∧ Iv (i + 1) (g b v)) R (st b (up c (.sh (e v)))))
    (hd : ∀ x, Iv xs.length (xs.foldl g b0) → N (st (xs.foldl g b0) x)) : Sm K (tFor wi (gName j) t) N R S := by
  refine sem_for h (fun i S' => (∃ x, S' = st ((xs.take i).foldl g b0) x) ∧ Iv i ((xs.take i).foldl g b0)) ⟨⟨c0, h0⟩, hi⟩ (fun i d S' hd p => ?_) (fun S' p => ?_)
  · obtain ⟨⟨x, rfl⟩, hI⟩ := p
    rw [List.getElem?_map] at hd
    cases q : xs[i]? with
    | none => rw [q] at hd; cases hd
    | some v =>
      rw [q] at hd
      cases hd
      refine ⟨[j], _, tg_name (hj _ _), ?_⟩
      rw [hset, foldl_take q]
      exact hs i _ v _ q rfl hI
  · rw [List.length_map, List.take_length] at p
    obtain ⟨⟨x, rfl⟩, hI⟩ := p
    exact hd x hI
theorem sem_foldRJ {β γ : Type} {wi : TI} {j : Nat} {lo : Int} {n : Nat} (g : β → Nat → β) (b0 : β) (st : β → γ → List Sl) (up : γ → Sl → γ) (Iv : Nat → β → Prop) (h : ItD K wi S (rangeD lo n)) (c0 : γ) (h0 : S = st b0 c0) (hi : Iv 0 b0)
    (hj : ∀ b x, j < (st b x).length) (hset : ∀ b x y, (st b x).set j y = st b (up x y))
    (hs : ∀ i b c, i < n → b = (List.range i).foldl g b0 → Iv i b → Sm K t (fun S' => (∃ x, S' = st (g b i) x) ∧ Iv (i + 1) (g b i)) R (st b (up c (.sh (.int (lo + (i : Int)))))))
    (hd : ∀ x, Iv n ((List.range n).foldl g b0) → N (st ((List.range n).foldl g b0) x)) : Sm K (tFor wi (gName j) t) N R S := by
  refine sem_for h (fun i S' => (∃ x, S' = st ((List.range i).foldl g b0) x) ∧ Iv i ((List.range i).foldl g b0)) ⟨⟨c0, h0⟩, hi⟩ (fun i d S' hd p => ?_) (fun S' p => ?_)
  · obtain ⟨⟨x, rfl⟩, hI⟩ := p
    obtain ⟨hlt, rfl⟩ := rangeD_get hd
    refine ⟨[j], _, tg_name (hj _ _), ?_⟩
    rw [hset, List.range_succ, List.foldl_append]
    exact hs i _ _ hlt rfl hI
  · rw [rangeD_len] at p
    obtain ⟨⟨x, rfl⟩, hI⟩ := p
    exact hd x hI
end
theorem getD_in {ns : List Int} {k : Nat} (h : k < ns.length) : ns.getD k 0 ∈ ns := List.mem_of_getElem? (getD_at0 h)

/-! ## worth, bits -/
def wo (ns : List Int) : Int := ns.reverse.foldl (fun t f => 2 * t + f) 0
theorem wo_nil : wo [] = 0 := rfl
theorem wo_cons (f : Int) (ns : List Int) : wo (f :: ns) = f + 2 * wo ns := by
  unfold wo
  rw [List.reverse_cons, List.foldl_append]
  simp only [List.foldl_cons, List.foldl_nil]
  omega
theorem two_pow_succ (k : Nat) : (2 : Int) ^ (k + 1) = 2 * 2 ^ k := by rw [Int.pow_succ]; omega
theorem two_pow_pos (k : Nat) : (0 : Int) < 2 ^ k := by
  induction k with
  | zero => decide
  | succ k ih => rw [two_pow_succ]; omega
theorem wo_append : ∀ (xs ys : List Int), wo (xs ++ ys) = wo xs + 2 ^ xs.length * wo ys
  | [], ys => by rw [List.nil_append, wo_nil, List.length_nil, Int.pow_zero]; omega
  | x :: xs, ys => by
    rw [List.cons_append, wo_cons, wo_append xs ys, wo_cons, List.length_cons, two_pow_succ, Int.mul_add, Int.mul_assoc]
    omega
def bitsL : Int → Nat → List Int
  | _, 0 => []
  | n, m + 1 => n % 2 :: bitsL (n / 2) m
theorem bitsL_len : ∀ (m : Nat) (n : Int), (bitsL n m).length = m
  | 0, _ => rfl
  | m + 1, n => by rw [bitsL, List.length_cons, bitsL_len m]
theorem bitsL_wo : ∀ (m : Nat) (n : Int), 0 ≤ n → n < 2 ^ m → wo (bitsL n m) = n
  | 0, n, h0, h => by rw [bitsL, wo_nil]; rw [Int.pow_zero] at h; omega
  | m + 1, n, h0, h => by
    rw [two_pow_succ] at h
    rw [bitsL, wo_cons, bitsL_wo m (n / 2) (by omega) (by omega)]
    omega
theorem bitsL_fig : ∀ (m : Nat) (n : Int), ∀ f, f ∈ bitsL n m → f = 0 ∨ f = 1
  | 0, n, f, h => by cases h
  | m + 1, n, f, h => by
    rw [bitsL] at h
    rcases List.mem_cons.mp h with h | h
    · omega
    · exact bitsL_fig m _ f h
/-- the least m with k < 2 ^ m -/
def manyOf (k : Int) : Nat := if k ≤ 0 then 0 else k.toNat.log2 + 1
theorem manyOf_spec (k : Int) : k < 2 ^ manyOf k ∧ (manyOf k = 0 ∨ (2 : Int) ^ (manyOf k - 1) ≤ k) := by
  unfold manyOf
  by_cases h : k ≤ 0
  · rw [if_pos h]
    exact ⟨by rw [Int.pow_zero]; omega, .inl rfl⟩
  · rw [if_neg h]
    obtain ⟨n, rfl⟩ := Int.eq_ofNat_of_zero_le (show 0 ≤ k by omega)
    have hn : n ≠ 0 := by omega
    rw [Int.toNat_natCast, Nat.add_sub_cancel]
    have h1 : n < 2 ^ (n.log2 + 1) := (Nat.log2_lt hn).mp (Nat.lt_succ_self _)
    have h2 : 2 ^ n.log2 ≤ n := (Nat.le_log2 hn).mp (Nat.le_refl _)
    refine ⟨by exact_mod_cast h1, .inr (by exact_mod_cast h2)⟩
theorem two_pow_mono {a b : Nat} (h : a ≤ b) : (2 : Int) ^ a ≤ 2 ^ b := by
  obtain ⟨c, rfl⟩ := Nat.exists_eq_add_of_le h
  induction c with
  | zero => exact Int.le_refl _
  | succ c ih =>
    have := ih (by omega)
    have := two_pow_pos (a + c)
    rw [← Nat.add_assoc, two_pow_succ]
    omega
theorem manyOf_uniq {k : Int} {m : Nat} (h1 : k < 2 ^ m) (h2 : m = 0 ∨ (2 : Int) ^ (m - 1) ≤ k) : m = manyOf k := by
  obtain ⟨g1, g2⟩ := manyOf_spec k
  rcases Nat.lt_trichotomy m (manyOf k) with h | h | h
  · have q := two_pow_mono (show m ≤ manyOf k - 1 by omega)
    rcases g2 with g2 | g2 <;> omega
  · exact h
  · have q := two_pow_mono (show manyOf k ≤ m - 1 by omega)
    rcases h2 with h2 | h2 <;> omega
theorem manyOf_le {k : Int} {m : Nat} (h : k < 2 ^ m) : manyOf k ≤ m := by
  obtain ⟨g1, g2⟩ := manyOf_spec k
  rcases Nat.lt_or_ge m (manyOf k) with q | q
  · have := two_pow_mono (show m ≤ manyOf k - 1 by omega)
    rcases g2 with g2 | g2 <;> omega
  · exact q
end Dx

namespace Dx
open PySem PySem.Spec PyProof.Rows L2

/-! ## never, bool - bool, enumerate -/
abbrev rSubB : R2 := fun x y H Q => ∃ a b, x = .bl a ∧ y = .bl b ∧ Q (.int ((if a = true then (1 : Int) else 0) - (if b = true then (1 : Int) else 0))) H
theorem op_subB {X : Cx} : OpR X (binaryOp .Sub) rSubB := by
  intro pins s σ H x y v u Q I rx ry h
  obtain ⟨a, b, rfl, rfl, q⟩ := h
  cases rx
  cases ry
  exact sub_bool ⟨.int _, H, I.tok _, ⟨_, rfl⟩, q⟩
section
variable {K : PySem.W.Frag} {S : List Sl} {ta tb te : TE} {d e : D} {ds es : List D} {i j : Int} {t : TS} {tt : TT} {N : List Sl → Prop} {R : Rv → Prop} {a b : Bool}
theorem sem_never (h : False) : Sm K tNever N R S := h.elim
theorem evd_subB (ha : EvF K ta S (.bl a)) (hb : EvF K tb S (.bl b)) : EvD K (tOp rSubB ta tb) S (.int ((if a = true then (1 : Int) else 0) - (if b = true then (1 : Int) else 0))) :=
  ev2 ha hb fun x y H Q h1 h2 q => by cases h1; cases h2; exact ⟨a, b, rfl, rfl, q _ fun _ => .int _⟩
def enumD (ds : List D) : List D := (List.range ds.length).map fun (k : Nat) => D.tup [.int (k : Int), ds.getD k .non]
theorem enumD_len (ds : List D) : (enumD ds).length = ds.length := by unfold enumD; rw [List.length_map, List.length_range]
theorem enumD_get {ds : List D} {i : Nat} {d : D} (h : (enumD ds)[i]? = some d) : ∃ e, ds[i]? = some e ∧ d = .tup [.int (i : Int), e] := by
  have hi : i < ds.length := by
    have := (List.getElem?_eq_some_iff.mp h).1
    rwa [enumD_len] at this
  unfold enumD at h
  rw [List.getElem?_map, List.getElem?_range hi] at h
  refine ⟨_, List.getElem?_eq_getElem hi, ?_⟩
  rw [← Option.some.inj h]
  show D.tup [D.int (i : Int), ds.getD i .non] = _
  rw [List.getD_eq_getElem?_getD, List.getElem?_eq_getElem hi]
  rfl
theorem it_enum {ta : TA} (h : EvA K ta S [.lst ds]) : ItD K (iEnum K ta) S (enumD ds) := fun O H0 H P σ r Z q => h O H0 H P σ r _ fun vs H1 e1 r1 => by
  cases r1 with
  | cons r1 r2 =>
    cases r2
    cases r1 with
    | @lst a xs _ hp rv =>
      refine ⟨a, xs, rfl, .of (fro_le _ _ hp), q _ H1 e1 ?_⟩
      have hl := rv.length
      have tt : ∀ {H : Hp}, Same (fro H1 O P) H → SqL K H a xs := fun g => .of (g _ _ hp)
      refine ⟨fun i H g hi => ?_, fun i H g hi => ?_, fun i H x H' d g hd y => ?_⟩
      · rw [enumD_len] at hi
        exact ⟨xs, xs[i]'(by omega), tt g, List.getElem?_eq_getElem (by omega)⟩
      · rw [enumD_len] at hi
        exact ⟨xs, tt g, by omega⟩
      · obtain ⟨T, x', rfl, hT, rfl, hx⟩ := y
        obtain ⟨e, he, rfl⟩ := enumD_get hd
        obtain ⟨d', h1, h2⟩ := rv.get (hx _ (tt g))
        rw [he] at h1
        cases h1
        refine ⟨same_new hT, .tup (xs := [.int (i : Int), x']) ?_ (.cons (.int _) (.cons (h2.mono jn_left) .nil))⟩
        unfold jn
        cases z : fro H1 O P T with
        | some o => rw [g _ _ z] at hT; cases hT
        | none => rw [hT]; exact upd_same
/-- for k, x in enumerate(ints) -/
theorem sem_foldE {β : Type} {wi : TI} {j1 j2 : Nat} {xs : List Int} (g : β → Nat → Int → β) (b0 : β) (st : β → Sl → Sl → List Sl) (Iv : Nat → β → Prop) (h : ItD K wi S (enumD (xs.map D.int))) (x0 y0 : Sl) (h0 : S = st b0 x0 y0) (hi : Iv 0 b0)
    (hj : ∀ b x y, j1 < (st b x y).length) (hj2 : ∀ b x y, j2 < (st b x y).length) (hset : ∀ b x y z, (st b x y).set j1 z = st b z y) (hset2 : ∀ b x y z, (st b x y).set j2 z = st b x z)
    (hs : ∀ i b v, xs[i]? = some v → Iv i b → Sm K t (fun S' => (∃ x y, S' = st (g b i v) x y) ∧ Iv (i + 1) (g b i v)) R (st b (.sh (.int (i : Int))) (.sh (.int v))))
    (hd : ∀ x y b, b = (xs.zipIdx.foldl (fun b p => g b p.2 p.1) b0) → Iv xs.length b → N (st b x y)) : Sm K (tFor wi (gTup K 2 (gCons (gName j1) (gCons (gName j2) gNil))) t) N R S := by
  refine sem_for h (fun i S' => (∃ x y, S' = st ((xs.zipIdx.take i).foldl (fun b p => g b p.2 p.1) b0) x y) ∧ Iv i ((xs.zipIdx.take i).foldl (fun b p => g b p.2 p.1) b0)) ⟨⟨x0, y0, h0⟩, hi⟩ (fun i d S' hd p => ?_) (fun S' p => ?_)
  · obtain ⟨⟨x, y, rfl⟩, hI⟩ := p
    obtain ⟨e, he, rfl⟩ := enumD_get hd
    rw [List.getElem?_map] at he
    cases q : xs[i]? with
    | none => rw [q] at he; cases he
    | some v =>
      rw [q] at he
      cases he
      refine ⟨_, _, tg_tup (tg_cons (tg_name (hj _ _ _)) (tg_cons (tg_name (by rw [hset]; exact hj2 _ _ _)) tg_nil)) rfl, ?_⟩
      rw [hset, hset2]
      have hz : xs.zipIdx[i]? = some (v, i) := by rw [List.getElem?_zipIdx, q]; simp
      rw [foldl_take hz]
      exact hs i _ v q hI
  · rw [enumD_len, List.length_map] at p
    rw [List.take_of_length_le (by rw [List.length_zipIdx]; exact Nat.le_refl _)] at p
    obtain ⟨⟨x, y, rfl⟩, hI⟩ := p
    exact hd x y _ rfl hI
end

/-! ## a call with an own list; a tuple of plain things comes -/
def scD : D → Bool
  | .non | .bl _ | .int _ | .str _ => true
  | _ => false
theorem scD_rp {K : PySem.W.Frag} {H H' : Hp} {v : V} : ∀ {d : D}, scD d = true → Rp K H v d → Rp K H' v d
  | .non, _, h => by cases h; exact .non
  | .bl _, _, h => by cases h; exact .bl _
  | .int _, _, h => by cases h; exact .int _
  | .str _, _, h => by cases h; exact .str _
theorem scD_all {K : PySem.W.Frag} {H H' : Hp} : ∀ {ds : List D} {vs : List V}, ds.all scD = true → RpAll K H vs ds → RpAll K H' vs ds
  | [], _, _, h => by cases h; exact .nil
  | d :: ds, _, e, h => by
    rw [List.all_cons, Bool.and_eq_true] at e
    cases h with
    | cons h ha => exact .cons (scD_rp e.1 h) (scD_all e.2 ha)
theorem evd_callO {α : Type} {A : α → List D} {pre : α → Prop} {f : α → Rv} {E : XK} {K : PySem.W.Frag} {S : List Sl} {ds es : List D} {k : Nat} (a : α) (hk : S[k]? = some (.ow ds)) (hA : A a = [.lst ds]) (hp : pre a) (hf : f a = .val (.tup es)) (he : es.all scD = true) :
    EvD K (tCall (PSp K A pre f) [] E (tCons (tVar k) tNil)) S (.tup es) := fun O H0 H P σ R Q q => by
  obtain ⟨p, vs, e, eP, hpv, r⟩ := R.at_ k _ hk
  refine ⟨.ref p, e, a, (O ++ P.flatten).filter (· ≠ p), fun x m => call_core R x (List.mem_filter.mp m).1, ?_, hp, fun v H2 hr => ?_⟩
  · rw [hA]
    refine .cons (.lst (hidL_some.mpr ⟨fun m => ?_, hpv⟩) (r.mono (hid_le (Same.refl _) fun x m => .inl (List.mem_filter.mp m).1))) .nil
    simpa using (List.mem_filter.mp m).2
  · rw [hf] at hr
    obtain ⟨e2, r2⟩ := hr
    refine q v H2 e2 ?_
    cases r2 with
    | tup h2 r3 =>
      obtain ⟨n2, h3⟩ := hidL_some.mp h2
      refine .tup (hidL_some.mpr ⟨fun m => n2 (List.mem_filter.mpr ⟨m, ?_⟩), h3⟩) (scD_all he r3)
      refine decide_eq_true fun z => ?_
      subst z
      rw [e2 _ _ hpv] at h3
      cases h3

/-! ## calm rows, more -/
theorem calmGo_cons {f : Int} {r : List Int} {two less : Bool} : calmGo (f :: r) two less = true ↔ (-1 ≤ f ∧ f ≤ 2) ∧ ¬(f = 2 ∧ two = true ∨ f = -1 ∧ less = true) ∧ calmGo r (decide (f = 2) || (decide (f = 1) && two)) (decide (f = -1) || (decide (f = 0) && less)) = true := by
  rw [calmGo]
  split
  · exact ⟨fun z => (nomatch z), fun z => by omega⟩
  · split
    · rename_i h
      exact ⟨fun z => (nomatch z), fun z => absurd h z.2.1⟩
    · rename_i h1 h2
      exact ⟨fun z => ⟨by omega, h2, z⟩, fun z => z.2.2⟩
theorem calmGo_fig : ∀ {r : List Int} {two less : Bool}, calmGo r two less = true → ∀ f, f ∈ r → -1 ≤ f ∧ f ≤ 2
  | [], _, _, _, f, m => (nomatch m)
  | x :: r, two, less, h, f, m => by
    obtain ⟨h1, _, h3⟩ := calmGo_cons.mp h
    rcases List.mem_cons.mp m with m | m
    · rw [m]; exact h1
    · exact calmGo_fig h3 f m
/-- fewer open figures keep a row calm -/
theorem calmGo_anti : ∀ {r : List Int} {two less two' less' : Bool}, (two' = true → two = true) → (less' = true → less = true) → calmGo r two less = true → calmGo r two' less' = true
  | [], _, _, _, _, _, _, _ => rfl
  | x :: r, two, less, two', less', h1, h2, h => by
    obtain ⟨g1, g2, g3⟩ := calmGo_cons.mp h
    refine calmGo_cons.mpr ⟨g1, fun z => g2 ?_, calmGo_anti ?_ ?_ g3⟩
    · rcases z with z | z
      · exact .inl ⟨z.1, h1 z.2⟩
      · exact .inr ⟨z.1, h2 z.2⟩
    · intro z
      simp only [Bool.or_eq_true, Bool.and_eq_true] at z ⊢
      exact z.imp id fun z => ⟨z.1, h1 z.2⟩
    · intro z
      simp only [Bool.or_eq_true, Bool.and_eq_true] at z ⊢
      exact z.imp id fun z => ⟨z.1, h2 z.2⟩
theorem calmGo_left : ∀ {xs ys : List Int} {two less : Bool}, calmGo (xs ++ ys) two less = true → calmGo xs two less = true
  | [], _, _, _, _ => rfl
  | x :: xs, ys, two, less, h => by
    obtain ⟨g1, g2, g3⟩ := calmGo_cons.mp h
    exact calmGo_cons.mpr ⟨g1, g2, calmGo_left g3⟩
theorem calmGo_right : ∀ {xs ys : List Int} {two less : Bool}, calmGo (xs ++ ys) two less = true → calmGo ys false false = true
  | [], _, _, _, h => calmGo_anti (fun z => (nomatch z)) (fun z => (nomatch z)) h
  | x :: xs, ys, two, less, h => calmGo_right (calmGo_cons.mp h).2.2
theorem calmGo_zeros : ∀ (k : Nat) (r : List Int), calmGo (List.replicate k 0 ++ r) false false = calmGo r false false
  | 0, _ => rfl
  | k + 1, r => by
    rw [List.replicate_succ, List.cons_append, calmGo]
    exact calmGo_zeros k r
theorem calmGo_ones : ∀ (k : Nat) (r : List Int), calmGo (List.replicate k 1 ++ r) false false = calmGo r false false
  | 0, _ => rfl
  | k + 1, r => by
    rw [List.replicate_succ, List.cons_append, calmGo]
    exact calmGo_ones k r
theorem calm_iff {ns : List Int} : isCalm ns = true ↔ calmGo ns false false = true ∧ (ns = [] ∨ ns.getD (ns.length - 1) 0 ≠ 0) := by
  unfold isCalm
  rw [Bool.and_eq_true, Bool.or_eq_true, decide_eq_true_eq, Bool.not_eq_true', decide_eq_false_iff_not]
theorem last_app {xs ys : List Int} (h : ys ≠ []) : (xs ++ ys).getD ((xs ++ ys).length - 1) 0 = ys.getD (ys.length - 1) 0 := by
  have := List.length_pos_iff.mpr h
  rw [List.getD_eq_getElem?_getD, List.getElem?_append_right (by rw [List.length_append]; omega), List.getD_eq_getElem?_getD, List.length_append]
  congr 2
  omega
theorem calm_app {xs ys : List Int} (h : isCalm (xs ++ ys) = true) : isCalm ys = true := by
  obtain ⟨h1, h2⟩ := calm_iff.mp h
  refine calm_iff.mpr ⟨calmGo_right h1, ?_⟩
  by_cases hy : ys = []
  · exact .inl hy
  · refine .inr ?_
    rw [last_app hy] at h2
    exact h2.resolve_left fun z => hy (List.append_eq_nil_iff.mp z).2
theorem calm_drop {ns : List Int} (k : Nat) (h : isCalm ns = true) : isCalm (ns.drop k) = true := by
  rw [← List.take_append_drop k ns] at h
  exact calm_app h
theorem calm_of {xs ys : List Int} (h1 : calmGo (xs ++ ys) false false = true) (h2 : isCalm ys = true) (h3 : ys ≠ []) : isCalm (xs ++ ys) = true := by
  refine calm_iff.mpr ⟨h1, .inr ?_⟩
  rw [last_app h3]
  exact (calm_iff.mp h2).2.resolve_left h3
theorem wo_bd : ∀ {ns : List Int}, (∀ f, f ∈ ns → -1 ≤ f ∧ f ≤ 2) → -(2 ^ ns.length) < wo ns ∧ wo ns ≤ 2 * 2 ^ ns.length - 2
  | [], _ => by rw [wo_nil, List.length_nil, Int.pow_zero]; omega
  | f :: ns, h => by
    have ih := wo_bd fun x m => h x (List.mem_cons_of_mem _ m)
    have hf := h f List.mem_cons_self
    rw [wo_cons, List.length_cons, two_pow_succ]
    omega
theorem calm_fig {ns : List Int} (h : isCalm ns = true) : ∀ f, f ∈ ns → -1 ≤ f ∧ f ≤ 2 := calmGo_fig (calm_iff.mp h).1
theorem wo_zeros : ∀ (k : Nat) (r : List Int), wo (List.replicate k 0 ++ r) = 2 ^ k * wo r
  | 0, r => by rw [List.replicate_zero, List.nil_append, Int.pow_zero]; omega
  | k + 1, r => by rw [List.replicate_succ, List.cons_append, wo_cons, wo_zeros k, two_pow_succ, Int.mul_assoc]; omega
/-! trim keeps calm -/
theorem dw_head : ∀ l : List Int, l.dropWhile (· == 0) = [] ∨ ∃ v r, l.dropWhile (· == 0) = v :: r ∧ v ≠ 0
  | [] => .inl rfl
  | x :: l => by
    by_cases h : x = 0
    · rw [List.dropWhile_cons_of_pos (by simpa using h)]
      exact dw_head l
    · rw [List.dropWhile_cons_of_neg (by simpa using h)]
      exact .inr ⟨x, l, rfl, h⟩
theorem trim_pre (ns : List Int) : ∃ zs, ns = trim ns ++ zs := by
  refine ⟨(ns.reverse.takeWhile (· == 0)).reverse, ?_⟩
  unfold trim
  rw [← List.reverse_append, List.takeWhile_append_dropWhile, List.reverse_reverse]
theorem trim_calm {ns : List Int} (h : calmGo ns false false = true) : isCalm (trim ns) = true := by
  obtain ⟨zs, hz⟩ := trim_pre ns
  rw [hz] at h
  refine calm_iff.mpr ⟨calmGo_left h, ?_⟩
  unfold trim
  rcases dw_head ns.reverse with e | ⟨v, r, e, hv⟩
  · rw [e]
    exact .inl rfl
  · rw [e, List.reverse_cons]
    refine .inr ?_
    rw [last_app (by simp)]
    exact hv

/-! ## where the sign is settled -/
def sgn (w : Int) : Int := if 0 < w then 1 else if w < 0 then -1 else 0
def leftFrom (ns : List Int) : Nat → Nat
  | 0 => 0
  | k + 1 => if wo (ns.drop (k + 1)) = 0 ∨ wo (ns.drop (k + 1)) = -1 then leftFrom ns k else k + 1
def leftOf (ns : List Int) : Nat := leftFrom ns ns.length
theorem leftFrom_le (ns : List Int) : ∀ k, leftFrom ns k ≤ k
  | 0 => Nat.le_refl _
  | k + 1 => by
    have := leftFrom_le ns k
    rw [leftFrom]
    split <;> omega
theorem leftFrom_above (ns : List Int) : ∀ (k j : Nat), leftFrom ns k < j → j ≤ k → wo (ns.drop j) = 0 ∨ wo (ns.drop j) = -1
  | 0, j, h1, h2 => by rw [leftFrom] at h1; omega
  | k + 1, j, h1, h2 => by
    rw [leftFrom] at h1
    split at h1
    · rename_i h
      by_cases e : j = k + 1
      · rw [e]; exact h
      · exact leftFrom_above ns k j h1 (by omega)
    · omega
theorem leftFrom_stop (ns : List Int) : ∀ k, leftFrom ns k = 0 ∨ ¬(wo (ns.drop (leftFrom ns k)) = 0 ∨ wo (ns.drop (leftFrom ns k)) = -1)
  | 0 => .inl rfl
  | k + 1 => by
    rw [leftFrom]
    split
    · exact leftFrom_stop ns k
    · rename_i h
      exact .inr h
theorem sgn_left {ns : List Int} (hf : ∀ f, f ∈ ns → -1 ≤ f ∧ f ≤ 2) : sgn (wo (ns.drop (leftOf ns))) = sgn (wo ns) := by
  rcases leftFrom_stop ns ns.length with h | h
  · rw [leftOf, h, List.drop_zero]
  · change ¬(wo (ns.drop (leftOf ns)) = 0 ∨ wo (ns.drop (leftOf ns)) = -1) at h
    have hl : leftOf ns ≤ ns.length := leftFrom_le _ _
    have e := wo_append (ns.take (leftOf ns)) (ns.drop (leftOf ns))
    rw [List.take_append_drop, List.length_take, Nat.min_eq_left hl] at e
    have b := wo_bd (ns := ns.take (leftOf ns)) fun f m => hf f (List.mem_of_mem_take m)
    rw [List.length_take, Nat.min_eq_left hl] at b
    have hp := two_pow_pos (leftOf ns)
    generalize wo (ns.drop (leftOf ns)) = W at *
    generalize (2 : Int) ^ leftOf ns = T at *
    have : W ≥ 1 ∨ W ≤ -2 := by omega
    unfold sgn
    rcases this with q | q
    · have : T * 1 ≤ T * W := Int.mul_le_mul_of_nonneg_left q (by omega)
      rw [if_pos (by omega), if_pos (by omega)]
    · have : T * W ≤ T * (-2) := Int.mul_le_mul_of_nonneg_left q (by omega)
      rw [if_neg (by omega), if_pos (by omega), if_neg (by omega), if_pos (by omega)]
theorem left_lt {ns : List Int} (h : ns ≠ []) : leftOf ns < ns.length := by
  obtain ⟨k, hk⟩ := Nat.exists_eq_succ_of_ne_zero (Nat.ne_of_gt (List.length_pos_iff.mpr h))
  unfold leftOf
  rw [hk, leftFrom, if_pos (by rw [List.drop_of_length_le (by omega)]; exact .inl rfl)]
  have := leftFrom_le ns k
  omega
/-- a calm row with worths 0, -1 all the way: may stand after a 2 if its worth is -1 -/
theorem after2 : ∀ {r : List Int} {less : Bool}, calmGo r false less = true → (∀ j, wo (r.drop j) = 0 ∨ wo (r.drop j) = -1) → wo r = -1 → calmGo r true less = true
  | [], _, _, _, h => by rw [wo_nil] at h; omega
  | f :: r, less, h, hs, h1 => by
    obtain ⟨g1, g2, g3⟩ := calmGo_cons.mp h
    have hr := hs 1
    rw [List.drop_one, List.tail_cons] at hr
    rw [wo_cons] at h1
    have hf : f = -1 ∨ f = 1 := by omega
    refine calmGo_cons.mpr ⟨g1, fun z => g2 ?_, ?_⟩
    · rcases z with z | z
      · omega
      · exact .inr z
    · rcases hf with rfl | rfl
      · exact g3
      · have hs' : ∀ j, wo (r.drop j) = 0 ∨ wo (r.drop j) = -1 := fun j => by
          have := hs (j + 1)
          rwa [List.drop_succ_cons] at this
        exact after2 g3 hs' (by omega)
end Dx

namespace Dx
open PySem PySem.Spec PyProof.Rows L2

/-! ## a def with defaults -/
abbrev FunDx (K : PySem.W.Frag) (x qual : Str) (st : Stmt) (dvs : List V) (f : Addr) (fd : FuncData) : Prop := FunD K x qual (defArgs st) (defBody st) (defScope st) dvs [] f fd
section
variable {P : Program} {w : World} {K : PySem.W.Frag} {mg : Str → Option Value} {base : Heap}
theorem FunD.okx {x qual : Str} {st : Stmt} {dvs : List V} {f : Addr} {fd : FuncData} {N ps : List Str} {k : Nat} {sp : Sp} (F : FunDx K x qual st dvs f fd) (S : FnScope N ps (defScope st)) (len : ∀ vs H Q E, sp vs H Q E → vs.length = ps.length)
    (hbody : ∀ (cdv : Value) (A : Around) (outer : List Env) (s : Shared) (H : Hp) (vs : List V) (Q : VK) (E : XK), Room k (A.deeper (envOfC qual (defScope st) s.heap.objs.size f cdv)) → sp vs H Q E →
      ∃ t, PSs (cxOf CX0 P w K mg base N qual (defScope st) f cdv A outer s H E).nox (defBody st) t ∧ t { nx := fun _ H' => Q .non H', rt := Q } (start N vs) H) : FnOk P w K mg base CX0 (k + 1) f fd ps sp := by
  refine FunD.ok F S len fun cdv A outer s H vs Q E hr hsp => ?_
  obtain ⟨t, h, q⟩ := hbody cdv A outer s H vs Q E hr hsp
  exact ⟨t, h.nox, q⟩
theorem fn_pureD {α : Type} {A : α → List D} {pre : α → Prop} {f : α → Rv} {x qual : Str} {st : Stmt} {fa : Addr} {fd : FuncData} {N ps : List Str} {k : Nat} {dvs : List V} (F : FunDx K x qual st dvs fa fd) (sc : FnScope N ps (defScope st)) (hl : ∀ a, (A a).length = ps.length) (hn : ps.length ≤ N.length)
    (hb : ∀ (cdv : Value) (A0 : Around) (outer : List Env) (s : Shared) (H : Hp) (E : XK), Room k (A0.deeper (envOfC qual (defScope st) s.heap.objs.size fa cdv)) →
      ∃ t, PSs (cxOf CX0 P w K mg base N qual (defScope st) fa cdv A0 outer s H E).nox (defBody st) t ∧ ∀ a, pre a → Sm K t (fun _ => f a = .val .non) (fun r => r = f a) ((A a).map Sl.sh ++ List.replicate (N.length - ps.length) Sl.no)) :
    FnOk P w K mg base CX0 (k + 1) fa fd ps (PSp K A pre f) := by
  refine FunD.okx F sc (fun vs H Q E h => ?_) (fun cdv A0 outer s H vs Q E hr h => ?_)
  · obtain ⟨a, O, _, h, _⟩ := h
    rw [h.length]
    exact hl a
  · obtain ⟨a, O, hO, hv, hp, q⟩ := h
    obtain ⟨t, ht, hs⟩ := hb cdv A0 outer s H E hr
    refine ⟨t, ht, ?_⟩
    have lv : vs.length = ps.length := hv.length.trans (hl a)
    have P0 : (List.replicate N.length ([] : List Addr)).flatten = [] := by simp
    refine hs a hp O H H (List.replicate N.length []) (L2.start N vs) ⟨?_, ?_, hO, ?_, ?_, ?_, ?_⟩ _ (fun H' P' σ' S' r' g n => ?_) (fun v H' r hr e => ?_)
    · unfold L2.start
      simp only [List.length_append, List.length_map, List.length_replicate, hl a, lv]
    · simp only [List.length_append, List.length_map, List.length_replicate, hl a]
      omega
    · rw [P0, hidL_nil]
      exact Same.refl H
    · intro i j l m a' h1 h2 h3 h4
      have := List.mem_of_getElem? h1
      rw [List.mem_replicate] at this
      rw [this.2] at h3
      cases h3
    · intro a' m
      rw [P0] at m
      cases m
    · intro i sl h
      have fz : fro H O (List.replicate N.length []) = hidL H O := by unfold fro; rw [P0, List.append_nil]
      rw [fz]
      by_cases hi : i < (A a).length
      · rw [List.getElem?_append_left (by rw [List.length_map]; exact hi), List.getElem?_map] at h
        cases e : (A a)[i]? with
        | none => rw [e] at h; cases h
        | some d =>
          rw [e] at h
          cases h
          obtain ⟨v, e1, e2⟩ := hv.get' e
          refine ⟨v, ?_, e2⟩
          unfold L2.start
          rw [List.getElem?_append_left (by rw [List.length_map, lv, ← hl a]; exact hi), List.getElem?_map, e1]
          rfl
      · rw [List.getElem?_append_right (by rw [List.length_map]; omega)] at h
        have hm := List.mem_of_getElem? h
        rw [List.mem_replicate] at hm
        rw [hm.2]
        have hlt := (List.getElem?_eq_some_iff.mp h).1
        rw [List.length_replicate, List.length_map, hl a] at hlt
        show (List.replicate N.length ([] : List Addr))[i]? = some []
        rw [List.getElem?_replicate, if_pos (by have := hl a; omega)]
    · have n' : f a = .val .non := n
      exact q .non H' (by rw [n']; exact ⟨r'.keep, .non⟩)
    · have e' : r = f a := e
      subst e'
      exact q v H' hr
end
theorem vals_bl {b : Bool} {ds : List Value} (h : Vals [V.bl b] ds) : ds = [.bool b] := by
  cases h with
  | cons h h2 =>
    cases h
    cases h2
    rfl
theorem funD_mk {K : PySem.W.Frag} {x qual : Str} {st : Stmt} {f T : Addr} {b : Bool} {oc oc2 : Value} {od od2 an : Option Addr} {osl osl2 : Array (Option Value)} {kV doc pm cdv ct : Value} {n : Nat} (l : K.lookup f = some ⟨oc, od, .func (PySem.W.fnOf x qual (defArgs st) (defBody st) (defScope st) (.ref T) kV doc pm an cdv ct), osl⟩)
    (lT : K.lookup T = some ⟨oc2, od2, .seq #[.bool b] n, osl2⟩) (c : PySem.W.codeIn K cdv qual = true) (k : PySem.W.keepIn K (.ref f) = true) : FunDx K x qual st [.bl b] f (PySem.W.fnOf x qual (defArgs st) (defBody st) (defScope st) (.ref T) kV doc pm an cdv ct) :=
  ⟨⟨oc, od, .ref T, kV, doc, pm, an, cdv, ct, osl, rfl, l, c, .inr ⟨by simp, T, _, [.bool b], n, rfl, lT, rfl, .cons rfl .nil⟩, .inl rfl⟩, k⟩

section
variable {K : PySem.W.Frag} {x qual : Str} {st : Stmt} {f : Addr} {fd : FuncData} {ps : List Str} {b : Bool}
theorem binds_full (F : FunDx K x qual st [.bl b] f fd) (n : Nat) (hn : n = ps.length)
    (h : ∀ (T : Addr) (kV doc pm : Value) (an : Option Addr) (cdv ct : Value) (us its : List Value), us.length = n → its.length = 1 →
      ∃ k, bindArgs (PySem.W.fnOf x qual (defArgs st) (defBody st) (defScope st) (.ref T) kV doc pm an cdv ct) ⟨us, []⟩ = seqItems? (.ref T) >>= k ∧ k (some its.toArray) = pure (ps.zip (us ++ its.drop 1))) : Binds K fd ps [] := by
  obtain ⟨ds, h1, h2⟩ := FunD.binds1 (ps := ps) F n 1 (by simp) (by simpa using hn) h
  cases h1
  exact h2
theorem binds_dflt (F : FunDx K x qual st [.bl b] f fd) (n : Nat) (hn : n + 1 = ps.length)
    (h : ∀ (T : Addr) (kV doc pm : Value) (an : Option Addr) (cdv ct : Value) (us its : List Value), us.length = n → its.length = 1 →
      ∃ k, bindArgs (PySem.W.fnOf x qual (defArgs st) (defBody st) (defScope st) (.ref T) kV doc pm an cdv ct) ⟨us, []⟩ = seqItems? (.ref T) >>= k ∧ k (some its.toArray) = pure (ps.zip (us ++ its.drop 0))) : Binds K fd ps [.bool b] := by
  obtain ⟨ds, h1, h2⟩ := FunD.binds1 (ps := ps) F n 0 (by simp) (by simpa using hn) h
  rw [vals_bl h1] at h2
  exact h2
theorem binds_key (F : FunDx K x qual st [.bl b] f fd) (n : Nat) (k : Str)
    (h : ∀ (T : Addr) (kV doc pm : Value) (an : Option Addr) (cdv ct : Value) (us its ws : List Value), us.length = n → its.length = 1 → ws.length = 1 →
      ∃ k', bindArgs (PySem.W.fnOf x qual (defArgs st) (defBody st) (defScope st) (.ref T) kV doc pm an cdv ct) ⟨us, [k].zip ws⟩ = seqItems? (.ref T) >>= k' ∧ k' (some its.toArray) = pure (ps.zip (us ++ ws))) : KBn K fd ps n [k] (fun us ws => us ++ ws) (fun vs zs => vs ++ zs) := by
  obtain ⟨its, h1⟩ := FunD.kbindsD (ps := ps) F n [k] (fun us _ ws => us ++ ws) (by simp) (fun r1 _ r3 => r1.append r3) h
  exact h1
end

/-! ## data without lists; calls that are handed own lists -/
mutual
def noL : D → Bool
  | .non | .bl _ | .int _ | .str _ => true
  | .tup ds => noLs ds
  | .lst _ | .scr _ => false
def noLs : List D → Bool
  | [] => true
  | d :: ds => noL d && noLs ds
end
section
variable {K : PySem.W.Frag} {H : Hp} {O O' : List Addr}
mutual
theorem noL_rp (hO : ∀ a xs, H a = some (.tup xs) → a ∈ O → a ∈ O') : ∀ {d : D} {v : V}, noL d = true → Rp K (hidL H O') v d → Rp K (hidL H O) v d
  | .non, _, _, h => by cases h; exact .non
  | .bl _, _, _, h => by cases h; exact .bl _
  | .int _, _, _, h => by cases h; exact .int _
  | .str _, _, _, h => by cases h; exact .str _
  | .tup ds, _, e, h => by
    cases h with
    | tup h1 h2 =>
      obtain ⟨n, h1⟩ := hidL_some.mp h1
      exact .tup (hidL_some.mpr ⟨fun m => n (hO _ _ h1 m), h1⟩) (noLs_rp hO (by rw [noL] at e; exact e) h2)
  | .lst _, _, e, _ => by rw [noL] at e; cases e
  | .scr _, _, e, _ => by rw [noL] at e; cases e
theorem noLs_rp (hO : ∀ a xs, H a = some (.tup xs) → a ∈ O → a ∈ O') : ∀ {ds : List D} {vs : List V}, noLs ds = true → RpAll K (hidL H O') vs ds → RpAll K (hidL H O) vs ds
  | [], _, _, h => by cases h; exact .nil
  | d :: ds, _, e, h => by
    rw [noLs, Bool.and_eq_true] at e
    cases h with
    | cons h ha => exact .cons (noL_rp hO e.1 h) (noLs_rp hO e.2 ha)
end
end
/-- arguments, own lists (ls) among them -/
def EvC (K : PySem.W.Frag) (ta : TA) (S : List Sl) (ds : List D) : Prop := ∀ O H0 H P σ, Rep K O H0 H P σ S → ∀ Q : List V → Hp → Prop, (∀ vs H' (ls : List Addr), Same H H' → (∀ a, a ∈ ls → ∃ xs, H' a = some (.lst xs)) → RpAll K (hidL H' ((O ++ P.flatten).filter (· ∉ ls))) vs ds → Q vs H') → ta σ H Q
section
variable {K : PySem.W.Frag} {S : List Sl} {ta tk : TA} {te : TE} {d : D} {ds es : List D} {E : XK}
theorem filt_mem {O ls : List Addr} {a : Addr} (m : a ∈ O) (h : a ∉ ls) : a ∈ O.filter (· ∉ ls) := List.mem_filter.mpr ⟨m, by simpa using h⟩
theorem filt_le {O P : List Addr} {ls ms : List Addr} (h : ∀ a, a ∈ ls → a ∈ ms) {H H' : Hp} (e : Same H H') : Same (hidL H (O.filter (· ∉ ls))) (hidL H' (O.filter (· ∉ ms))) :=
  hid_le e fun a m => .inl (by
    obtain ⟨m1, m2⟩ := List.mem_filter.mp m
    exact List.mem_filter.mpr ⟨m1, decide_eq_true fun z => (of_decide_eq_true m2) (h a z)⟩)
theorem filt_of {O : List Addr} {ls : List Addr} {H H' : Hp} (e : Same H H') : Same (hidL H O) (hidL H' (O.filter (· ∉ ls))) :=
  hid_le e fun a m => .inl (List.mem_filter.mp m).1
theorem ec_nil : EvC K tNil S [] := fun O H0 H P σ R Q q => q [] H [] (Same.refl H) (fun _ m => (nomatch m)) .nil
theorem ec_d (h : EvD K te S d) (hr : EvC K ta S ds) : EvC K (tCons te ta) S (d :: ds) := fun O H0 H P σ R Q q =>
  h O H0 H P σ R _ fun v H1 e1 r1 => hr O H0 H1 P σ (R.ext e1) _ fun vs H2 ls e2 hl r2 => q _ H2 ls (e1.trans e2) hl (.cons (r1.mono (filt_of e2)) r2)
theorem ec_own {k : Nat} (hk : S[k]? = some (.ow es)) (hr : EvC K ta S ds) : EvC K (tCons (tVar k) ta) S (.lst es :: ds) := fun O H0 H P σ R Q q => by
  obtain ⟨p, us, e, eP, hp, r⟩ := R.at_ k _ hk
  refine ⟨_, e, hr O H0 H P σ R _ fun vs H2 ls e2 hl r2 => q _ H2 (p :: ls) e2 (fun a m => ?_) (.cons (.lst (hidL_some.mpr ⟨fun m => ?_, e2 _ _ hp⟩) (r.mono (filt_of e2))) (r2.mono (filt_le (P := []) (fun a m => List.mem_cons_of_mem _ m) (Same.refl _))))⟩
  · rcases List.mem_cons.mp m with m | m
    · rw [m]
      exact ⟨us, e2 _ _ hp⟩
    · exact hl a m
  · have := of_decide_eq_true (List.mem_filter.mp m).2
    exact this List.mem_cons_self
section
variable {α : Type} {A : α → List D} {pre : α → Prop} {f : α → Rv} {dvs : List V}
theorem filt_live {O : List Addr} {H0 H : Hp} {P : List (List Addr)} {σ : L2.St} {ls : List Addr} (R : Rep K O H0 H P σ S) : ∀ x, x ∈ (O ++ P.flatten).filter (· ∉ ls) → H x ≠ none := fun x m => call_core R x (List.mem_filter.mp m).1
theorem evd_callC (a : α) (h : EvC K ta S ds) (hd : ∀ H, RpAll K H dvs es) (hA : A a = ds ++ es) (hp : pre a) (hf : f a = .val d) (hn : noL d = true) : EvD K (tCall (PSp K A pre f) dvs E ta) S d := fun O H0 H P σ R Q q =>
  h O H0 H P σ R _ fun vs H1 ls e1 hl r1 => ⟨a, _, filt_live (R.ext e1), by rw [hA]; exact r1.append (hd _), hp, fun v H2 hr => by
    rw [hf] at hr
    refine q v H2 (e1.trans hr.1) (noL_rp (fun b xs hb m => filt_mem m fun z => ?_) hn hr.2)
    obtain ⟨ys, hy⟩ := hl b z
    rw [hr.1 _ _ hy] at hb
    cases hb⟩
theorem evn_callC (a : α) (h : EvC K ta S ds) (hd : ∀ H, RpAll K H dvs es) (hA : A a = ds ++ es) (hp : pre a) {rs : List D} (hf : f a = .new rs) (hn : noLs rs = true) : EvN K (tCall (PSp K A pre f) dvs E ta) S rs := fun O H0 H P σ R Q q =>
  h O H0 H P σ R _ fun vs H1 ls e1 hl r1 => ⟨a, _, filt_live (R.ext e1), by rw [hA]; exact r1.append (hd _), hp, fun v H2 hr => by
    rw [hf] at hr
    obtain ⟨e2, p, us, rfl, hn2, hp2, r2⟩ := hr
    refine q p us H2 (e1.trans e2) (e1.free hn2) hp2 (noLs_rp (fun b xs hb m => ?_) hn r2)
    rcases List.mem_append.mp m with m | m
    · exact List.mem_cons_of_mem _ (filt_mem (List.mem_append_left _ m) fun z => by
        obtain ⟨ys, hy⟩ := hl b z
        rw [e2 _ _ hy] at hb
        cases hb)
    · rw [List.flatten_cons] at m
      rcases List.mem_append.mp m with m | m
      · rw [List.mem_singleton.mp m]; exact List.mem_cons_self
      · exact List.mem_cons_of_mem _ (filt_mem (List.mem_append_right _ m) fun z => by
          obtain ⟨ys, hy⟩ := hl b z
          rw [e2 _ _ hy] at hb
          cases hb)⟩
end
theorem filt_app {O : List Addr} {ls ms : List Addr} {H H' : Hp} (e : Same H H') : Same (hidL H (O.filter (· ∉ ls))) (hidL H' (O.filter (· ∉ ls ++ ms))) := filt_le (P := []) (fun a m => List.mem_append_left _ m) e
def tApp (n m : Nat) (t tk : TA) : TA := fun σ H Q => t σ H fun vs H1 => tk σ H1 fun zs H2 => vs.length = n ∧ zs.length = m ∧ Q (vs ++ zs) H2
theorem tCallN_eq {n m : Nat} {sp : Sp} : tCallN n m sp (fun vs zs => vs ++ zs) E ta tk = tCall sp [] E (tApp n m ta tk) := by
  funext σ H Q
  simp only [tCallN, tCall, tApp, List.append_nil]
theorem ec_app {n m : Nat} (h : EvC K ta S ds) (hk : EvC K tk S es) (hn : ds.length = n) (hm : es.length = m) : EvC K (tApp n m ta tk) S (ds ++ es) := fun O H0 H P σ R Q q =>
  h O H0 H P σ R _ fun vs H1 ls e1 hl r1 => hk O H0 H1 P σ (R.ext e1) _ fun zs H2 ms e2 hl2 r2 => ⟨r1.length.trans hn, r2.length.trans hm, q _ H2 (ls ++ ms) (e1.trans e2) (fun a m => by
    rcases List.mem_append.mp m with m | m
    · obtain ⟨xs, hx⟩ := hl a m
      exact ⟨xs, e2 _ _ hx⟩
    · exact hl2 a m) ((r1.mono (filt_app e2)).append (r2.mono (filt_le (P := []) (fun a m => List.mem_append_right _ m) (Same.refl _))))⟩
/-- f(a, b, k = c) -/
theorem evn_callCN {α : Type} {A : α → List D} {pre : α → Prop} {f : α → Rv} {n m : Nat} (a : α) (h : EvC K ta S ds) (hk : EvC K tk S es) (hn0 : ds.length = n) (hm0 : es.length = m) (hA : A a = ds ++ es) (hp : pre a) {rs : List D} (hf : f a = .new rs) (hn : noLs rs = true) : EvN K (tCallN n m (PSp K A pre f) (fun vs zs => vs ++ zs) E ta tk) S rs := by
  rw [tCallN_eq]
  exact evn_callC (es := []) a (ec_app h hk hn0 hm0) (fun _ => .nil) (by rw [List.append_nil]; exact hA) hp hf hn
end

/-! ## pairs and triples of ints -/
abbrev prD (p : Int × Int) : D := .tup [.int p.1, .int p.2]
abbrev triD (p : Int × Int × Int) : D := .tup [.int p.1, .int p.2.1, .int p.2.2]
theorem enc_tri : Enc triD 2 := ⟨fun x => by
    refine shp_tup fun d m => ?_
    simp only [toPyA, toPy, List.mem_cons, List.not_mem_nil, or_false] at m
    rcases m with rfl | rfl | rfl <;> exact shp_int,
  fun x y => by
    simp only [toPy, toPyA, PyData.eqv, PyData.eqvAll, Bool.and_true]
    obtain ⟨a, b, c⟩ := x
    obtain ⟨a', b', c'⟩ := y
    rw [Bool.eq_iff_iff]
    simp⟩
theorem enc_Ltri : Enc (fun xs : List (Int × Int × Int) => D.lst (xs.map triD)) 3 := enc_tri.list
theorem enc_LLtri : Enc (fun xs : List (List (Int × Int × Int)) => D.lst (xs.map fun x => D.lst (x.map triD))) 4 := enc_Ltri.list
theorem noL_tris : ∀ xs : List (Int × Int × Int), noLs (xs.map triD) = true
  | [] => rfl
  | x :: xs => by rw [List.map_cons, noLs, noL_tris xs]; rfl
theorem noL_prs : ∀ xs : List (Int × Int), noLs (xs.map prD) = true
  | [] => rfl
  | x :: xs => by rw [List.map_cons, noLs, noL_prs xs]; rfl

section
variable {K : PySem.W.Frag} {S : List Sl} {te : TE} {t : TS} {N : List Sl → Prop} {R : Rv → Prop}
theorem sem_appTri {a b c : Int} {xs : List (Int × Int × Int)} {k : Nat} (hk : S[k]? = some (.ow (xs.map triD))) (h : EvD K te S (.tup [.int a, .int b, .int c])) (hz : xs.length < sizeLine) (q : N (S.set k (.ow ((xs ++ [(a, b, c)]).map triD)))) : Sm K (tDrop (tBM K "list" rAppend (tVar k) (tCons te tNil))) N R S :=
  sem_appG (x := (a, b, c)) hk h hz q
def rangeDn (hi : Int) (n : Nat) : List D := (List.range n).map fun (k : Nat) => D.int (hi - (k : Int))
theorem rangeDn_len (hi : Int) (n : Nat) : (rangeDn hi n).length = n := by unfold rangeDn; rw [List.length_map, List.length_range]
theorem rangeDn_get {hi : Int} {n i : Nat} {d : D} (h : (rangeDn hi n)[i]? = some d) : i < n ∧ d = .int (hi - (i : Int)) := by
  have hi : i < n := by
    have := (List.getElem?_eq_some_iff.mp h).1
    rwa [rangeDn_len] at this
  refine ⟨hi, ?_⟩
  unfold rangeDn at h
  rw [List.getElem?_map, List.getElem?_range hi] at h
  exact (Option.some.inj h).symm
theorem it_rangeDn {ta : TA} {i j : Int} (h : EvB K ta S [.int i, .int j, .int (-1)]) (hj : -(2 ^ 62) ≤ i ∧ i < 2 ^ 62 ∧ -(2 ^ 62) ≤ j ∧ j < 2 ^ 62) : ItD K (iRng3 ta) S (rangeDn i (i - j).toNat) := fun O H0 H P σ r Z q => h O H0 H P σ r _ fun vs H1 e1 r1 => by
  cases r1 with
  | cons r1 r2 =>
    cases r1
    cases r2 with
    | cons r1 r2 =>
      cases r1
      cases r2 with
      | cons r1 r2 =>
        cases r1
        cases r2
        refine ⟨i, j, -1, _, rfl, RgC.neg hj.1 hj.2.1 hj.2.2.1 hj.2.2.2, q _ H1 e1 ?_⟩
        refine ⟨fun i H g hi => by rw [rangeDn_len] at hi; exact hi, fun i H g hi => by rw [rangeDn_len] at hi; exact hi, fun k H x H' d g hd y => ?_⟩
        obtain ⟨e, hx⟩ := y
        obtain ⟨_, rfl⟩ := rangeDn_get hd
        subst hx e
        refine ⟨Same.refl _, ?_⟩
        rw [show i + (k : Int) * -1 = i - (k : Int) by omega]
        exact .int _
/-- over range(hi, .., -1), nothing changed -/
theorem sem_foldDn {wi : TI} {j : Nat} {hi : Int} {n : Nat} (st : Sl → List Sl) (Iv : Nat → Prop) (h : ItD K wi S (rangeDn hi n)) (x0 : Sl) (h0 : S = st x0) (hi0 : Iv 0)
    (hj : ∀ x, j < (st x).length) (hset : ∀ x y, (st x).set j y = st y)
    (hs : ∀ i, i < n → Iv i → Sm K t (fun S' => (∃ x, S' = st x) ∧ Iv (i + 1)) R (st (.sh (.int (hi - (i : Int))))))
    (hd : ∀ x, Iv n → N (st x)) : Sm K (tFor wi (gName j) t) N R S := by
  refine sem_for h (fun i S' => (∃ x, S' = st x) ∧ Iv i) ⟨⟨x0, h0⟩, hi0⟩ (fun i d S' hd p => ?_) (fun S' p => ?_)
  · obtain ⟨⟨x, rfl⟩, hI⟩ := p
    obtain ⟨hlt, rfl⟩ := rangeDn_get hd
    refine ⟨[j], _, tg_name (hj _), ?_⟩
    rw [hset]
    exact hs i hlt hI
  · rw [rangeDn_len] at p
    obtain ⟨⟨x, rfl⟩, hI⟩ := p
    exact hd x hI
/-- for a, b in .. -/
theorem sem_fold2 {α β γ : Type} {wi : TI} {j1 j2 : Nat} {xs : List α} {e1 e2 : α → D} (g : β → α → β) (b0 : β) (st : β → Sl → Sl → γ → List Sl) (Iv : Nat → β → Prop) (h : ItD K wi S (xs.map fun v => .tup [e1 v, e2 v])) (x0 y0 : Sl) (c0 : γ) (h0 : S = st b0 x0 y0 c0) (hi : Iv 0 b0)
    (hj : ∀ b x y c, j1 < (st b x y c).length) (hj2 : ∀ b x y c, j2 < (st b x y c).length) (hset : ∀ b x y c z, (st b x y c).set j1 z = st b z y c) (hset2 : ∀ b x y c z, (st b x y c).set j2 z = st b x z c)
    (hs : ∀ i b v c, xs[i]? = some v → Iv i b → Sm K t (fun S' => (∃ x y c, S' = st (g b v) x y c) ∧ Iv (i + 1) (g b v)) R (st b (.sh (e1 v)) (.sh (e2 v)) c))
    (hd : ∀ x y c, Iv xs.length (xs.foldl g b0) → N (st (xs.foldl g b0) x y c)) : Sm K (tFor wi (gTup K 2 (gCons (gName j1) (gCons (gName j2) gNil))) t) N R S := by
  refine sem_for h (fun i S' => (∃ x y c, S' = st ((xs.take i).foldl g b0) x y c) ∧ Iv i ((xs.take i).foldl g b0)) ⟨⟨x0, y0, c0, h0⟩, hi⟩ (fun i d S' hd p => ?_) (fun S' p => ?_)
  · obtain ⟨⟨x, y, c, rfl⟩, hI⟩ := p
    rw [List.getElem?_map] at hd
    cases q : xs[i]? with
    | none => rw [q] at hd; cases hd
    | some v =>
      rw [q] at hd
      cases hd
      refine ⟨_, _, tg_tup (tg_cons (tg_name (hj _ _ _ _)) (tg_cons (tg_name (by rw [hset]; exact hj2 _ _ _ _)) tg_nil)) rfl, ?_⟩
      rw [hset, hset2, foldl_take q]
      exact hs i _ v c q hI
  · rw [List.length_map, List.take_length] at p
    obtain ⟨⟨x, y, c, rfl⟩, hI⟩ := p
    exact hd x y c hI
/-- for a, b, c in .. -/
theorem sem_fold3 {α β γ : Type} {wi : TI} {j1 j2 j3 : Nat} {xs : List α} {e1 e2 e3 : α → D} (g : β → α → β) (b0 : β) (st : β → Sl → Sl → Sl → γ → List Sl) (Iv : Nat → β → Prop) (h : ItD K wi S (xs.map fun v => .tup [e1 v, e2 v, e3 v])) (x0 y0 z0 : Sl) (c0 : γ) (h0 : S = st b0 x0 y0 z0 c0) (hi : Iv 0 b0)
    (hj : ∀ b x y z c, j1 < (st b x y z c).length) (hj2 : ∀ b x y z c, j2 < (st b x y z c).length) (hj3 : ∀ b x y z c, j3 < (st b x y z c).length) (hset : ∀ b x y z c w, (st b x y z c).set j1 w = st b w y z c) (hset2 : ∀ b x y z c w, (st b x y z c).set j2 w = st b x w z c) (hset3 : ∀ b x y z c w, (st b x y z c).set j3 w = st b x y w c)
    (hs : ∀ i b v c, xs[i]? = some v → Iv i b → Sm K t (fun S' => (∃ x y z c, S' = st (g b v) x y z c) ∧ Iv (i + 1) (g b v)) R (st b (.sh (e1 v)) (.sh (e2 v)) (.sh (e3 v)) c))
    (hd : ∀ x y z c, Iv xs.length (xs.foldl g b0) → N (st (xs.foldl g b0) x y z c)) : Sm K (tFor wi (gTup K 3 (gCons (gName j1) (gCons (gName j2) (gCons (gName j3) gNil)))) t) N R S := by
  refine sem_for h (fun i S' => (∃ x y z c, S' = st ((xs.take i).foldl g b0) x y z c) ∧ Iv i ((xs.take i).foldl g b0)) ⟨⟨x0, y0, z0, c0, h0⟩, hi⟩ (fun i d S' hd p => ?_) (fun S' p => ?_)
  · obtain ⟨⟨x, y, z, c, rfl⟩, hI⟩ := p
    rw [List.getElem?_map] at hd
    cases q : xs[i]? with
    | none => rw [q] at hd; cases hd
    | some v =>
      rw [q] at hd
      cases hd
      refine ⟨_, _, tg_tup (tg_cons (tg_name (hj _ _ _ _ _)) (tg_cons (tg_name (by rw [hset]; exact hj2 _ _ _ _ _)) (tg_cons (tg_name (by rw [hset, hset2]; exact hj3 _ _ _ _ _)) tg_nil))) rfl, ?_⟩
      rw [hset, hset2, hset3, foldl_take q]
      exact hs i _ v c q hI
  · rw [List.length_map, List.take_length] at p
    obtain ⟨⟨x, y, z, c, rfl⟩, hI⟩ := p
    exact hd x y z c hI
end

/-! ## one deed, as the program tells it -/
/-- a figure as seen from above or from below -/
def vw (up : Bool) (f : Int) : Int := if up = true then f else 1 - f
def sv (ns : List Int) (up : Bool) (k : Nat) : Int := vw up (ns.getD k 0)
def aboveN (ns : List Int) (up : Bool) (p : Nat) : Nat := p + 1 + ((ns.drop (p + 1)).takeWhile fun x => decide (vw up x = 1)).length
def blw (ns : List Int) (up : Bool) : Nat → Int
  | 0 => -1
  | k + 1 => if sv ns up k = 1 then blw ns up k else k
def saL (ns : List Int) (up : Bool) (p : Nat) : List (Int × Int) :=
  if sv ns up p = 2 then [((p : Int), 1), ((p : Int) + 1, sv ns up (p + 1) + 1)]
  else if sv ns up p = -1 then [((p : Int), 0)]
  else if sv ns up p = 1 ∧ 0 ≤ blw ns up p ∧ sv ns up (blw ns up p).toNat = 2 then [((p : Int), 0), ((p : Int) + 1, sv ns up (p + 1) + 1)]
  else ((p : Int), sv ns up p + 1) :: (if sv ns up (aboveN ns up p) = 2 then [((aboveN ns up p : Int), 0), ((aboveN ns up p : Int) + 1, sv ns up (aboveN ns up p + 1) + 1)] else [])
def chF (ns : List Int) (up : Bool) (q : Int × Int) : Int × Int × Int := (q.1, ns.getD q.1.toNat 0, vw up q.2)
def chL (ns : List Int) (up : Bool) (p : Nat) : List (Int × Int × Int) := (saL ns up p).map (chF ns up)
theorem saL_pos (ns : List Int) (up : Bool) (p : Nat) : ∀ q, q ∈ saL ns up p → 0 ≤ q.1 := by
  intro q m
  unfold saL at m
  repeat' split at m
  all_goals
    simp only [List.mem_cons, List.not_mem_nil, or_false] at m
    rcases m with rfl | rfl | rfl <;> (try dsimp only) <;> omega
theorem saL_len (ns : List Int) (up : Bool) (p : Nat) : (saL ns up p).length ≤ 3 := by
  unfold saL
  repeat' split
  all_goals simp
theorem above_stop {ns : List Int} {up : Bool} {k : Nat} (h : ns.length ≤ k ∨ sv ns up k ≠ 1) : ((ns.drop k).takeWhile fun x => decide (vw up x = 1)).length = 0 := by
  by_cases hk : k < ns.length
  · rw [drop_cons (getD_at0 hk), List.takeWhile_cons_of_neg]
    · rfl
    · exact fun z => h.resolve_left (by omega) (of_decide_eq_true z)
  · rw [List.drop_of_length_le (by omega)]
    rfl
theorem above_go {ns : List Int} {up : Bool} {k : Nat} (h : k < ns.length) (h1 : sv ns up k = 1) : ((ns.drop k).takeWhile fun x => decide (vw up x = 1)).length = ((ns.drop (k + 1)).takeWhile fun x => decide (vw up x = 1)).length + 1 := by
  rw [drop_cons (getD_at0 h), List.takeWhile_cons_of_pos]
  · rfl
  · exact decide_eq_true h1
theorem above_le (ns : List Int) (up : Bool) (p : Nat) : aboveN ns up p ≤ p + 1 + ns.length := by
  have h := (List.takeWhile_sublist (fun x => decide (vw up x = 1)) (l := ns.drop (p + 1))).length_le
  rw [List.length_drop] at h
  unfold aboveN
  omega
end Dx

namespace Dx
open PySem PySem.Spec PyProof.Rows L2

/-! ## rows with 0s behind -/
def pad (ns : List Int) (k : Nat) : List Int := ns ++ List.replicate (k - ns.length) 0
theorem pad_len (ns : List Int) (k : Nat) : (pad ns k).length = max ns.length k := by
  unfold pad
  rw [List.length_append, List.length_replicate]
  omega
theorem getD_app_zeros (ns : List Int) (z k : Nat) : (ns ++ List.replicate z 0).getD k 0 = ns.getD k 0 := by
  rw [List.getD_eq_getElem?_getD, List.getD_eq_getElem?_getD]
  by_cases h : k < ns.length
  · rw [List.getElem?_append_left h]
  · rw [List.getElem?_append_right (by omega), List.getElem?_eq_none (show ns.length ≤ k by omega), List.getElem?_replicate]
    split <;> rfl
theorem pad_getD (ns : List Int) (k i : Nat) : (pad ns k).getD i 0 = ns.getD i 0 := getD_app_zeros _ _ _
theorem wo_zeros0 : ∀ k : Nat, wo (List.replicate k 0) = 0
  | 0 => rfl
  | k + 1 => by rw [List.replicate_succ, wo_cons, wo_zeros0 k]; rfl
theorem wo_app_zeros (ns : List Int) (z : Nat) : wo (ns ++ List.replicate z 0) = wo ns := by rw [wo_append, wo_zeros0, Int.mul_zero, Int.add_zero]
theorem calm_zeros : ∀ (z : Nat) (a b : Bool), calmGo (List.replicate z 0) a b = true
  | 0, _, _ => rfl
  | z + 1, a, b => by
    rw [List.replicate_succ]
    exact calmGo_cons.mpr ⟨by omega, by omega, calm_zeros z _ _⟩
theorem calm_app_zeros : ∀ (ns : List Int) (z : Nat) (a b : Bool), calmGo ns a b = true → calmGo (ns ++ List.replicate z 0) a b = true
  | [], z, a, b, _ => calm_zeros z a b
  | x :: ns, z, a, b, h => by
    obtain ⟨h1, h2, h3⟩ := calmGo_cons.mp h
    exact calmGo_cons.mpr ⟨h1, h2, calm_app_zeros ns z _ _ h3⟩
theorem dw_zeros : ∀ l : List Int, ∃ z, l = List.replicate z 0 ++ l.dropWhile (· == 0)
  | [] => ⟨0, rfl⟩
  | x :: l => by
    by_cases h : x = 0
    · obtain ⟨z, hz⟩ := dw_zeros l
      rw [List.dropWhile_cons_of_pos (by simpa using h)]
      exact ⟨z + 1, by rw [List.replicate_succ, List.cons_append, ← hz, h]⟩
    · rw [List.dropWhile_cons_of_neg (by simpa using h)]
      exact ⟨0, rfl⟩
theorem trim_zeros (ns : List Int) : ∃ z, ns = trim ns ++ List.replicate z 0 := by
  obtain ⟨z, hz⟩ := dw_zeros ns.reverse
  refine ⟨z, ?_⟩
  have := congrArg List.reverse hz
  rw [List.reverse_reverse, List.reverse_append, List.reverse_replicate] at this
  exact this
theorem wo_trim (ns : List Int) : wo (trim ns) = wo ns := by
  obtain ⟨z, hz⟩ := trim_zeros ns
  have := wo_app_zeros (trim ns) z
  rw [← hz] at this
  exact this.symm
theorem trim_app_zeros : ∀ (ns : List Int) (z : Nat), trim (ns ++ List.replicate z 0) = trim ns
  | ns, 0 => by rw [List.replicate_zero, List.append_nil]
  | ns, z + 1 => by rw [List.replicate_succ', ← List.append_assoc, trim_zero, trim_app_zeros ns z]
theorem trim_of_calm {ns : List Int} (h : isCalm ns = true) : trim ns = ns := by
  rcases (calm_iff.mp h).2 with z | z
  · rw [z]; rfl
  · exact trim_stop (.inr z)
/-! ## put -/
def put1 (row : List Int) (c : Int × Int × Int) : List Int := (pad row (c.1.toNat + 1)).set c.1.toNat c.2.2
def putL (ns : List Int) (cs : List (Int × Int × Int)) : List Int := trim (cs.foldl put1 ns)
def setC (row : List Int) (c : Int × Int × Int) : List Int := row.set c.1.toNat c.2.2
theorem put1_pad {X : List Int} {z : Nat} {c : Int × Int × Int} (h : c.1.toNat < X.length + z) : ∃ z', setC (X ++ List.replicate z 0) c = put1 X c ++ List.replicate z' 0 := by
  refine ⟨z - (c.1.toNat + 1 - X.length), ?_⟩
  have e : X ++ List.replicate z 0 = pad X (c.1.toNat + 1) ++ List.replicate (z - (c.1.toNat + 1 - X.length)) 0 := by
    unfold pad
    rw [List.append_assoc, List.replicate_append_replicate]
    congr 2
    omega
  unfold setC put1
  rw [e, List.set_append_left _ _ (by rw [pad_len]; omega)]
theorem put_fold : ∀ (cs : List (Int × Int × Int)) (X : List Int) (z : Nat), (∀ c, c ∈ cs → c.1.toNat < X.length + z) → ∃ z', cs.foldl setC (X ++ List.replicate z 0) = cs.foldl put1 X ++ List.replicate z' 0
  | [], X, z, _ => ⟨z, rfl⟩
  | c :: cs, X, z, h => by
    obtain ⟨z', hz⟩ := put1_pad (h c List.mem_cons_self)
    have hl := congrArg List.length hz
    unfold setC at hl
    rw [List.length_set, List.length_append, List.length_append, List.length_replicate, List.length_replicate] at hl
    rw [List.foldl_cons, List.foldl_cons, hz]
    exact put_fold cs _ z' fun d m => by
      have := h d (List.mem_cons_of_mem _ m)
      omega
theorem putL_pad {ns : List Int} {cs : List (Int × Int × Int)} {k : Nat} (h : ∀ c, c ∈ cs → c.1.toNat < max ns.length k) : putL ns cs = trim (cs.foldl setC (pad ns k)) := by
  obtain ⟨z, hz⟩ := put_fold cs ns (k - ns.length) fun c m => by
    have := h c m
    omega
  unfold pad putL
  rw [hz, trim_app_zeros]
theorem put1_len (row : List Int) (c : Int × Int × Int) : (put1 row c).length = max row.length (c.1.toNat + 1) := by
  unfold put1
  rw [List.length_set, pad_len]
/-! ## one deed as seen: 1 is put to the figure behind xs -/
def incH : List Int → List Int
  | [] => [1]
  | g :: r => (g + 1) :: r
def fixup : List Int → List Int
  | [] => []
  | g :: r => if g = 1 then 1 :: fixup r else if g = 2 then 0 :: incH r else g :: r
def flag2 (xs : List Int) (t : Bool) : Bool := xs.foldl (fun t f => decide (f = 2) || (decide (f = 1) && t)) t
def flagL (xs : List Int) (t : Bool) : Bool := xs.foldl (fun t f => decide (f = -1) || (decide (f = 0) && t)) t
theorem calmGo_append : ∀ (xs zs : List Int) (a b : Bool), calmGo (xs ++ zs) a b = true ↔ calmGo xs a b = true ∧ calmGo zs (flag2 xs a) (flagL xs b) = true
  | [], zs, a, b => ⟨fun h => ⟨rfl, h⟩, fun h => h.2⟩
  | x :: xs, zs, a, b => by
    rw [List.cons_append, calmGo_cons, calmGo_cons, calmGo_append xs zs]
    unfold flag2 flagL
    rw [List.foldl_cons, List.foldl_cons]
    exact ⟨fun h => ⟨⟨h.1, h.2.1, h.2.2.1⟩, h.2.2.2⟩, fun h => ⟨h.1.1, h.1.2.1, h.1.2.2, h.2⟩⟩
theorem incH_calm {ys : List Int} (l : Bool) (h : calmGo ys true false = true) : calmGo (incH ys) false l = true := by
  cases ys with
  | nil => cases l <;> rfl
  | cons g r =>
    obtain ⟨h1, h2, h3⟩ := calmGo_cons.mp h
    have hg : g = -1 ∨ g = 0 ∨ g = 1 := by
      have : g ≠ 2 := fun z => h2 (.inl ⟨z, rfl⟩)
      omega
    rcases hg with rfl | rfl | rfl
    · exact calmGo_cons.mpr ⟨by omega, by omega, calmGo_anti (fun z => by simp at z) (fun z => by simp) h3⟩
    · exact calmGo_cons.mpr ⟨by omega, by omega, calmGo_anti (fun z => by simp at z) (fun z => by simp at z) h3⟩
    · exact calmGo_cons.mpr ⟨by omega, by simp, calmGo_anti (fun z => by simp) (fun z => by simp at z) h3⟩
theorem fixup_calm : ∀ {ys : List Int} {l : Bool} (t : Bool), calmGo ys false l = true → calmGo (fixup ys) t false = true
  | [], _, t, _ => by cases t <;> rfl
  | g :: r, l, t, h => by
    obtain ⟨h1, h2, h3⟩ := calmGo_cons.mp h
    have hg : g = -1 ∨ g = 0 ∨ g = 1 ∨ g = 2 := by omega
    rcases hg with rfl | rfl | rfl | rfl
    · exact calmGo_cons.mpr ⟨by omega, by simp, h3⟩
    · exact calmGo_cons.mpr ⟨by omega, by simp, calmGo_anti (fun z => by simp at z) (fun z => by simp at z) h3⟩
    · rw [fixup, if_pos rfl]
      refine calmGo_cons.mpr ⟨by omega, by simp, ?_⟩
      have h4 : calmGo r false false = true := h3
      have h5 := fixup_calm t h4
      exact calmGo_anti (fun z => by simpa using z) (fun z => by simp at z) h5
    · rw [fixup, if_neg (by omega), if_pos rfl]
      refine calmGo_cons.mpr ⟨by omega, by simp, ?_⟩
      have h4 : calmGo r true false = true := h3
      exact calmGo_anti (fun z => by simp at z) (fun z => by simp at z) (incH_calm false h4)
def deedV (t : Bool) (f : Int) (ys : List Int) : List Int :=
  if f = 2 then 1 :: incH ys else if f = -1 then 0 :: ys else if f = 1 ∧ t = true then 0 :: incH ys else (f + 1) :: fixup ys
theorem deedV_calm {t l : Bool} {f : Int} {ys : List Int} (h : calmGo (f :: ys) t l = true) : calmGo (deedV t f ys) t l = true := by
  obtain ⟨h1, h2, h3⟩ := calmGo_cons.mp h
  have hf : f = -1 ∨ f = 0 ∨ f = 1 ∨ f = 2 := by omega
  unfold deedV
  rcases hf with rfl | rfl | rfl | rfl
  · rw [if_neg (by omega), if_pos rfl]
    refine calmGo_cons.mpr ⟨by omega, by simp, calmGo_anti (fun z => by simp at z) (fun z => by simp) h3⟩
  · rw [if_neg (by omega), if_neg (by omega), if_neg (by omega)]
    refine calmGo_cons.mpr ⟨by omega, by omega, ?_⟩
    have h4 : calmGo ys false l = true := h3
    exact calmGo_anti (fun z => by simpa using z) (fun z => by simp at z) (fixup_calm t h4)
  · rw [if_neg (by omega), if_neg (by omega)]
    cases t with
    | true =>
      rw [if_pos ⟨rfl, rfl⟩]
      have h4 : calmGo ys true false = true := h3
      refine calmGo_cons.mpr ⟨by omega, by omega, ?_⟩
      exact calmGo_anti (fun z => by simp at z) (fun z => by simpa using z) (incH_calm l h4)
    | false =>
      rw [if_neg (by simp)]
      have h4 : calmGo ys false false = true := h3
      refine calmGo_cons.mpr ⟨by omega, by simp, ?_⟩
      exact calmGo_anti (fun z => by simp) (fun z => by simp at z) (fixup_calm true h4)
  · rw [if_pos rfl]
    have h4 : calmGo ys true false = true := h3
    have ht : t = false := by
      cases t with
      | false => rfl
      | true => exact absurd (.inl ⟨rfl, rfl⟩) h2
    subst ht
    refine calmGo_cons.mpr ⟨by omega, by omega, ?_⟩
    exact calmGo_anti (fun z => by simp at z) (fun z => by simp at z) (incH_calm false h4)
theorem incH_wo (ys : List Int) : wo (incH ys) = wo ys + 1 := by
  cases ys with
  | nil => rfl
  | cons g r => rw [incH, wo_cons, wo_cons]; omega
theorem fixup_wo : ∀ ys : List Int, wo (fixup ys) = wo ys
  | [] => rfl
  | g :: r => by
    rw [fixup]
    split
    · rename_i h
      rw [wo_cons, wo_cons, fixup_wo r, h]
    · split
      · rename_i h
        rw [wo_cons, wo_cons, incH_wo, h]
        omega
      · rfl
theorem deedV_wo (t : Bool) (f : Int) (ys : List Int) : wo (deedV t f ys) = wo (f :: ys) + 1 := by
  unfold deedV
  repeat' split
  all_goals
    simp only [wo_cons, incH_wo, fixup_wo]
    omega
/-! ## mirrored -/
theorem mir_calm : ∀ (ns : List Int) (a b : Bool), calmGo (ns.map fun f => 1 - f) a b = calmGo ns b a
  | [], a, b => rfl
  | f :: ns, a, b => by
    rw [Bool.eq_iff_iff, List.map_cons, calmGo_cons, calmGo_cons, mir_calm ns]
    have e1 : decide (1 - f = 2) = decide (f = -1) := decide_eq_decide.mpr (by omega)
    have e2 : decide (1 - f = 1) = decide (f = 0) := decide_eq_decide.mpr (by omega)
    have e3 : decide (1 - f = -1) = decide (f = 2) := decide_eq_decide.mpr (by omega)
    have e4 : decide (1 - f = 0) = decide (f = 1) := decide_eq_decide.mpr (by omega)
    rw [e1, e2, e3, e4]
    refine and_congr (by omega) (and_congr ?_ Iff.rfl)
    refine not_congr ?_
    rw [Or.comm]
    exact or_congr (and_congr_left' (by omega)) (and_congr_left' (by omega))
theorem mir_wo : ∀ ns : List Int, wo (ns.map fun f => 1 - f) = 2 ^ ns.length - 1 - wo ns
  | [] => rfl
  | f :: ns => by
    rw [List.map_cons, wo_cons, wo_cons, mir_wo ns, List.length_cons, two_pow_succ]
    omega
theorem vw_vw (up : Bool) (f : Int) : vw up (vw up f) = f := by
  cases up
  · show 1 - (1 - f) = f
    omega
  · rfl
theorem vw_calm (up : Bool) {ns : List Int} (h : calmGo ns false false = true) : calmGo (ns.map (vw up)) false false = true := by
  cases up
  · show calmGo (ns.map fun f => 1 - f) false false = true
    rw [mir_calm]
    exact h
  · show calmGo (ns.map fun f => f) false false = true
    rw [List.map_id']
    exact h

/-! ## the program's changes, as a deed seen -/
theorem set_at {xs ys : List Int} {f a : Int} {k : Nat} (h : k = xs.length) : (xs ++ f :: ys).set k a = xs ++ a :: ys := by
  subst h
  rw [List.set_append_right _ _ (Nat.le_refl _), Nat.sub_self]
  rfl
theorem V_at {ns : List Int} {M : Nat} {up : Bool} {k : Nat} (h : k < (pad ns M).length) : ((pad ns M).map (vw up))[k]? = some (sv ns up k) := by
  rw [List.getElem?_map, getD_at0 h, pad_getD]
  rfl
theorem fixup_ones : ∀ (j : Nat) (r : List Int), fixup (List.replicate j 1 ++ r) = List.replicate j 1 ++ fixup r
  | 0, r => rfl
  | j + 1, r => by rw [List.replicate_succ, List.cons_append, fixup, if_pos rfl, fixup_ones j, List.cons_append]
theorem flag2_snoc (xs : List Int) (f : Int) (t : Bool) : flag2 (xs ++ [f]) t = (decide (f = 2) || (decide (f = 1) && flag2 xs t)) := by
  unfold flag2
  rw [List.foldl_append]
  rfl
theorem blw_flag {ns : List Int} {M : Nat} {up : Bool} : ∀ {p : Nat}, p ≤ (pad ns M).length → (flag2 (((pad ns M).map (vw up)).take p) false = true ↔ 0 ≤ blw ns up p ∧ sv ns up (blw ns up p).toNat = 2)
  | 0, _ => by simp [flag2, blw]
  | k + 1, h => by
    have ih := blw_flag (ns := ns) (M := M) (up := up) (p := k) (by omega)
    rw [List.take_succ, V_at (by omega)]
    show flag2 (_ ++ [sv ns up k]) false = true ↔ _
    rw [flag2_snoc, blw]
    by_cases h1 : sv ns up k = 1
    · rw [if_pos h1, ← ih, h1]
      simp
    · rw [if_neg h1, Int.toNat_natCast, decide_eq_false h1]
      simp
def setQ (v : List Int) (q : Int × Int) : List Int := v.set q.1.toNat q.2
theorem setC_view (ns : List Int) (up : Bool) : ∀ (qs : List (Int × Int)) (V : List Int), (qs.map (chF ns up)).foldl setC (V.map (vw up)) = (qs.foldl setQ V).map (vw up)
  | [], V => rfl
  | q :: qs, V => by
    rw [List.map_cons, List.foldl_cons, List.foldl_cons, ← setC_view ns up qs]
    congr 1
    unfold setC chF setQ
    rw [List.map_set]
def padN (ns : List Int) (p : Nat) : List Int := pad ns (max ns.length (p + 1) + 1)
theorem padN_len (ns : List Int) (p : Nat) : (padN ns p).length = max ns.length (p + 1) + 1 := by
  unfold padN
  rw [pad_len]
  omega
theorem padN_drop (ns : List Int) (p : Nat) : (padN ns p).drop (p + 1) = ns.drop (p + 1) ++ [0] := by
  unfold padN pad
  rw [List.drop_append, List.drop_replicate]
  congr 1
  rw [show max ns.length (p + 1) + 1 - ns.length - (p + 1 - ns.length) = 1 by omega]
  rfl
theorem tw_ones {up : Bool} : ∀ A : List Int, (A.takeWhile fun x => decide (vw up x = 1)).map (vw up) = List.replicate (A.takeWhile fun x => decide (vw up x = 1)).length 1
  | [] => rfl
  | x :: A => by
    by_cases h : vw up x = 1
    · rw [List.takeWhile_cons_of_pos (by simpa using h), List.map_cons, List.length_cons, List.replicate_succ, tw_ones A, h]
    · rw [List.takeWhile_cons_of_neg (by simpa using h)]
      rfl
theorem dw_ne {up : Bool} : ∀ A : List Int, (A.dropWhile fun x => decide (vw up x = 1)) = [] ∨ ∃ h t, (A.dropWhile fun x => decide (vw up x = 1)) = h :: t ∧ vw up h ≠ 1
  | [] => .inl rfl
  | x :: A => by
    by_cases h : vw up x = 1
    · rw [List.dropWhile_cons_of_pos (by simpa using h)]
      exact dw_ne A
    · rw [List.dropWhile_cons_of_neg (by simpa using h)]
      exact .inr ⟨x, A, rfl, h⟩
theorem vw0 (up : Bool) : vw up 0 = 0 ∨ vw up 0 = 1 := by cases up; exact .inr rfl; exact .inl rfl
theorem saL_deed (ns : List Int) (up : Bool) (p : Nat) : (saL ns up p).foldl setQ ((padN ns p).map (vw up)) = ((padN ns p).map (vw up)).take p ++ deedV (flag2 (((padN ns p).map (vw up)).take p) false) (sv ns up p) (((padN ns p).map (vw up)).drop (p + 1)) := by
  have hL := padN_len ns p
  have hb := blw_flag (ns := ns) (M := max ns.length (p + 1) + 1) (up := up) (p := p) (by have := hL; unfold padN at this; omega)
  have hat : ∀ k, k < (padN ns p).length → ((padN ns p).map (vw up))[k]? = some (sv ns up k) := fun k h => V_at h
  have hys : ((padN ns p).map (vw up)).drop (p + 1) = (ns.drop (p + 1)).map (vw up) ++ [vw up 0] := by rw [← List.map_drop, padN_drop, List.map_append]; rfl
  change flag2 (((padN ns p).map (vw up)).take p) false = true ↔ _ at hb
  have hsplit : (padN ns p).map (vw up) = ((padN ns p).map (vw up)).take p ++ sv ns up p :: ((padN ns p).map (vw up)).drop (p + 1) := by
    rw [← drop_cons (hat p (by omega)), List.take_append_drop]
  have hxl : p = (((padN ns p).map (vw up)).take p).length := by rw [List.length_take, List.length_map]; omega
  have hys1 : ((padN ns p).map (vw up)).drop (p + 1) = sv ns up (p + 1) :: ((padN ns p).map (vw up)).drop (p + 1 + 1) := drop_cons (hat (p + 1) (by omega))
  have e1 : ∀ w : Nat, ((w : Int) + 1).toNat = w + 1 := fun w => by omega
  have hu1 : ∀ k, (ns.drop (p + 1)).getD k 0 = ns.getD (p + 1 + k) 0 := fun k => by rw [List.getD_eq_getElem?_getD, List.getElem?_drop, List.getD_eq_getElem?_getD]
  generalize ((padN ns p).map (vw up)).take p = xs at *
  generalize hV : (padN ns p).map (vw up) = V at *
  generalize V.drop (p + 1) = ys at *
  have carry : ∀ a : Int, (V.set p a).set (p + 1) (sv ns up (p + 1) + 1) = xs ++ a :: incH ys := fun a => by
    rw [hsplit, set_at hxl, hys1, show xs ++ a :: sv ns up (p + 1) :: V.drop (p + 1 + 1) = (xs ++ [a]) ++ sv ns up (p + 1) :: V.drop (p + 1 + 1) by simp, set_at (by rw [List.length_append, List.length_singleton]; omega), incH]
    simp
  unfold saL deedV
  by_cases c1 : sv ns up p = 2
  · rw [if_pos c1, if_pos c1]
    show (V.set (p : Int).toNat 1).set ((p : Int) + 1).toNat _ = _
    rw [Int.toNat_natCast, e1, carry]
  · rw [if_neg c1, if_neg c1]
    by_cases c2 : sv ns up p = -1
    · rw [if_pos c2, if_pos c2]
      show V.set (p : Int).toNat 0 = _
      rw [Int.toNat_natCast, hsplit, set_at hxl]
    · rw [if_neg c2, if_neg c2]
      by_cases c3 : sv ns up p = 1 ∧ 0 ≤ blw ns up p ∧ sv ns up (blw ns up p).toNat = 2
      · rw [if_pos c3, if_pos ⟨c3.1, hb.mpr c3.2⟩]
        show (V.set (p : Int).toNat 0).set ((p : Int) + 1).toNat _ = _
        rw [Int.toNat_natCast, e1, carry]
      · have c3' : ¬(sv ns up p = 1 ∧ flag2 xs false = true) := fun z => c3 ⟨z.1, hb.mp z.2⟩
        rw [if_neg c3, if_neg c3', List.foldl_cons]
        have s1 : setQ V ((p : Int), sv ns up p + 1) = xs ++ (sv ns up p + 1) :: ys := by
          show V.set (p : Int).toNat _ = _
          rw [Int.toNat_natCast, hsplit, set_at hxl]
        rw [s1]
        have hA := List.takeWhile_append_dropWhile (p := fun x => decide (vw up x = 1)) (l := ns.drop (p + 1))
        have htw := tw_ones (up := up) (ns.drop (p + 1))
        have hu : aboveN ns up p = p + 1 + ((ns.drop (p + 1)).takeWhile fun x => decide (vw up x = 1)).length := rfl
        generalize (ns.drop (p + 1)).takeWhile (fun x => decide (vw up x = 1)) = tw at hA htw hu
        have hsu : sv ns up (aboveN ns up p) = vw up ((ns.drop (p + 1)).getD tw.length 0) := by rw [hu1, hu]; rfl
        rcases dw_ne (up := up) (ns.drop (p + 1)) with hd | ⟨h, t, hd, hh⟩
        · rw [hd, List.append_nil] at hA
          have : sv ns up (aboveN ns up p) ≠ 2 := by
            rw [hsu, ← hA, List.getD_eq_getElem?_getD, List.getElem?_eq_none (Nat.le_refl _)]
            rcases vw0 up with z | z
            · show vw up 0 ≠ 2
              rw [z]; decide
            · show vw up 0 ≠ 2
              rw [z]; decide
          rw [if_neg this, hys, ← hA, htw, fixup_ones]
          rcases vw0 up with z | z <;> rw [z] <;> rfl
        · rw [hd] at hA
          have hv : sv ns up (aboveN ns up p) = vw up h := by
            rw [hsu, ← hA, List.getD_eq_getElem?_getD, List.getElem?_append_right (Nat.le_refl _), Nat.sub_self]
            rfl
          have hyj : ys = List.replicate tw.length 1 ++ vw up h :: (t.map (vw up) ++ [vw up 0]) := by
            rw [hys, ← hA, List.map_append, htw, List.map_cons]
            simp
          rw [hv]
          by_cases c4 : vw up h = 2
          · rw [if_pos c4]
            rw [c4] at hyj
            have hul : aboveN ns up p + 1 < (padN ns p).length := by
              have := congrArg List.length hA
              rw [List.length_append, List.length_cons, List.length_drop] at this
              omega
            obtain ⟨g, r, hr⟩ : ∃ g r, t.map (vw up) ++ [vw up 0] = g :: r := by
              cases t with
              | nil => exact ⟨_, _, rfl⟩
              | cons a t => exact ⟨_, _, rfl⟩
            rw [hr] at hyj
            have hg : g = sv ns up (aboveN ns up p + 1) := by
              have := hat _ hul
              rw [hsplit, hyj, show xs ++ sv ns up p :: (List.replicate tw.length 1 ++ 2 :: g :: r) = (xs ++ sv ns up p :: List.replicate tw.length 1 ++ [2]) ++ g :: r by simp, List.getElem?_append_right (by simp; omega)] at this
              have hlen : (xs ++ sv ns up p :: List.replicate tw.length (1 : Int) ++ [(2 : Int)]).length = aboveN ns up p + 1 := by simp; omega
              rw [hlen, Nat.sub_self] at this
              exact Option.some.inj this
            show ((xs ++ (sv ns up p + 1) :: ys).set (aboveN ns up p : Int).toNat 0).set ((aboveN ns up p : Int) + 1).toNat _ = _
            rw [Int.toNat_natCast, e1, hyj, fixup_ones, fixup, if_neg (by omega), if_pos rfl, incH,
              show xs ++ (sv ns up p + 1) :: (List.replicate tw.length 1 ++ 2 :: g :: r) = (xs ++ (sv ns up p + 1) :: List.replicate tw.length 1) ++ 2 :: g :: r by simp,
              set_at (by simp; omega),
              show (xs ++ (sv ns up p + 1) :: List.replicate tw.length 1) ++ 0 :: g :: r = (xs ++ (sv ns up p + 1) :: List.replicate tw.length 1 ++ [0]) ++ g :: r by simp,
              set_at (by simp; omega), hg]
            simp
          · rw [if_neg c4, hyj, fixup_ones, fixup, if_neg hh, if_neg c4]
            rfl

theorem saL_bd (ns : List Int) (up : Bool) (p : Nat) : ∀ q, q ∈ saL ns up p → q.1.toNat < max ns.length (p + 1) + 1 := by
  intro q m
  have hu : sv ns up (aboveN ns up p) = 2 → aboveN ns up p < ns.length := fun h => by
    rcases Nat.lt_or_ge (aboveN ns up p) ns.length with z | z
    · exact z
    · unfold sv at h
      rw [List.getD_eq_getElem?_getD, List.getElem?_eq_none z] at h
      change vw up 0 = 2 at h
      rcases vw0 up with y | y <;> rw [y] at h <;> omega
  unfold saL at m
  repeat' split at m
  all_goals
    simp only [List.mem_cons, List.not_mem_nil, or_false] at m
    rcases m with rfl | rfl | rfl <;> (try dsimp only) <;> omega
theorem foldQ_len : ∀ (qs : List (Int × Int)) (V : List Int), (qs.foldl setQ V).length = V.length
  | [], V => rfl
  | q :: qs, V => by
    rw [List.foldl_cons, foldQ_len qs]
    unfold setQ
    rw [List.length_set]
def deedL (ns : List Int) (up : Bool) (p : Nat) : List Int := putL ns (chL ns up p)
theorem deedL_eq (ns : List Int) (up : Bool) (p : Nat) : deedL ns up p = trim ((((padN ns p).map (vw up)).take p ++ deedV (flag2 (((padN ns p).map (vw up)).take p) false) (sv ns up p) (((padN ns p).map (vw up)).drop (p + 1))).map (vw up)) := by
  have hv : ((padN ns p).map (vw up)).map (vw up) = padN ns p := by
    rw [List.map_map]
    conv => rhs; rw [← List.map_id (padN ns p)]
    congr 1
    funext x
    exact vw_vw up x
  unfold deedL
  rw [putL_pad (k := max ns.length (p + 1) + 1) (fun c m => by
    unfold chL at m
    obtain ⟨q, hq, rfl⟩ := List.mem_map.mp m
    have := saL_bd ns up p q hq
    show q.1.toNat < _
    omega), ← saL_deed]
  unfold chL
  conv => lhs; rw [show pad ns (max ns.length (p + 1) + 1) = ((padN ns p).map (vw up)).map (vw up) from hv.symm]
  rw [setC_view]
theorem padN_split (ns : List Int) (up : Bool) (p : Nat) : (padN ns p).map (vw up) = ((padN ns p).map (vw up)).take p ++ sv ns up p :: ((padN ns p).map (vw up)).drop (p + 1) := by
  have hL := padN_len ns p
  have hat : ((padN ns p).map (vw up))[p]? = some (sv ns up p) := V_at (by have := hL; unfold padN at this; omega)
  rw [← drop_cons hat, List.take_append_drop]
theorem padN_calm {ns : List Int} (up : Bool) (p : Nat) (h : isCalm ns = true) : calmGo ((padN ns p).map (vw up)) false false = true :=
  vw_calm up (calm_app_zeros ns _ _ _ (calm_iff.mp h).1)
theorem vw_wo (up : Bool) (ns : List Int) : wo (ns.map (vw up)) = if up = true then wo ns else 2 ^ ns.length - 1 - wo ns := by
  cases up
  · exact mir_wo ns
  · show wo (ns.map fun f => f) = _
    rw [List.map_id']
    rfl
theorem deed_calm {ns : List Int} (up : Bool) (p : Nat) (h : isCalm ns = true) : isCalm (deedL ns up p) = true := by
  rw [deedL_eq]
  refine trim_calm (vw_calm up ?_)
  have h1 := padN_calm up p h
  rw [padN_split, calmGo_append] at h1
  exact (calmGo_append _ _ _ _).mpr ⟨h1.1, deedV_calm h1.2⟩
theorem deed_wo (ns : List Int) (up : Bool) (p : Nat) : wo (deedL ns up p) = wo ns + (if up = true then 2 ^ p else -2 ^ p) := by
  have hL := padN_len ns p
  have hl := foldQ_len (saL ns up p) ((padN ns p).map (vw up))
  have hs := saL_deed ns up p
  have hw := congrArg wo (padN_split ns up p)
  have hxl : (((padN ns p).map (vw up)).take p).length = p := by rw [List.length_take, List.length_map]; omega
  rw [wo_append, hxl] at hw
  rw [deedL_eq, wo_trim, ← hs, vw_wo, hl, List.length_map, hs, wo_append, deedV_wo, hxl, Int.mul_add]
  rw [vw_wo] at hw
  have hp : wo (padN ns p) = wo ns := wo_app_zeros _ _
  rw [hp] at hw
  cases up
  · rw [if_neg (by decide)] at hw
    rw [if_neg (by decide), if_neg (by decide)]
    omega
  · rw [if_pos rfl] at hw
    rw [if_pos rfl, if_pos rfl]
    omega
theorem deed_len (ns : List Int) (up : Bool) (p : Nat) : (deedL ns up p).length ≤ max ns.length (p + 1) + 1 := by
  have hL := padN_len ns p
  rw [deedL_eq, ← saL_deed]
  refine Nat.le_trans (trim_len _) ?_
  rw [List.length_map, foldQ_len, List.length_map, hL]
  exact Nat.le_refl _
end Dx

namespace Dx
open PySem PySem.Spec PyProof.Rows L2

/-! ## a loop over an own list that its body does not touch -/
section
variable {K : PySem.W.Frag} {S : List Sl} {t : TS} {N : List Sl → Prop} {R : Rv → Prop} {ds : List D}
def isRef (p : Addr) : PySem.W.Frag → Hp → Hp → V → List Addr → Prop := fun _ _ _ v fp => v = .ref p ∧ fp = []
theorem lend {O : List Addr} {H0 H : Hp} {P : List (List Addr)} {σ : L2.St} {k : Nat} {p : Addr} {vs : List V} (r : Rep K O H0 H P σ S) (hk : k < S.length) (e : σ[k]? = some (some (.ref p))) (eP : P[k]? = some [p]) (hp : H p = some (.lst vs)) :
    Rep K (p :: O) (hidL H (P.set k []).flatten) H (P.set k []) σ (S.set k (.ob (isRef p))) := by
  have hkP : k < P.length := by rw [r.lenP]; exact hk
  have hpP : p ∈ P.flatten := mem_flat eP List.mem_cons_self
  have hn : p ∉ (P.set k []).flatten := fun m => by
    rcases mem_set m with q | ⟨j, m', hj, q, r'⟩
    · cases q
    · exact hj (r.inj j k m' [p] p q eP r' List.mem_cons_self)
  have sub : ∀ a, a ∈ (P.set k []).flatten → a ∈ P.flatten := fun a m => by
    rcases mem_set m with q | ⟨j, m', hj, q, r'⟩
    · cases q
    · exact mem_flat q r'
  refine ⟨by rw [r.len, List.length_set], by rw [List.length_set, List.length_set, r.lenP], fun a m => ?_, Same.refl _, fun i j l m a h1 h2 h3 h4 => ?_, fun a m => r.liv a (sub a m), fun i sl h => ?_⟩
  · rcases List.mem_cons.mp m with m | m
    · subst m
      rw [hidL_some.mpr ⟨hn, hp⟩]
      exact fun z => nomatch z
    · cases q : H0 a with
      | none => exact absurd q (r.olv a m)
      | some o =>
        obtain ⟨q1, q2⟩ := hidL_some.mp (r.base a o q)
        rw [hidL_some.mpr ⟨fun z => q1 (sub a z), q2⟩]
        exact fun z => nomatch z
  · have key : ∀ i l, (P.set k [])[i]? = some l → a ∈ l → P[i]? = some l := fun i l h1 h3 => by
      by_cases hi : k = i
      · subst hi
        rw [List.getElem?_set_self hkP] at h1
        cases h1
        exact absurd h3 (by simp)
      · rwa [List.getElem?_set_ne hi] at h1
    exact r.inj i j l m a (key i l h1 h3) (key j m h2 h4) h3 h4
  · by_cases hi : k = i
    · subst hi
      rw [List.getElem?_set_self hk] at h
      cases h
      exact ⟨_, [], e, List.getElem?_set_self hkP, fun _ _ _ _ => ⟨rfl, rfl⟩⟩
    · rw [List.getElem?_set_ne hi] at h
      refine (r.at_ i sl h).to rfl (List.getElem?_set_ne hi) (fun _ _ _ _ => rfl) (hid_le (Same.refl _) fun a m => .inl ?_)
      rcases List.mem_append.mp m with m | m
      · rcases List.mem_cons.mp m with m | m
        · rw [m]; exact List.mem_append_right _ hpP
        · exact List.mem_append_left _ m
      · exact List.mem_append_right _ (sub a m)
theorem unlend {O : List Addr} {H0 H H' : Hp} {P P' : List (List Addr)} {σ σ' : L2.St} {S' : List Sl} {k : Nat} {p : Addr} {vs : List V} (r : Rep K O H0 H P σ S) (hk : k < S.length) (eP : P[k]? = some [p]) (hp : H p = some (.lst vs)) (rv : RpAll K (fro H O P) vs ds)
    (r' : Rep K (p :: O) (hidL H (P.set k []).flatten) H' P' σ' S') (hl : S'[k]? = some (.ob (isRef p))) :
    Rep K O H0 H' (P'.set k [p]) σ' (S'.set k (.ow ds)) ∧ Same (fro H O P) (fro H' O (P'.set k [p])) := by
  have hkS : k < S'.length := (List.getElem?_eq_some_iff.mp hl).1
  have hkP : k < P'.length := by rw [r'.lenP]; exact hkS
  have hpP : p ∈ P.flatten := mem_flat eP List.mem_cons_self
  have hn : p ∉ (P.set k []).flatten := fun m => by
    rcases mem_set m with q | ⟨j, m', hj, q, r2⟩
    · cases q
    · exact hj (r.inj j k m' [p] p q eP r2 List.mem_cons_self)
  have sub : ∀ a, a ∈ (P.set k []).flatten → a ∈ P.flatten := fun a m => by
    rcases mem_set m with q | ⟨j, m', hj, q, r2⟩
    · cases q
    · exact mem_flat q r2
  obtain ⟨hpn, hp'⟩ := hidL_some.mp (r'.base p _ (hidL_some.mpr ⟨hn, hp⟩))
  obtain ⟨v, fp, e1, e2, e3⟩ := r'.at_ k _ hl
  obtain ⟨e4, e5⟩ := e3 _ _ (fun _ _ => rfl) (Same.refl _)
  subst e4 e5
  have sub2 : ∀ a, a ∈ (P'.set k [p]).flatten → a = p ∨ a ∈ P'.flatten := fun a m => by
    rcases mem_set m with q | ⟨j, m', hj, q, r2⟩
    · exact .inl (List.mem_singleton.mp q)
    · exact .inr (mem_flat q r2)
  have grow : Same (fro H O P) (fro H' O (P'.set k [p])) := fun a o x => by
    obtain ⟨x1, x2, x3⟩ := fro_some.mp x
    obtain ⟨y1, y2⟩ := hidL_some.mp (r'.base a o (hidL_some.mpr ⟨fun z => x2 (sub a z), x3⟩))
    exact fro_some.mpr ⟨x1, fun z => (sub2 a z).elim (fun w => by rw [w] at x2; exact x2 hpP) y1, y2⟩
  refine ⟨⟨by rw [r'.len, List.length_set], by rw [List.length_set, List.length_set, r'.lenP], r.olv, fun a o x => ?_, fun i j l m a h1 h2 h3 h4 => ?_, fun a m => ?_, fun i sl h => ?_⟩, grow⟩
  · obtain ⟨x1, x2⟩ := hidL_some.mp (r.base a o x)
    obtain ⟨y1, y2⟩ := hidL_some.mp (r'.base a o (hidL_some.mpr ⟨fun z => x1 (sub a z), x2⟩))
    exact hidL_some.mpr ⟨fun z => (sub2 a z).elim (fun w => by rw [w] at x1; exact x1 hpP) y1, y2⟩
  · have key : ∀ i l, (P'.set k [p])[i]? = some l → a ∈ l → (i = k ∧ a = p) ∨ (i ≠ k ∧ P'[i]? = some l) := fun i l h1 h3 => by
      by_cases hi : k = i
      · subst hi
        rw [List.getElem?_set_self hkP] at h1
        cases h1
        exact .inl ⟨rfl, List.mem_singleton.mp h3⟩
      · rw [List.getElem?_set_ne hi] at h1
        exact .inr ⟨fun z => hi z.symm, h1⟩
    rcases key i l h1 h3 with ⟨z1, z2⟩ | ⟨z1, z2⟩
    · rcases key j m h2 h4 with ⟨w1, w2⟩ | ⟨w1, w2⟩
      · rw [z1, w1]
      · rw [z2] at h4
        exact absurd (mem_flat w2 h4) hpn
    · rcases key j m h2 h4 with ⟨w1, w2⟩ | ⟨w1, w2⟩
      · rw [w2] at h3
        exact absurd (mem_flat z2 h3) hpn
      · exact r'.inj i j l m a z2 w2 h3 h4
  · rcases sub2 a m with z | z
    · rw [z, hp']
      exact fun z => nomatch z
    · exact r'.liv a z
  · by_cases hi : k = i
    · subst hi
      rw [List.getElem?_set_self hkS] at h
      cases h
      exact ⟨p, vs, e1, List.getElem?_set_self hkP, hp', rv.mono grow⟩
    · rw [List.getElem?_set_ne hi] at h
      refine (r'.at_ i sl h).to rfl (List.getElem?_set_ne hi) (fun _ _ _ _ => rfl) (hid_le (Same.refl _) fun a m => .inl ?_)
      rcases List.mem_append.mp m with m | m
      · exact List.mem_append_left _ (List.mem_cons_of_mem _ m)
      · rcases sub2 a m with z | z
        · rw [z]; exact List.mem_append_left _ List.mem_cons_self
        · exact List.mem_append_right _ z
theorem unlend_ret {O : List Addr} {H0 H H' : Hp} {P : List (List Addr)} {σ : L2.St} {k : Nat} {p : Addr} {v : V} {rv : Rv} (r : Rep K O H0 H P σ S) (h : RetOk K (p :: O) (hidL H (P.set k []).flatten) H' v rv) : RetOk K O H0 H' v rv := by
  have sub : ∀ a, a ∈ (P.set k []).flatten → a ∈ P.flatten := fun a m => by
    rcases mem_set m with q | ⟨j, m', hj, q, r2⟩
    · cases q
    · exact mem_flat q r2
  have s0 : Same H0 (hidL H (P.set k []).flatten) := fun a o x => by
    obtain ⟨x1, x2⟩ := hidL_some.mp (r.base a o x)
    exact hidL_some.mpr ⟨fun z => x1 (sub a z), x2⟩
  cases rv with
  | val d => exact ⟨s0.trans h.1, h.2.mono (hid_le (Same.refl _) fun a m => .inl (List.mem_cons_of_mem _ m))⟩
  | new ds =>
    obtain ⟨h1, q, vs, h2, h3, h4, h5⟩ := h
    refine ⟨s0.trans h1, q, vs, h2, s0.free h3, h4, h5.mono (hid_le (Same.refl _) fun a m => .inl ?_)⟩
    rcases List.mem_cons.mp m with m | m
    · rw [m]; exact List.mem_cons_self
    · exact List.mem_cons_of_mem _ (List.mem_cons_of_mem _ m)
theorem sem_forOwn {g : TG} {k : Nat} (hk : S[k]? = some (.ow ds)) (Pv : Sl → Nat → List Sl → Prop) (h0 : ∀ sl, Pv sl 0 (S.set k sl)) (hkeep : ∀ sl i S', Pv sl i S' → S'[k]? = some sl)
    (hs : ∀ sl (i : Nat) (d : D) (S' : List Sl), ds[i]? = some d → Pv sl i S' → ∃ js S2, TgD K g js d S' S2 ∧ Sm K t (Pv sl (i + 1)) R S2) (hd : ∀ sl S', Pv sl ds.length S' → N (S'.set k (.ow ds))) :
    Sm K (tFor (iList K (tVar k)) g t) N R S := fun O H0 H P σ r De kn kr => by
  obtain ⟨p, vs, e, eP, hp, rv⟩ := r.at_ k _ hk
  have hkS : k < S.length := (List.getElem?_eq_some_iff.mp hk).1
  have hpP : p ∈ P.flatten := mem_flat eP List.mem_cons_self
  have hn : p ∉ (P.set k []).flatten := fun m => by
    rcases mem_set m with q | ⟨j, m', hj, q, r2⟩
    · cases q
    · exact hj (r.inj j k m' [p] p q eP r2 List.mem_cons_self)
  have hl := rv.length
  have rL := lend r hkS e eP hp
  have fr : ∀ {H' : Hp} {P' : List (List Addr)} {σ' : L2.St} {S' : List Sl}, Rep K (p :: O) (hidL H (P.set k []).flatten) H' P' σ' S' → H' p = some (.lst vs) := fun r' => (hidL_some.mp (r'.base p _ (hidL_some.mpr ⟨hn, hp⟩))).2
  have gr : ∀ {H' : Hp} {P' : List (List Addr)} {σ' : L2.St} {S' : List Sl}, Rep K (p :: O) (hidL H (P.set k []).flatten) H' P' σ' S' → Same (fro H O P) (fro H' (p :: O) P') := fun r' a o x => by
    obtain ⟨x1, x2, x3⟩ := fro_some.mp x
    obtain ⟨y1, y2⟩ := hidL_some.mp (r'.base a o (hidL_some.mpr ⟨fun z => by
      rcases mem_set z with q | ⟨j, m', hj, q, r2⟩
      · cases q
      · exact x2 (mem_flat q r2), x3⟩))
    exact fro_some.mpr ⟨fun z => by
      rcases List.mem_cons.mp z with z | z
      · rw [z] at x2; exact x2 hpP
      · exact x1 z, y1, y2⟩
  refine ⟨_, e, p, rfl, ⟨vs, .of hp⟩, ?_⟩
  refine ⟨fun i m σ' H' => m = ds.length - i ∧ i ≤ ds.length ∧ ∃ P' S', Rep K (p :: O) (hidL H (P.set k []).flatten) H' P' σ' S' ∧ Pv (.ob (isRef p)) i S', ⟨ds.length, rfl, Nat.zero_le _, _, _, rL, h0 _⟩, ?_⟩
  rintro i m σ' H' ⟨rfl, hi, P', S', r', p'⟩
  by_cases hlt : i < ds.length
  · refine .inr ⟨⟨vs, vs[i]'(by omega), .of (fr r'), List.getElem?_eq_getElem (by omega)⟩, fun σ2 H2 => ∃ P2 S2, Rep K (p :: O) (hidL H (P.set k []).flatten) H2 P2 σ2 S2 ∧ Pv (.ob (isRef p)) (i + 1) S2, fun σ2 H2 q => ⟨ds.length - (i + 1), by omega, rfl, hlt, q⟩, fun x H2 y => ?_⟩
    obtain ⟨e2, hx⟩ := y
    subst e2
    have hd' : ds[i]? = some ds[i] := List.getElem?_eq_getElem hlt
    obtain ⟨d', h1, h2⟩ := rv.get (hx vs (.of (fr r')))
    rw [hd'] at h1
    cases h1
    obtain ⟨js, S2, tg, body⟩ := hs _ i _ S' hd' p'
    refine tg _ _ _ P' σ' x r' (h2.mono (gr r')) _ fun P3 σ3 r3 g3 _ _ _ => ?_
    exact body _ _ _ P3 σ3 r3 _ (fun H4 P4 σ4 S4 r4 g4 n4 => ⟨P4, S4, r4, n4⟩) fun v H4 rr hr w => kr v H4 rr (unlend_ret r hr) w
  · have e' : i = ds.length := by omega
    subst e'
    obtain ⟨r2, g2⟩ := unlend r hkS eP hp rv r' (hkeep _ _ _ p')
    exact .inl ⟨⟨vs, .of (fr r'), by omega⟩, kn H' _ σ' _ r2 g2 (hd _ _ p')⟩
/-- over own ints, nothing changed -/
theorem sem_eachOwn {j k : Nat} {ns : List Int} (hk : S[k]? = some (.ow (ns.map D.int))) (st : Sl → Sl → List Sl) (x0 : Sl) (h0 : S = st (.ow (ns.map D.int)) x0) (hj : ∀ sl x, j < (st sl x).length) (hset : ∀ sl x y, (st sl x).set j y = st sl y) (hset2 : ∀ sl sl' x, (st sl x).set k sl' = st sl' x) (hget : ∀ sl x, (st sl x)[k]? = some sl)
    (hs : ∀ sl (i : Nat) (v : Int), ns[i]? = some v → Sm K t (fun S' => ∃ x, S' = st sl x) R (st sl (.sh (.int v)))) (hd : ∀ x, N (st (.ow (ns.map D.int)) x)) : Sm K (tFor (iList K (tVar k)) (gName j) t) N R S := by
  refine sem_forOwn hk (fun sl _ S' => ∃ x, S' = st sl x) (fun sl => ⟨x0, by rw [h0, hset2]⟩) (fun sl i S' h => by obtain ⟨x, rfl⟩ := h; exact hget _ _) (fun sl i d S' hd p => ?_) (fun sl S' p => ?_)
  · obtain ⟨x, rfl⟩ := p
    rw [List.getElem?_map] at hd
    cases q : ns[i]? with
    | none => rw [q] at hd; cases hd
    | some v =>
      rw [q] at hd
      cases hd
      exact ⟨[j], _, tg_name (hj _ _), by rw [hset]; exact hs sl i v q⟩
  · obtain ⟨x, rfl⟩ := p
    rw [hset2]
    exact hd x
end

/-! ## displays of lists of ints -/
section
variable {K : PySem.W.Frag} {S : List Sl} {ta tr : TA} {te : TE} {t : TS} {N : List Sl → Prop} {R : Rv → Prop}
theorem eaL_nil : EvA K tNil S (([] : List (List Int)).map lstI) := ea_nil
theorem eaL_cons {x : List Int} {xs : List (List Int)} (h : EvD K te S (.lst (x.map D.int))) (hr : EvA K tr S (xs.map lstI)) : EvA K (tCons te tr) S ((x :: xs).map lstI) := ea_cons h hr
theorem evn_lstL {xs : List (List Int)} (h : EvA K ta S (xs.map lstI)) (hl : xs.length ≤ sizeLine) : EvN K (tLst ta) S (xs.map lstI) := evn_lst h (by rw [List.length_map]; exact hl)
theorem sem_foldE2 {β γ : Type} {wi : TI} {j1 j2 : Nat} {xs : List Int} (st : β → Sl → Sl → γ → List Sl) (Iv : Nat → β → Prop) (h : ItD K wi S (enumD (xs.map D.int))) (b0 : β) (x0 y0 : Sl) (c0 : γ) (h0 : S = st b0 x0 y0 c0) (hi : Iv 0 b0)
    (hj : ∀ b x y c, j1 < (st b x y c).length) (hj2 : ∀ b x y c, j2 < (st b x y c).length) (hset : ∀ b x y c z, (st b x y c).set j1 z = st b z y c) (hset2 : ∀ b x y c z, (st b x y c).set j2 z = st b x z c)
    (hs : ∀ (i : Nat) b (v : Int) c, xs[i]? = some v → Iv i b → Sm K t (fun S' => ∃ b' x y c, S' = st b' x y c ∧ Iv (i + 1) b') R (st b (.sh (.int (i : Int))) (.sh (.int v)) c))
    (hd : ∀ b x y c, Iv xs.length b → N (st b x y c)) : Sm K (tFor wi (gTup K 2 (gCons (gName j1) (gCons (gName j2) gNil))) t) N R S := by
  refine sem_for h (fun i S' => ∃ b x y c, S' = st b x y c ∧ Iv i b) ⟨b0, x0, y0, c0, h0, hi⟩ (fun i d S' hd p => ?_) (fun S' p => ?_)
  · obtain ⟨b, x, y, c, rfl, hI⟩ := p
    obtain ⟨e, he, rfl⟩ := enumD_get hd
    rw [List.getElem?_map] at he
    cases q : xs[i]? with
    | none => rw [q] at he; cases he
    | some v =>
      rw [q] at he
      cases he
      refine ⟨_, _, tg_tup (tg_cons (tg_name (hj _ _ _ _)) (tg_cons (tg_name (by rw [hset]; exact hj2 _ _ _ _)) tg_nil)) rfl, ?_⟩
      rw [hset, hset2]
      exact hs i b v c q hI
  · rw [enumD_len, List.length_map] at p
    obtain ⟨b, x, y, c, rfl, hI⟩ := p
    exact hd b x y c hI
end

/-! ## rows joined -/
def joinAt (row : List Int) (p : Nat) (f : Int) : List Int := (List.range f.natAbs).foldl (fun r _ => deedL r (decide (0 < f)) p) row
def joinTo (one other : List Int) (n : Nat) : List Int := (List.range n).foldl (fun r p => joinAt r p (other.getD p 0)) one
theorem joinTo_succ (one other : List Int) (n : Nat) : joinTo one other (n + 1) = joinAt (joinTo one other n) n (other.getD n 0) := by
  unfold joinTo
  rw [List.range_succ, List.foldl_append]
  rfl
theorem joinAt_ok {row : List Int} (p : Nat) {f : Int} (hc : isCalm row = true) (hf : -1 ≤ f ∧ f ≤ 2) : isCalm (joinAt row p f) = true ∧ wo (joinAt row p f) = wo row + 2 ^ p * f ∧ (joinAt row p f).length ≤ max row.length (p + 1) + 2 := by
  have hf' : f = -1 ∨ f = 0 ∨ f = 1 ∨ f = 2 := by omega
  rcases hf' with rfl | rfl | rfl | rfl
  · show isCalm (deedL row false p) = true ∧ wo (deedL row false p) = _ ∧ (deedL row false p).length ≤ _
    have h1 := deed_wo row false p
    have h2 := deed_len row false p
    rw [if_neg (by decide)] at h1
    exact ⟨deed_calm false p hc, by omega, by omega⟩
  · show isCalm row = true ∧ wo row = _ ∧ row.length ≤ _
    exact ⟨hc, by omega, by omega⟩
  · show isCalm (deedL row true p) = true ∧ wo (deedL row true p) = _ ∧ (deedL row true p).length ≤ _
    have h1 := deed_wo row true p
    have h2 := deed_len row true p
    rw [if_pos rfl] at h1
    exact ⟨deed_calm true p hc, by omega, by omega⟩
  · show isCalm (deedL (deedL row true p) true p) = true ∧ wo (deedL (deedL row true p) true p) = _ ∧ (deedL (deedL row true p) true p).length ≤ _
    have h1 := deed_wo row true p
    have h2 := deed_len row true p
    have h3 := deed_wo (deedL row true p) true p
    have h4 := deed_len (deedL row true p) true p
    rw [if_pos rfl] at h1 h3
    exact ⟨deed_calm true p (deed_calm true p hc), by omega, by omega⟩
theorem fig_at {ns : List Int} (h : ∀ f, f ∈ ns → -1 ≤ f ∧ f ≤ 2) (k : Nat) : -1 ≤ ns.getD k 0 ∧ ns.getD k 0 ≤ 2 := by
  by_cases hk : k < ns.length
  · exact h _ (getD_in hk)
  · rw [List.getD_eq_getElem?_getD, List.getElem?_eq_none (by omega)]
    decide
theorem joinTo_ok {one other : List Int} (hc : isCalm one = true) (ho : isCalm other = true) : ∀ n, n ≤ other.length → isCalm (joinTo one other n) = true ∧ wo (joinTo one other n) = wo one + wo (other.take n) ∧ (joinTo one other n).length ≤ max one.length n + 2 * n
  | 0, _ => ⟨hc, by
      show wo one = _
      rw [List.take_zero, wo_nil, Int.add_zero], by
      show one.length ≤ _
      omega⟩
  | n + 1, h => by
    obtain ⟨h1, h2, h3⟩ := joinTo_ok hc ho n (by omega)
    obtain ⟨g1, g2, g3⟩ := joinAt_ok (row := joinTo one other n) n (f := other.getD n 0) h1 (fig_at (calm_fig ho) n)
    rw [joinTo_succ]
    refine ⟨g1, ?_, by omega⟩
    rw [g2, h2, List.take_succ, getD_at0 (by omega), wo_append]
    show _ = wo one + (wo (other.take n) + 2 ^ (other.take n).length * wo [other.getD n 0])
    rw [List.length_take, Nat.min_eq_left (by omega), wo_cons, wo_nil, Int.mul_zero, Int.add_zero]
    omega
def joinL (one other : List Int) : List Int := joinTo one other other.length
theorem joinL_ok {one other : List Int} (hc : isCalm one = true) (ho : isCalm other = true) : isCalm (joinL one other) = true ∧ wo (joinL one other) = wo one + wo other ∧ (joinL one other).length ≤ max one.length other.length + 2 * other.length := by
  have h := joinTo_ok hc ho other.length (Nat.le_refl _)
  rw [List.take_length] at h
  exact h
def byAt (row : List Int) (p : Nat) (f : Int) : List Int := (List.range f.toNat).foldl (fun r _ => deedL r true p) (if f = -1 then deedL row false p else row)
theorem byAt_eq (row : List Int) (p : Nat) {f : Int} (hf : -1 ≤ f ∧ f ≤ 2) : byAt row p f = joinAt row p f := by
  have hf' : f = -1 ∨ f = 0 ∨ f = 1 ∨ f = 2 := by omega
  rcases hf' with rfl | rfl | rfl | rfl <;> rfl
end Dx

namespace Dx
open PySem PySem.Spec PyProof.Rows L2

/-! ## changes turned about, put back -/
def turnF (c : Int × Int × Int) : Int × Int × Int := (c.1, c.2.2, c.2.1)
theorem foldC_len : ∀ (cs : List (Int × Int × Int)) (V : List Int), (cs.foldl setC V).length = V.length
  | [], V => rfl
  | q :: qs, V => by
    rw [List.foldl_cons, foldC_len qs]
    unfold setC
    rw [List.length_set]
theorem foldC_out : ∀ (cs : List (Int × Int × Int)) (V : List Int) (i : Nat), (∀ c, c ∈ cs → c.1.toNat ≠ i) → (cs.foldl setC V)[i]? = V[i]?
  | [], V, i, _ => rfl
  | c :: cs, V, i, h => by
    rw [List.foldl_cons, foldC_out cs _ i fun d m => h d (List.mem_cons_of_mem _ m)]
    unfold setC
    exact List.getElem?_set_ne (h c List.mem_cons_self)
theorem foldC_back (P : List Int) : ∀ (ds : List (Int × Int × Int)) (Q : List Int), Q.length = P.length → (∀ d, d ∈ ds → P.getD d.1.toNat 0 = d.2.2) → (∀ i, (∀ d, d ∈ ds → d.1.toNat ≠ i) → Q[i]? = P[i]?) → ds.foldl setC Q = P
  | [], Q, hl, _, h => List.ext_getElem? fun i => h i fun d m => (nomatch m)
  | d :: ds, Q, hl, hb, h => by
    rw [List.foldl_cons]
    refine foldC_back P ds _ (by unfold setC; rw [List.length_set, hl]) (fun e m => hb e (List.mem_cons_of_mem _ m)) fun i hi => ?_
    unfold setC
    by_cases e : d.1.toNat = i
    · rw [e]
      by_cases hlt : i < Q.length
      · rw [List.getElem?_set_self hlt, ← hb d List.mem_cons_self, e, getD_at0 (by omega)]
      · rw [List.getElem?_eq_none (by rw [List.length_set]; omega), List.getElem?_eq_none (by omega)]
    · rw [List.getElem?_set_ne e]
      refine h i fun x m => ?_
      rcases List.mem_cons.mp m with m | m
      · rw [m]; exact e
      · exact hi x m
theorem pad_trim {Y : List Int} : pad (trim Y) Y.length = Y := by
  obtain ⟨z, hz⟩ := trim_zeros Y
  have hl := congrArg List.length hz
  rw [List.length_append, List.length_replicate] at hl
  unfold pad
  rw [show Y.length - (trim Y).length = z by omega]
  exact hz.symm
/-- put back what the changes tell: the row ahead -/
theorem home {ns : List Int} {cs : List (Int × Int × Int)} {M : Nat} (hc : isCalm ns = true) (hM : ns.length ≤ M) (hp : ∀ c, c ∈ cs → c.1.toNat < M) (hb : ∀ c, c ∈ cs → ns.getD c.1.toNat 0 = c.2.1) : putL (putL ns cs) (cs.map turnF) = ns := by
  have e1 : putL ns cs = trim (cs.foldl setC (pad ns M)) := putL_pad fun c m => by have := hp c m; omega
  have hPl : (pad ns M).length = M := by rw [pad_len]; omega
  have hQl := foldC_len cs (pad ns M)
  have e2 : pad (putL ns cs) M = cs.foldl setC (pad ns M) := by
    rw [e1]
    have := pad_trim (Y := cs.foldl setC (pad ns M))
    rw [hQl, hPl] at this
    exact this
  have hmem : ∀ d, d ∈ cs.map turnF → ∃ c, c ∈ cs ∧ d = turnF c := fun d m => by
    obtain ⟨c, hc, rfl⟩ := List.mem_map.mp m
    exact ⟨c, hc, rfl⟩
  rw [putL_pad (k := M) fun d m => by
    obtain ⟨c, hc, rfl⟩ := hmem d m
    have := hp c hc
    show c.1.toNat < _
    omega, e2, foldC_back (pad ns M) (cs.map turnF) _ hQl (fun d m => by
      obtain ⟨c, hc, rfl⟩ := hmem d m
      rw [pad_getD]
      exact hb c hc) fun i hi => foldC_out cs _ i fun c m => hi (turnF c) (List.mem_map.mpr ⟨c, m, rfl⟩)]
  unfold pad
  rw [trim_app_zeros, trim_of_calm hc]
/-- what the changes tell, as the law looks at it -/
def risesFrom (ns : List Int) : Int → List (Int × Int × Int) → Prop
  | _, [] => True
  | last, c :: cs => (last < c.1 ∧ c.2.1 = (if 0 ≤ c.1 ∧ c.1 < ns.length then ns.getD c.1.toNat 0 else 0) ∧ c.2.2 ≠ (if 0 ≤ c.1 ∧ c.1 < ns.length then ns.getD c.1.toNat 0 else 0)) ∧ risesFrom ns c.1 cs
theorem chF_ok (ns : List Int) (up : Bool) (k : Nat) {g : Int} (h : g ≠ sv ns up k) : (chF ns up ((k : Int), g)).2.1 = (if 0 ≤ (k : Int) ∧ (k : Int) < ns.length then ns.getD (k : Int).toNat 0 else 0) ∧ (chF ns up ((k : Int), g)).2.2 ≠ (if 0 ≤ (k : Int) ∧ (k : Int) < ns.length then ns.getD (k : Int).toNat 0 else 0) := by
  have e : (if 0 ≤ (k : Int) ∧ (k : Int) < ns.length then ns.getD (k : Int).toNat 0 else 0) = ns.getD k 0 := by
    split
    · rw [Int.toNat_natCast]
    · rw [List.getD_eq_getElem?_getD, List.getElem?_eq_none (by omega)]
      rfl
  rw [e]
  unfold chF
  refine ⟨by rw [Int.toNat_natCast], fun z => h ?_⟩
  have := congrArg (vw up) z
  rw [vw_vw] at this
  exact this
theorem chL_rises (ns : List Int) (up : Bool) (p : Nat) : risesFrom ns (-1) (chL ns up p) := by
  have hu : p + 1 ≤ aboveN ns up p := by unfold aboveN; omega
  have a1 : ∀ {k : Nat} {g : Int}, g ≠ sv ns up k → _ := fun {k g} h => chF_ok ns up k h
  have c1 : (((p + 1 : Nat) : Int)) = (p : Int) + 1 := by omega
  have c2 : (((aboveN ns up p + 1 : Nat) : Int)) = (aboveN ns up p : Int) + 1 := by omega
  unfold chL saL
  split
  · rename_i h
    exact ⟨⟨by show (-1 : Int) < (p : Int); omega, a1 (by omega)⟩, ⟨by show (p : Int) < (p : Int) + 1; omega, by rw [← c1]; exact a1 (by omega)⟩, trivial⟩
  · split
    · exact ⟨⟨by show (-1 : Int) < (p : Int); omega, a1 (by omega)⟩, trivial⟩
    · split
      · exact ⟨⟨by show (-1 : Int) < (p : Int); omega, a1 (by omega)⟩, ⟨by show (p : Int) < (p : Int) + 1; omega, by rw [← c1]; exact a1 (by omega)⟩, trivial⟩
      · split
        · exact ⟨⟨by show (-1 : Int) < (p : Int); omega, a1 (by omega)⟩, ⟨by show (p : Int) < (aboveN ns up p : Int); omega, a1 (by omega)⟩, ⟨by show (aboveN ns up p : Int) < (aboveN ns up p : Int) + 1; omega, by rw [← c2]; exact a1 (by omega)⟩, trivial⟩
        · exact ⟨⟨by show (-1 : Int) < (p : Int); omega, a1 (by omega)⟩, trivial⟩
theorem chL_count (ns : List Int) (up : Bool) (p : Nat) : 1 ≤ (chL ns up p).length ∧ (chL ns up p).length ≤ 3 := by
  unfold chL
  rw [List.length_map]
  refine ⟨?_, saL_len ns up p⟩
  unfold saL
  repeat' split
  all_goals simp
theorem chL_before (ns : List Int) (up : Bool) (p : Nat) : ∀ c, c ∈ chL ns up p → ns.getD c.1.toNat 0 = c.2.1 := by
  intro c m
  unfold chL at m
  obtain ⟨q, _, rfl⟩ := List.mem_map.mp m
  rfl
theorem deed_home {ns : List Int} (up : Bool) (p : Nat) (hc : isCalm ns = true) : putL (deedL ns up p) ((chL ns up p).map turnF) = ns :=
  home (M := max ns.length (p + 1) + 1) hc (by omega) (fun c m => by
    unfold chL at m
    obtain ⟨q, hq, rfl⟩ := List.mem_map.mp m
    exact saL_bd ns up p q hq) (chL_before ns up p)
end Dx

namespace Dx
open PySem PySem.Spec PyProof.Rows L2

/-! ## a def that appends to a list it is handed -/
def ownAt (p : Addr) (ds : List D) : PySem.W.Frag → Hp → Hp → V → List Addr → Prop := fun K H F v fp => v = .ref p ∧ fp = [p] ∧ ∃ vs, H p = some (.lst vs) ∧ RpAll K F vs ds
section
variable {K : PySem.W.Frag} {S : List Sl} {te : TE} {t u : TS} {d : D} {ds es : List D} {N : List Sl → Prop} {R : Rv → Prop}
theorem at_own {O : List Addr} {H0 H : Hp} {P : List (List Addr)} {σ : L2.St} {k : Nat} {p : Addr} (r : Rep K O H0 H P σ S) (hk : S[k]? = some (.ob (ownAt p ds))) : σ[k]? = some (some (.ref p)) ∧ P[k]? = some [p] ∧ ∃ vs, H p = some (.lst vs) ∧ RpAll K (fro H O P) vs ds := by
  obtain ⟨v, fp, e1, e2, e3⟩ := r.at_ k _ hk
  obtain ⟨rfl, rfl, h⟩ := e3 H (fro H O P) (fun _ _ => rfl) (Same.refl _)
  exact ⟨e1, e2, h⟩
theorem sem_appAt {k : Nat} {p : Addr} (hk : S[k]? = some (.ob (ownAt p ds))) (h : EvD K te S d) (hz : ds.length < sizeLine) (q : N (S.set k (.ob (ownAt p (ds ++ [d]))))) : Sm K (tDrop (tBM K "list" rAppend (tVar k) (tCons te tNil))) N R S := fun O H0 H P σ r De kn kr => by
  obtain ⟨e, eP, vs, hp, r1⟩ := at_own r hk
  refine ⟨_, e, .inl ⟨rfl, _, .of hp⟩, h O H0 H P σ r _ fun v H1 e1 rv => ?_⟩
  have R1 := r.ext e1
  have hkS := set_some hk
  obtain ⟨R2, g2⟩ := R1.step (l := [p]) (sl := .ob (ownAt p (ds ++ [d]))) (σ' := σ) (H' := upd H1 p (.lst (vs ++ [v]))) hkS rfl (fun _ _ => rfl) (fun a m => .inl ⟨_, eP, m⟩) (fun a m => by rw [List.mem_singleton.mp m, upd_same]; simp) (fun a o q n => by rw [upd_ne (fun z => n (List.mem_singleton.mpr z))]; exact q)
    (fun g => ⟨_, [p], e, List.getElem?_set_self (by rw [R1.lenP]; exact hkS), fun H' F' h1 h2 => ⟨rfl, rfl, vs ++ [v], by rw [h1 p List.mem_cons_self, upd_same], (((r1.mono (fro_same e1)).append (.cons rv .nil)).mono g).mono h2⟩⟩)
  exact ⟨p, vs, v, rfl, rfl, e1 _ _ hp, by rw [r1.length]; exact hz, kn _ _ _ _ R2 ((fro_same e1).trans g2) q⟩
/-- what is told at a return of a new list, the frame's state with it -/
def SmF (K : PySem.W.Frag) (t : TS) (F : List Sl → List D → Prop) (S : List Sl) : Prop := ∀ O H0 H P σ, Rep K O H0 H P σ S → ∀ De : Ends,
  (∀ v Hb H' P' σ' S' rs, Rep K O H0 Hb P' σ' S' → Same Hb H' → (∃ p vs, v = .ref p ∧ Hb p = none ∧ H' p = some (.lst vs) ∧ RpAll K (fro H' O ([p] :: P')) vs rs) → F S' rs → De.rt v H') → t De σ H
theorem semF_seq {F : List Sl → List D → Prop} (h : Sm K t (fun S' => SmF K u F S') (fun _ => False) S) : SmF K (tSeq t u) F S := fun O H0 H P σ r De kr =>
  h O H0 H P σ r { De with nx := u De } (fun H' P' σ' S' r' g n => n O H0 H' P' σ' r' De kr) fun v H' r _ w => w.elim
theorem semF_retN {F : List Sl → List D → Prop} (h : EvN K te S ds) (q : F S ds) : SmF K (tRet te) F S := fun O H0 H P σ r De kr =>
  h O H0 H P σ r _ fun p vs H1 e1 hn hp r1 => kr _ H H1 P σ S ds r e1 ⟨p, vs, rfl, hn, hp, r1⟩ q
end
/-- the promise: data, and a list at the end that gets g behind what it has -/
def PSpM {α : Type} (K : PySem.W.Frag) (A : α → List D) (pre : α → List D → Prop) (f g : α → List D) : Sp := fun vs H Q _ => ∃ a O p ws us ds, (∀ x, x ∈ O → H x ≠ none) ∧ p ∉ O ∧ vs = ws ++ [.ref p] ∧ RpAll K (hidL H (p :: O)) ws (A a) ∧ H p = some (.lst us) ∧ RpAll K (hidL H (p :: O)) us ds ∧ pre a ds ∧
  ∀ v H', Same (hidL H [p]) H' → (∃ us', H' p = some (.lst us') ∧ ∃ q vs', v = .ref q ∧ H q = none ∧ H' q = some (.lst vs') ∧ RpAll K (hidL H' (q :: p :: O)) vs' (f a) ∧ RpAll K (hidL H' (q :: p :: O)) us' (ds ++ g a)) → Q v H'
section
variable {P : Program} {w : World} {K : PySem.W.Frag} {mg : Str → Option Value} {base : Heap}
theorem fn_mut {α : Type} {A : α → List D} {pre : α → List D → Prop} {f g : α → List D} {x qual : Str} {st : Stmt} {fa : Addr} {fd : FuncData} {N ps : List Str} {k : Nat} (F : Fun K x qual st fa fd) (sc : FnScope N ps (defScope st)) (hl : ∀ a, (A a).length + 1 = ps.length) (hn : ps.length ≤ N.length)
    (hb : ∀ (cdv : Value) (A0 : Around) (outer : List Env) (s : Shared) (H : Hp) (E : XK), Room k (A0.deeper (envOfC qual (defScope st) s.heap.objs.size fa cdv)) →
      ∃ t, PSs (cxOf CX0 P w K mg base N qual (defScope st) fa cdv A0 outer s H E).nox (defBody st) t ∧ ∀ a ds p, pre a ds → SmF K t (fun S' rs => rs = f a ∧ S'[(A a).length]? = some (.ob (ownAt p (ds ++ g a)))) ((A a).map Sl.sh ++ [.ob (ownAt p ds)] ++ List.replicate (N.length - ps.length) Sl.no)) :
    FnOk P w K mg base CX0 (k + 1) fa fd ps (PSpM K A pre f g) := by
  refine F.ok sc (fun vs H Q E h => ?_) (fun cdv A0 outer s H vs Q E hr h => ?_)
  · obtain ⟨a, O, p, ws, us, ds, _, _, rfl, h, _⟩ := h
    rw [List.length_append, h.length, List.length_singleton]
    exact hl a
  · obtain ⟨a, O, p, ws, us, ds, hO, hpO, rfl, hv, hp, hu, hpre, q⟩ := h
    obtain ⟨t, ht, hs⟩ := hb cdv A0 outer s H E hr
    refine ⟨t, ht, ?_⟩
    have hla := hl a
    have lv : ws.length = (A a).length := hv.length
    have hPk : ∀ i l, (List.replicate (A a).length ([] : List Addr) ++ [[p]] ++ List.replicate (N.length - ps.length) [])[i]? = some l → ∀ x, x ∈ l → i = (A a).length ∧ x = p := fun i l h x m => by
      rcases Nat.lt_trichotomy i (A a).length with z | z | z
      · rw [List.getElem?_append_left (by rw [List.length_append, List.length_replicate]; omega), List.getElem?_append_left (by rw [List.length_replicate]; exact z), List.getElem?_replicate, if_pos z] at h
        cases h
        cases m
      · subst z
        rw [List.getElem?_append_left (by rw [List.length_append, List.length_replicate, List.length_singleton]; omega), List.getElem?_append_right (by rw [List.length_replicate]; exact Nat.le_refl _), List.length_replicate, Nat.sub_self] at h
        cases h
        exact ⟨rfl, List.mem_singleton.mp m⟩
      · rw [List.getElem?_append_right (by rw [List.length_append, List.length_replicate, List.length_singleton]; omega)] at h
        have := List.mem_of_getElem? h
        rw [List.mem_replicate] at this
        rw [this.2] at m
        cases m
    have hPf : ∀ x, x ∈ (List.replicate (A a).length ([] : List Addr) ++ [[p]] ++ List.replicate (N.length - ps.length) []).flatten ↔ x = p := fun x => by
      constructor
      · intro m
        obtain ⟨l, hl2, hx⟩ := List.mem_flatten.mp m
        obtain ⟨i, hi⟩ := List.mem_iff_getElem?.mp hl2
        exact (hPk i l hi x hx).2
      · rintro rfl
        exact List.mem_flatten.mpr ⟨[x], by simp, List.mem_cons_self⟩
    have fz : Same (hidL H (p :: O)) (fro H O (List.replicate (A a).length ([] : List Addr) ++ [[p]] ++ List.replicate (N.length - ps.length) [])) := hid_le (Same.refl _) fun x m => .inl (by
      rcases List.mem_append.mp m with m | m
      · exact List.mem_cons_of_mem _ m
      · rw [(hPf x).mp m]; exact List.mem_cons_self)
    refine hs a ds p hpre O (hidL H [p]) H (List.replicate (A a).length [] ++ [[p]] ++ List.replicate (N.length - ps.length) []) (L2.start N (ws ++ [.ref p])) ⟨?_, ?_, fun x m => ?_, ?_, ?_, ?_, ?_⟩ _ (fun v Hb H' P' σ' S' rs r' e hv' hF => ?_)
    · unfold L2.start
      simp only [List.length_append, List.length_map, List.length_replicate, List.length_singleton, lv]
      omega
    · simp only [List.length_append, List.length_map, List.length_replicate, List.length_singleton]
    · cases y : H x with
      | none => exact absurd y (hO x m)
      | some o =>
        rw [hidL_some.mpr ⟨fun z => hpO (by rw [← List.mem_singleton.mp z]; exact m), y⟩]
        exact fun z => nomatch z
    · exact hid_le (Same.refl _) fun x m => .inl (by rw [(hPf x).mp m]; exact List.mem_cons_self)
    · intro i j l m x h1 h2 h3 h4
      rw [(hPk i l h1 x h3).1, (hPk j m h2 x h4).1]
    · intro x m
      rw [(hPf x).mp m, hp]
      exact fun z => nomatch z
    · intro i sl h
      rcases Nat.lt_trichotomy i (A a).length with z | z | z
      · rw [List.getElem?_append_left (by rw [List.length_append, List.length_map]; omega), List.getElem?_append_left (by rw [List.length_map]; exact z), List.getElem?_map] at h
        cases e : (A a)[i]? with
        | none => rw [e] at h; cases h
        | some d =>
          rw [e] at h
          cases h
          obtain ⟨v, e1, e2⟩ := hv.get' e
          refine ⟨v, ?_, e2.mono fz⟩
          unfold L2.start
          rw [List.getElem?_append_left (by rw [List.length_map, List.length_append]; omega), List.getElem?_map, List.getElem?_append_left (by omega), e1]
          rfl
      · subst z
        rw [List.getElem?_append_left (by rw [List.length_append, List.length_map, List.length_singleton]; omega), List.getElem?_append_right (by rw [List.length_map]; exact Nat.le_refl _), List.length_map, Nat.sub_self] at h
        cases h
        refine ⟨.ref p, [p], ?_, ?_, fun H2 F2 h1 h2 => ⟨rfl, rfl, us, by rw [h1 p List.mem_cons_self]; exact hp, (hu.mono fz).mono h2⟩⟩
        · unfold L2.start
          rw [List.getElem?_append_left (by rw [List.length_map, List.length_append, List.length_singleton]; omega), List.getElem?_map, List.getElem?_append_right (by omega), lv, Nat.sub_self]
          rfl
        · rw [List.getElem?_append_left (by rw [List.length_append, List.length_replicate, List.length_singleton]; omega), List.getElem?_append_right (by rw [List.length_replicate]; exact Nat.le_refl _), List.length_replicate, Nat.sub_self]
          rfl
      · rw [List.getElem?_append_right (by rw [List.length_append, List.length_map, List.length_singleton]; omega)] at h
        have hm := List.mem_of_getElem? h
        rw [List.mem_replicate] at hm
        rw [hm.2]
        have hlt := (List.getElem?_eq_some_iff.mp h).1
        rw [List.length_replicate, List.length_append, List.length_map, List.length_singleton] at hlt
        show (_ : List (List Addr))[i]? = some []
        rw [List.getElem?_append_right (by rw [List.length_append, List.length_replicate, List.length_singleton]; omega), List.length_append, List.length_replicate, List.length_singleton, List.getElem?_replicate, if_pos hlt]
    · obtain ⟨hF1, hF2⟩ := hF
      subst hF1
      obtain ⟨q', vs', rfl, hq1, hq2, hq3⟩ := hv'
      obtain ⟨e1, eP, us', hp', hu'⟩ := at_own r' hF2
      have k1 : Same (hidL H [p]) Hb := r'.keep
      have hqH : H q' = none := by
        cases y : H q' with
        | none => rfl
        | some o =>
          by_cases z : q' = p
          · rw [z] at hq1
            rw [hp'] at hq1
            cases hq1
          · rw [k1 _ _ (hidL_some.mpr ⟨fun m => z (List.mem_singleton.mp m), y⟩)] at hq1
            cases hq1
      have sub : Same (fro H' O ([q'] :: P')) (hidL H' (q' :: p :: O)) := hid_le (Same.refl _) fun x m => .inl (by
        rcases List.mem_cons.mp m with m | m
        · rw [m]; exact List.mem_append_right _ (by rw [List.flatten_cons]; exact List.mem_append_left _ List.mem_cons_self)
        · rcases List.mem_cons.mp m with m | m
          · rw [m]; exact List.mem_append_right _ (by rw [List.flatten_cons]; exact List.mem_append_right _ (mem_flat eP List.mem_cons_self))
          · exact List.mem_append_left _ m)
      exact q _ H' (k1.trans e) ⟨us', e _ _ hp', q', vs', rfl, hqH, hq2, hq3.mono sub, (hu'.mono (fro_cons' e hq1)).mono sub⟩
end

/-- data, then the own list at slot k -/
def EvX (K : PySem.W.Frag) (ta : TA) (S : List Sl) (ds : List D) (k : Nat) : Prop := ∀ O H0 H P σ, Rep K O H0 H P σ S → ∀ Q : List V → Hp → Prop, (∀ vs H' p, Same H H' → RpAll K (fro H' O P) vs ds → σ[k]? = some (some (.ref p)) → Q (vs ++ [.ref p]) H') → ta σ H Q
section
variable {K : PySem.W.Frag} {S : List Sl} {ta : TA} {te : TE} {d : D} {ds es : List D} {E : XK} {N : List Sl → Prop} {R : Rv → Prop}
theorem ex_last {k : Nat} (hk : S[k]? = some (.ow es)) : EvX K (tCons (tVar k) tNil) S [] k := fun O H0 H P σ r Q q => by
  obtain ⟨p, vs, e, _, _, _⟩ := r.at_ k _ hk
  exact ⟨_, e, q [] H p (Same.refl H) .nil e⟩
theorem ex_cons {k : Nat} (h : EvD K te S d) (hr : EvX K ta S ds k) : EvX K (tCons te ta) S (d :: ds) k := fun O H0 H P σ r Q q =>
  h O H0 H P σ r _ fun v H1 e1 r1 => hr O H0 H1 P σ (r.ext e1) _ fun vs H2 p e2 r2 e => q (v :: vs) H2 p (e1.trans e2) (.cons (r1.mono (fro_same e2)) r2) e
theorem sem_asgM {α : Type} {A : α → List D} {pre : α → List D → Prop} {f g : α → List D} {k i : Nat} (a : α) (h : EvX K ta S ds k) (hk : S[k]? = some (.ow es)) (hA : A a = ds) (hp : pre a es) (hi : i < S.length) (hik : i ≠ k) (q : N ((S.set i (.ow (f a))).set k (.ow (es ++ g a)))) :
    Sm K (tAsg (tCall (PSpM K A pre f g) [] E ta) (gName i)) N R S := fun O H0 H P σ r De kn kr => by
  refine h O H0 H P σ r _ fun vs H1 p e1 r1 ep => ?_
  have R1 := r.ext e1
  obtain ⟨p', us, ep', eP, hpv, ru⟩ := R1.at_ k _ hk
  rw [ep] at ep'
  cases ep'
  have hkS := set_some hk
  have hkP : k < P.length := by rw [R1.lenP]; exact hkS
  have hiP : i < P.length := by rw [R1.lenP]; exact hi
  have hpP : p ∈ P.flatten := mem_flat eP List.mem_cons_self
  have hn : p ∉ (P.set k []).flatten := fun m => by
    rcases mem_set m with z | ⟨j, m', hj, z, r'⟩
    · cases z
    · exact hj (R1.inj j k m' [p] p z eP r' List.mem_cons_self)
  have sub : ∀ x, x ∈ (P.set k []).flatten → x ∈ P.flatten := fun x m => by
    rcases mem_set m with z | ⟨j, m', hj, z, r'⟩
    · cases z
    · exact mem_flat z r'
  have sup : ∀ x, x ∈ P.flatten → x = p ∨ x ∈ (P.set k []).flatten := fun x m => by
    obtain ⟨l, hl, hx⟩ := List.mem_flatten.mp m
    obtain ⟨j, hj⟩ := List.mem_iff_getElem?.mp hl
    by_cases z : k = j
    · subst z
      rw [eP] at hj
      cases hj
      exact .inl (List.mem_singleton.mp hx)
    · exact .inr (mem_flat (by rw [List.getElem?_set_ne z]; exact hj) hx)
  have toO : Same (fro H1 O P) (hidL H1 (p :: (O ++ (P.set k []).flatten))) := hid_le (Same.refl _) fun x m => .inl (by
    rcases List.mem_cons.mp m with m | m
    · rw [m]; exact List.mem_append_right _ hpP
    · rcases List.mem_append.mp m with m | m
      · exact List.mem_append_left _ m
      · exact List.mem_append_right _ (sub x m))
  refine ⟨a, O ++ (P.set k []).flatten, p, vs, us, es, fun x m => ?_, fun m => ?_, by rw [List.append_nil], by rw [hA]; exact r1.mono toO, hpv, ru.mono toO, hp, fun v H2 s2 w => ?_⟩
  · rcases List.mem_append.mp m with m | m
    · exact call_core R1 x (List.mem_append_left _ m)
    · exact call_core R1 x (List.mem_append_right _ (sub x m))
  · rcases List.mem_append.mp m with m | m
    · exact (R1.pO hpP).1 m
    · exact hn m
  · obtain ⟨us', hus, q', vs', rfl, hq1, hq2, rf, rg⟩ := w
    have hqp : q' ≠ p := fun z => by rw [z, hpv] at hq1; cases hq1
    have old : ∀ x o, H1 x = some o → x ≠ p → H2 x = some o := fun x o y z => s2 x o (hidL_some.mpr ⟨fun m => z (List.mem_singleton.mp m), y⟩)
    have toF : ∀ {G : Hp} {Q' : List (List Addr)}, (∀ x, x ≠ p → G x = H2 x) → (∀ x, x ∈ Q'.flatten → x = q' ∨ x ∈ P.flatten) → Same (hidL H2 (q' :: p :: (O ++ (P.set k []).flatten))) (fro G O Q') := fun hG hQ x o y => by
      obtain ⟨y1, y2⟩ := hidL_some.mp y
      have y3 : x ≠ q' := fun z => y1 (by rw [z]; exact List.mem_cons_self)
      have y4 : x ≠ p := fun z => y1 (by rw [z]; exact List.mem_cons_of_mem _ List.mem_cons_self)
      have y5 : x ∉ O ++ (P.set k []).flatten := fun z => y1 (List.mem_cons_of_mem _ (List.mem_cons_of_mem _ z))
      refine fro_some.mpr ⟨fun z => y5 (List.mem_append_left _ z), fun z => ?_, by rw [hG x y4]; exact y2⟩
      rcases hQ x z with z | z
      · exact y3 z
      · rcases sup x z with z | z
        · exact y4 z
        · exact y5 (List.mem_append_right _ z)
    have hflat1 : ∀ x, x ∈ (P.set i [q']).flatten → x = q' ∨ x ∈ P.flatten := fun x m => by
      rcases mem_set m with z | ⟨j, m', hj, z, r'⟩
      · exact .inl (List.mem_singleton.mp z)
      · exact .inr (mem_flat z r')
    obtain ⟨R2, g2⟩ := R1.step (l := [q']) (sl := .ow (f a)) (σ' := σ.set i (some (.ref q'))) (H' := upd H2 p (.lst us)) hi (by rw [List.length_set]) (fun j hj => List.getElem?_set_ne (Ne.symm hj)) (fun x m => .inr (by rw [List.mem_singleton.mp m]; exact hq1))
      (fun x m => by rw [List.mem_singleton.mp m, upd_ne hqp, hq2]; simp)
      (fun x o y n => by
        by_cases z : x = p
        · rw [z, upd_same]
          rw [z, hpv] at y
          exact y
        · rw [upd_ne z]
          exact old x o y z)
      (fun gg => ⟨q', vs', List.getElem?_set_self (by rw [R1.len]; exact hi), List.getElem?_set_self hiP, by rw [upd_ne hqp]; exact hq2, rf.mono (toF (fun x hx => upd_ne hx) hflat1)⟩)
    have hPk2 : (P.set i [q'])[k]? = some [p] := by rw [List.getElem?_set_ne hik]; exact eP
    obtain ⟨R3, g3⟩ := R2.step (i := k) (l := [p]) (sl := .ow (es ++ g a)) (σ' := σ.set i (some (.ref q'))) (H' := H2) (by rw [List.length_set]; exact hkS) rfl (fun _ _ => rfl) (fun x m => .inl ⟨_, hPk2, m⟩)
      (fun x m => by rw [List.mem_singleton.mp m, hus]; simp)
      (fun x o y n => by
        have z : x ≠ p := fun z => n (List.mem_singleton.mpr z)
        rw [upd_ne z] at y
        exact y)
      (fun gg => ⟨p, us', by rw [List.getElem?_set_ne hik]; exact ep, List.getElem?_set_self (by rw [List.length_set]; exact hkP), hus, rg.mono (toF (fun _ _ => rfl) fun x m => by
        rcases mem_set m with z | ⟨j, m', hj, z, r'⟩
        · rw [List.mem_singleton.mp z]; exact .inr hpP
        · exact hflat1 x (mem_flat z r'))⟩)
    exact kn H2 _ _ _ R3 (((fro_same e1).trans g2).trans g3) q
end

/-! ## pairs in lists, triples in comprehensions -/
section
variable {K : PySem.W.Frag} {S : List Sl} {ta : TA} {te : TE} {d : D} {ds es : List D} {E : XK} {N : List Sl → Prop} {R : Rv → Prop} {t : TS}
theorem tg_lst {gs : TGs} {js : List Nat} {S2 : List Sl} {n : Nat} (h : TgS K gs js ds S S2) (hn : ds.length = n) : TgD K (gLst K n gs) js (.lst ds) S S2 := fun O H0 H P σ v r rv Q q => by
  cases rv with
  | lst hp rvs => exact ⟨_, _, rfl, .of (fro_le _ _ hp), by rw [rvs.length]; exact hn, h O H0 H P σ _ r rvs Q q⟩
theorem evn_listTri {c : Int × Int × Int} (h : EvD K te S (triD c)) : EvN K (tCB (rListA K) (tCons te tNil)) S (([c.1, c.2.1, c.2.2] : List Int).map D.int) := evn_listT h
/-- [.. for a, b, c in triples] -/
theorem evn_lc3 {wi : TI} {j1 j2 j3 : Nat} {α β : Type} {e1 e2 e3 : α → D} {f : β → D} {xs : List α} (y : α → β) (hit : ItD K wi S (xs.map fun v => .tup [e1 v, e2 v, e3 v])) (h1 : S[j1]? = some .no) (h2 : S[j2]? = some .no) (h3 : S[j3]? = some .no) (hz : xs.length < sizeLine)
    (hs : ∀ x, x ∈ xs → EvD K te (((S.set j1 (.sh (e1 x))).set j2 (.sh (e2 x))).set j3 (.sh (e3 x))) (f (y x))) : EvN K (tLc wi (gTup K 3 (gCons (gName j1) (gCons (gName j2) (gCons (gName j3) gNil)))) tYes te [j1, j2, j3]) S ((xs.map y).map f) := by
  refine evn_lc hit (fun w m => ?_) (by rw [List.length_map]; exact hz) (by rw [List.length_map, List.length_map, List.length_map]) fun i d e hd he => ?_
  · simp only [List.mem_cons, List.not_mem_nil, or_false] at m
    rcases m with rfl | rfl | rfl
    · exact h1
    · exact h2
    · exact h3
  · rw [List.getElem?_map] at hd
    rw [List.getElem?_map, List.getElem?_map] at he
    cases q : xs[i]? with
    | none => rw [q] at hd; cases hd
    | some x =>
      rw [q] at hd he
      cases hd
      cases he
      refine ⟨_, _, fun j m => ?_, tg_tup (tg_cons (tg_name (set_some h1)) (tg_cons (tg_name (by rw [List.length_set]; exact set_some h2)) (tg_cons (tg_name (by rw [List.length_set, List.length_set]; exact set_some h3)) tg_nil))) rfl, hs x (List.mem_of_getElem? q)⟩
      exact m
theorem evd_tri {a b c : Int} (h : EvD K te S (.tup [.int a, .int b, .int c])) : EvD K te S (triD (a, b, c)) := h
end
end Dx

namespace Dx
open PySem PySem.Spec PyProof.Rows L2

/-! ## defs that are handed objects which they change, and may refuse -/
abbrev Fam := PySem.W.Frag → Hp → Hp → V → List Addr → Prop
inductive Ov where
  | ret (r : Rv)
  | exc (c : Value)
inductive ObAll (K : PySem.W.Frag) (H F : Hp) : List Fam → List V → List (List Addr) → Prop
  | nil : ObAll K H F [] [] []
  | cons {φ : Fam} {v : V} {fp : List Addr} {φs : List Fam} {vs : List V} {fps : List (List Addr)} : (∀ H' F', (∀ a, a ∈ fp → H' a = H a) → Same F F' → φ K H' F' v fp) → ObAll K H F φs vs fps → ObAll K H F (φ :: φs) (v :: vs) (fp :: fps)
def Disj (fps : List (List Addr)) : Prop := ∀ (i j : Nat) (l m : List Addr) (a : Addr), fps[i]? = some l → fps[j]? = some m → a ∈ l → a ∈ m → i = j
/-- what is told at a return: Hb the heap ahead of what the result lays -/
def RetF (K : PySem.W.Frag) (O : List Addr) (Hb H' : Hp) (P : List (List Addr)) (v : V) : Rv → Prop
  | .val d => Rp K (fro H' O P) v d
  | .new ds => ∃ p vs, v = .ref p ∧ Hb p = none ∧ H' p = some (.lst vs) ∧ RpAll K (fro H' O ([p] :: P)) vs ds
def SmG (K : PySem.W.Frag) (E : XK) (t : TS) (F : List Sl → Rv → Prop) (X : Value → Prop) (S : List Sl) : Prop := ∀ O H0 H P σ, Rep K O H0 H P σ S → (∀ c H', X c → Same H H' → E c none H') → ∀ De : Ends,
  (∀ v Hb H' P' σ' S' r, Rep K O H0 Hb P' σ' S' → Same Hb H' → RetF K O Hb H' P' v r → F S' r → De.rt v H') → t De σ H
section
variable {K : PySem.W.Frag} {S : List Sl} {te : TE} {t u : TS} {tt : TT} {d : D} {ds es : List D} {E : XK} {F : List Sl → Rv → Prop} {X : Value → Prop} {b : Bool}
theorem smg_seq (h : Sm K t (fun S' => SmG K E u F (fun _ => False) S') (fun _ => False) S) : SmG K E (tSeq t u) F X S := fun O H0 H P σ r _ De kr =>
  h O H0 H P σ r { De with nx := u De } (fun H' P' σ' S' r' g n => n O H0 H' P' σ' r' (fun _ _ z => z.elim) De kr) fun v H' r _ w => w.elim
theorem smg_imp {X' : Value → Prop} (h : SmG K E t F X S) (hX : ∀ c, X c → X' c) : SmG K E t F X' S := fun O H0 H P σ r hE De kr => h O H0 H P σ r (fun c H' x s => hE c H' (hX c x) s) De kr
theorem smg_ret (h : EvD K te S d) (q : F S (.val d)) : SmG K E (tRet te) F X S := fun O H0 H P σ r _ De kr =>
  h O H0 H P σ r _ fun v H1 e1 r1 => kr v H H1 P σ S (.val d) r e1 r1 q
theorem smg_retN (h : EvN K te S ds) (q : F S (.new ds)) : SmG K E (tRet te) F X S := fun O H0 H P σ r _ De kr =>
  h O H0 H P σ r _ fun p vs H1 e1 hn hp r1 => kr _ H H1 P σ S (.new ds) r e1 ⟨p, vs, rfl, hn, hp, r1⟩ q
theorem smg_seqIf {t2 : TS} (h : EvT K tt S b) (h1 : b = true → SmG K E (tSeq t u) F X S) (h2 : b = false → SmG K E (tSeq t2 u) F X S) : SmG K E (tSeq (tIfS tt t t2) u) F X S := fun O H0 H P σ r hE De kr =>
  h O H0 H P σ r _ fun H1 e1 => by
    cases b with
    | true => exact h1 rfl O H0 H1 P σ (r.ext e1) (fun c H' x s => hE c H' x (e1.trans s)) De kr
    | false => exact h2 rfl O H0 H1 P σ (r.ext e1) (fun c H' x s => hE c H' x (e1.trans s)) De kr
/-- raise C('..') -/
theorem smg_raise {c : Value} (h : X c) : SmG K E (tSeq (fun _ _ H => E c none H) u) F X S := fun O H0 H P σ r hE De kr => hE c H h (Same.refl H)
theorem smg_next (h : SmG K E u F X S) : SmG K E (tSeq tNext u) F X S := fun O H0 H P σ r hE De kr => h O H0 H P σ r hE De kr
end
/-- the promise: objects ob s (they become ob (g a s)), data; f a s comes, or the refusal, all as it was -/
def PSpO {α β : Type} (K : PySem.W.Frag) (ob : β → List Fam) (A : α → List D) (pre : α → β → Prop) (f : α → β → Ov) (g : α → β → β) : Sp := fun vs H Q E => ∃ a s O vo fps ws, vs = vo ++ ws ∧ (∀ x, x ∈ O → H x ≠ none) ∧ (∀ x, x ∈ fps.flatten → x ∉ O ∧ H x ≠ none) ∧ Disj fps ∧ RpAll K (fro H O fps) ws (A a) ∧ ObAll K H (fro H O fps) (ob s) vo fps ∧ pre a s ∧
  (∀ r, f a s = .ret r → ∀ u Hb H' fps', Same (hidL H fps.flatten) Hb → (∀ x, x ∈ fps'.flatten → (x ∈ fps.flatten ∨ H x = none) ∧ Hb x ≠ none) → Disj fps' → ObAll K Hb (fro Hb O fps') (ob (g a s)) vo fps' → Same Hb H' → RetF K O Hb H' fps' u r → Q u H') ∧
  (∀ c, f a s = .exc c → ∀ H', Same H H' → E c none H')
section
variable {P : Program} {w : World} {K : PySem.W.Frag} {mg : Str → Option Value} {base : Heap}
theorem ObAll.len {H F : Hp} : ∀ {φs : List Fam} {vs : List V} {fps : List (List Addr)}, ObAll K H F φs vs fps → vs.length = φs.length ∧ fps.length = φs.length
  | [], _, _, h => by cases h; exact ⟨rfl, rfl⟩
  | φ :: φs, _, _, h => by
    cases h with
    | cons _ h => exact ⟨congrArg Nat.succ h.len.1, congrArg Nat.succ h.len.2⟩
theorem ObAll.get {H F : Hp} : ∀ {φs : List Fam} {vs : List V} {fps : List (List Addr)} {i : Nat} {φ : Fam}, ObAll K H F φs vs fps → φs[i]? = some φ → ∃ v fp, vs[i]? = some v ∧ fps[i]? = some fp ∧ ∀ H' F', (∀ a, a ∈ fp → H' a = H a) → Same F F' → φ K H' F' v fp
  | [], _, _, _, _, h, e => by cases e
  | _ :: _, _, _, 0, _, h, e => by
    cases h with
    | cons h1 h =>
      cases e
      exact ⟨_, _, rfl, rfl, h1⟩
  | _ :: _, _, _, i + 1, _, h, e => by
    cases h with
    | cons _ h =>
      obtain ⟨v, fp, e1, e2, e3⟩ := h.get (i := i) e
      exact ⟨v, fp, e1, e2, e3⟩
theorem ObAll.of {H F : Hp} : ∀ {φs : List Fam} {vs : List V} {fps : List (List Addr)}, vs.length = φs.length → fps.length = φs.length → (∀ (i : Nat) (φ : Fam), φs[i]? = some φ → ∃ (v : V) (fp : List Addr), vs[i]? = some v ∧ fps[i]? = some fp ∧ ∀ H' F' : Hp, (∀ a, a ∈ fp → H' a = H a) → Same F F' → φ K H' F' v fp) → ObAll K H F φs vs fps
  | [], [], [], _, _, _ => .nil
  | φ :: φs, v :: vs, fp :: fps, h1, h2, h => by
    obtain ⟨v', fp', e1, e2, e3⟩ := h 0 φ rfl
    cases e1
    cases e2
    exact .cons e3 (ObAll.of (Nat.succ.inj h1) (Nat.succ.inj h2) fun i ψ e => h (i + 1) ψ e)
def pinF (v0 : V) (φ : Fam) : Fam := fun K H F v fp => v = v0 ∧ φ K H F v fp
def pins (vo : List V) (φs : List Fam) : List Sl := List.zipWith (fun v φ => Sl.ob (pinF v φ)) vo φs
theorem pins_get : ∀ {vo : List V} {φs : List Fam} {i : Nat} {v : V} {φ : Fam}, vo[i]? = some v → φs[i]? = some φ → (pins vo φs)[i]? = some (.ob (pinF v φ))
  | [], _, _, _, _, h, _ => by cases h
  | _ :: _, [], _, _, _, _, h => by cases h
  | v :: vo, φ :: φs, 0, _, _, h1, h2 => by cases h1; cases h2; rfl
  | v :: vo, φ :: φs, i + 1, _, _, h1, h2 => pins_get (vo := vo) (φs := φs) h1 h2
theorem pins_len {vo : List V} {φs : List Fam} (h : vo.length = φs.length) : (pins vo φs).length = φs.length := by
  unfold pins
  rw [List.length_zipWith, h, Nat.min_self]
theorem fro_sub {H : Hp} {O : List Addr} {P P' : List (List Addr)} (h : ∀ x, x ∈ P'.flatten → x ∈ P.flatten) : Same (fro H O P) (fro H O P') := hid_le (Same.refl _) fun x m => .inl (by
  rcases List.mem_append.mp m with m | m
  · exact List.mem_append_left _ m
  · exact List.mem_append_right _ (h x m))
theorem flat_nil {α : Type} (n : Nat) : (List.replicate n ([] : List α)).flatten = [] := by simp
theorem take_flat {P : List (List Addr)} {n : Nat} : ∀ x, x ∈ (P.take n).flatten → x ∈ P.flatten := fun x m => by
  obtain ⟨l, hl, hx⟩ := List.mem_flatten.mp m
  exact List.mem_flatten.mpr ⟨l, List.mem_of_mem_take hl, hx⟩
theorem fn_obj {α β : Type} {ob : β → List Fam} {A : α → List D} {pre : α → β → Prop} {f : α → β → Ov} {g : α → β → β} {x qual : Str} {st : Stmt} {fa : Addr} {fd : FuncData} {N ps : List Str} {k : Nat} (no : Nat) (F : Fun K x qual st fa fd) (sc : FnScope N ps (defScope st)) (hob : ∀ s, (ob s).length = no) (hl : ∀ a, no + (A a).length = ps.length) (hn : ps.length ≤ N.length)
    (hb : ∀ (cdv : Value) (A0 : Around) (outer : List Env) (s : Shared) (H : Hp) (E : XK), Room k (A0.deeper (envOfC qual (defScope st) s.heap.objs.size fa cdv)) →
      ∃ t, PSs (cxOf (L2.CX P w) P w K mg base N qual (defScope st) fa cdv A0 outer s H E) (defBody st) t ∧ ∀ (a : α) (s : β) (vo : List V), vo.length = no → pre a s → SmG K E t (fun S' r => f a s = .ret r ∧ ∀ (i : Nat) (v : V) (φ : Fam), vo[i]? = some v → (ob (g a s))[i]? = some φ → S'[i]? = some (Sl.ob (pinF v φ))) (fun c => f a s = .exc c) (pins vo (ob s) ++ (A a).map Sl.sh ++ List.replicate (N.length - ps.length) Sl.no)) :
    FnOk P w K mg base (L2.CX P w) (k + 1) fa fd ps (PSpO K ob A pre f g) := by
  refine F.okX sc (fun vs H Q E h => ?_) (fun cdv A0 outer s H vs Q E hr h => ?_)
  · obtain ⟨a, s, O, vo, fps, ws, rfl, _, _, _, h, h2, _⟩ := h
    rw [List.length_append, h.length, h2.len.1, hob]
    exact hl a
  · obtain ⟨a, z, O, vo, fps, ws, rfl, hO, hfp, hdj, hv, ho, hpre, q, qx⟩ := h
    obtain ⟨t, ht, hs⟩ := hb cdv A0 outer s H E hr
    refine ⟨t, ht, ?_⟩
    have hla := hl a
    have lv : ws.length = (A a).length := hv.length
    have lo : vo.length = no := ho.len.1.trans (hob z)
    have lf : fps.length = no := ho.len.2.trans (hob z)
    have lp : (pins vo (ob z)).length = no := (pins_len (lo.trans (hob z).symm)).trans (hob z)
    have hPf : (fps ++ List.replicate (N.length - no) []).flatten = fps.flatten := by rw [List.flatten_append, flat_nil, List.append_nil]
    have hPk : ∀ (i : Nat) (l : List Addr) (x : Addr), (fps ++ List.replicate (N.length - no) [])[i]? = some l → x ∈ l → fps[i]? = some l := fun i l x h m => by
      by_cases hi : i < fps.length
      · rwa [List.getElem?_append_left hi] at h
      · rw [List.getElem?_append_right (by omega)] at h
        have := List.mem_of_getElem? h
        rw [List.mem_replicate] at this
        rw [this.2] at m
        exact absurd m (by simp)
    have fz : Same (fro H O fps) (fro H O (fps ++ List.replicate (N.length - no) [])) := fro_sub fun x m => by rwa [hPf] at m
    refine hs a z vo lo hpre O (hidL H fps.flatten) H (fps ++ List.replicate (N.length - no) []) (L2.start N (vo ++ ws)) ⟨?_, ?_, fun x m => ?_, ?_, fun i j l m x h1 h2 h3 h4 => ?_, ?_, ?_⟩ (fun c H' hx s' => qx c hx H' s') _ (fun v Hb H' P' σ' S' r r' e hv' hF => ?_)
    · unfold L2.start
      simp only [List.length_append, List.length_map, List.length_replicate, lv, lo, lp]
      omega
    · simp only [List.length_append, List.length_map, List.length_replicate, lf, lp]
      omega
    · cases y : H x with
      | none => exact absurd y (hO x m)
      | some o =>
        rw [hidL_some.mpr ⟨fun z => (hfp x z).1 m, y⟩]
        exact fun z => nomatch z
    · rw [hPf]
      exact Same.refl _
    · exact hdj i j l m x (hPk i l x h1 h3) (hPk j m x h2 h4) h3 h4
    · intro x m
      rw [hPf] at m
      exact (hfp x m).2
    · intro i sl h
      by_cases h1 : i < no
      · rw [List.getElem?_append_left (by rw [List.length_append, lp]; omega), List.getElem?_append_left (by rw [lp]; exact h1)] at h
        obtain ⟨φ, hφ⟩ : ∃ φ, (ob z)[i]? = some φ := ⟨_, List.getElem?_eq_getElem (by rw [hob]; exact h1)⟩
        obtain ⟨v, fp, e1, e2, e3⟩ := ho.get hφ
        rw [pins_get e1 hφ] at h
        cases h
        refine ⟨v, fp, ?_, by rw [List.getElem?_append_left (by omega)]; exact e2, fun H' F' k1 k2 => ⟨rfl, e3 H' F' k1 (fz.trans k2)⟩⟩
        unfold L2.start
        rw [List.getElem?_append_left (by rw [List.length_map, List.length_append]; omega), List.getElem?_map, List.getElem?_append_left (by omega), e1]
        rfl
      · by_cases h2 : i < no + (A a).length
        · rw [List.getElem?_append_left (by rw [List.length_append, lp, List.length_map]; omega), List.getElem?_append_right (by rw [lp]; omega), lp, List.getElem?_map] at h
          cases e : (A a)[i - no]? with
          | none => rw [e] at h; cases h
          | some d =>
            rw [e] at h
            cases h
            obtain ⟨v, e1, e2⟩ := hv.get' e
            refine ⟨v, ?_, e2.mono fz⟩
            unfold L2.start
            rw [List.getElem?_append_left (by rw [List.length_map, List.length_append]; omega), List.getElem?_map, List.getElem?_append_right (by omega), lo, e1]
            rfl
        · rw [List.getElem?_append_right (by rw [List.length_append, lp, List.length_map]; omega)] at h
          have hm := List.mem_of_getElem? h
          rw [List.mem_replicate] at hm
          rw [hm.2]
          have hlt := (List.getElem?_eq_some_iff.mp h).1
          rw [List.length_replicate, List.length_append, lp, List.length_map] at hlt
          show (_ : List (List Addr))[i]? = some []
          rw [List.getElem?_append_right (by rw [lf]; omega), lf, List.getElem?_replicate, if_pos (by omega)]
    · obtain ⟨hF1, hF2⟩ := hF
      have hP'l : ∀ (i : Nat) (φ : Fam), (ob (g a z))[i]? = some φ → i < no := fun i φ h => by
        have := (List.getElem?_eq_some_iff.mp h).1
        rwa [hob] at this
      have tk : ∀ (i : Nat) (l : List Addr), (P'.take no)[i]? = some l → P'[i]? = some l := fun i l h => by
        rw [List.getElem?_take] at h
        split at h
        · exact h
        · cases h
      have hNl : no ≤ P'.length := by
        rcases Nat.eq_zero_or_pos no with h | h
        · omega
        · obtain ⟨φ, hφ⟩ : ∃ φ, (ob (g a z))[no - 1]? = some φ := ⟨_, List.getElem?_eq_getElem (by rw [hob]; omega)⟩
          obtain ⟨w', hw⟩ : ∃ w', vo[no - 1]? = some w' := ⟨_, List.getElem?_eq_getElem (by omega)⟩
          have := (List.getElem?_eq_some_iff.mp (hF2 _ _ _ hw hφ)).1
          rw [r'.lenP]
          omega
      have hH : ∀ x, x ∈ P'.flatten → x ∈ fps.flatten ∨ H x = none := fun x m => by
        cases y : H x with
        | none => exact .inr rfl
        | some o =>
          refine .inl ?_
          refine Classical.byContradiction fun z => ?_
          exact (hidL_some.mp (r'.base x o (hidL_some.mpr ⟨z, y⟩))).1 m
      refine q r hF1 v Hb H' (P'.take no) r'.keep (fun x m => ⟨hH x (take_flat x m), r'.liv x (take_flat x m)⟩) (fun i j l m x h1 h2 h3 h4 => r'.inj i j l m x (tk i l h1) (tk j m h2) h3 h4) (ObAll.of (by rw [lo, hob]) (by rw [List.length_take, hob]; omega) fun i φ hφ => ?_) e ?_
      · have hi := hP'l i φ hφ
        obtain ⟨w', hw⟩ : ∃ w', vo[i]? = some w' := ⟨_, List.getElem?_eq_getElem (by omega)⟩
        obtain ⟨v', fp, e1, e2, e3⟩ := r'.at_ i _ (hF2 i w' φ hw hφ)
        have e4 := (e3 Hb (fro Hb O P') (fun _ _ => rfl) (Same.refl _)).1
        subst e4
        exact ⟨v', fp, hw, by rw [List.getElem?_take, if_pos hi]; exact e2, fun H2 F2 k1 k2 => (e3 H2 F2 k1 ((fro_sub take_flat).trans k2)).2⟩
      · cases r with
        | val d =>
          have hv2 : Rp K (fro H' O P') v d := hv'
          exact hv2.mono (fro_sub take_flat)
        | new ds =>
          obtain ⟨p, vs', z1, z2, z3, z4⟩ := hv'
          exact ⟨p, vs', z1, z2, z3, z4.mono (fro_sub fun x m => by
            rw [List.flatten_cons] at m ⊢
            rcases List.mem_append.mp m with m | m
            · exact List.mem_append_left _ m
            · exact List.mem_append_right _ (take_flat x m))⟩
end
end Dx

namespace Dx
open PySem PySem.Spec PyProof.Rows L2
section
variable {K : PySem.W.Frag} {O : List Addr} {H0 H H' : Hp} {P : List (List Addr)} {σ σ' : L2.St} {S : List Sl} {i : Nat} {d : D} {ds : List D} {v : V}
/-- as Rep.step, what slot i gives up may change: slot i gets new content; l, its own addresses, were its own before or are new; all else stands -/
theorem Rep.step2 (R : Rep K O H0 H P σ S) {l : List Addr} {sl : Sl} (hi : i < S.length) (hs : σ'.length = σ.length) (hs2 : ∀ j, j ≠ i → σ'[j]? = σ[j]?)
    (hl : ∀ a, a ∈ l → (∃ m, P[i]? = some m ∧ a ∈ m) ∨ H a = none) (hv : ∀ a, a ∈ l → H' a ≠ none) (off : ∀ a o, H a = some o → a ∉ l → (∀ m, P[i]? = some m → a ∉ m) → H' a = some o)
    (new : Same (fro H O P) (fro H' O (P.set i l)) → SlOk K H' (fro H' O (P.set i l)) (P.set i l) σ' i sl) :
    Rep K O H0 H' (P.set i l) σ' (S.set i sl) ∧ Same (fro H O P) (fro H' O (P.set i l)) := by
  have hiP : i < P.length := by rw [R.lenP]; exact hi
  have notl : ∀ a o, H a = some o → a ∉ P.flatten → a ∉ l := fun a o e n m => by
    rcases hl a m with ⟨m', q, r⟩ | q
    · exact n (mem_flat q r)
    · rw [q] at e; cases e
  have notset : ∀ a o, H a = some o → a ∉ P.flatten → a ∉ (P.set i l).flatten := fun a o e n m => by
    rcases mem_set m with q | ⟨j, m', _, q, r⟩
    · exact notl a o e n q
    · exact n (mem_flat q r)
  have other : ∀ j m a, j ≠ i → P[j]? = some m → a ∈ m → H' a = H a := fun j m a hj q r => by
    cases e : H a with
    | none => exact absurd e (R.liv a (mem_flat q r))
    | some o =>
      refine off a o e (fun z => ?_) fun m' q' hm' => hj (R.inj j i m m' a q q' r hm')
      rcases hl a z with ⟨m', q', r'⟩ | q'
      · exact hj (R.inj j i m m' a q q' r r')
      · rw [q'] at e; cases e
  have grow : Same (fro H O P) (fro H' O (P.set i l)) := fun a o e => by
    obtain ⟨e1, e2, e3⟩ := fro_some.mp e
    exact fro_some.mpr ⟨e1, notset a o e3 e2, off a o e3 (notl a o e3 e2) fun m' q' hm' => e2 (mem_flat q' hm')⟩
  refine ⟨⟨by rw [hs, R.len, List.length_set], by rw [List.length_set, List.length_set, R.lenP], R.olv, fun a o e => ?_, fun j k m m' a h1 h2 h3 h4 => ?_, fun a m => ?_, fun j sl' h => ?_⟩, grow⟩
  · obtain ⟨e1, e2⟩ := hidL_some.mp (R.base a o e)
    exact hidL_some.mpr ⟨notset a o e2 e1, off a o e2 (notl a o e2 e1) fun m' q' hm' => e1 (mem_flat q' hm')⟩
  · by_cases hj : i = j
    · by_cases hk : i = k
      · exact hj.symm.trans hk
      · subst hj
        rw [List.getElem?_set_self hiP] at h1
        cases h1
        rw [List.getElem?_set_ne hk] at h2
        rcases hl a h3 with ⟨m2, q, r⟩ | q
        · exact R.inj i k m2 m' a q h2 r h4
        · exact absurd q (R.liv a (mem_flat h2 h4))
    · rw [List.getElem?_set_ne hj] at h1
      by_cases hk : i = k
      · subst hk
        rw [List.getElem?_set_self hiP] at h2
        cases h2
        rcases hl a h4 with ⟨m2, q, r⟩ | q
        · exact R.inj j i m m2 a h1 q h3 r
        · exact absurd q (R.liv a (mem_flat h1 h3))
      · rw [List.getElem?_set_ne hk] at h2
        exact R.inj j k m m' a h1 h2 h3 h4
  · rcases mem_set m with q | ⟨j, m', hj, q, r⟩
    · exact hv a q
    · rw [other j m' a hj q r]
      exact R.liv a (mem_flat q r)
  · by_cases hj : i = j
    · subst hj
      rw [List.getElem?_set_self hi] at h
      cases h
      exact new grow
    · rw [List.getElem?_set_ne hj] at h
      exact (R.at_ j sl' h).to (hs2 j fun z => hj z.symm) (List.getElem?_set_ne hj) (fun m a q r => other j m a (fun z => hj z.symm) q r) grow

/-- a call that changes the object at slot k -/
theorem obj_call1 {α β : Type} {ob : β → List Fam} {A : α → List D} {pre : α → β → Prop} {f : α → β → Ov} {g : α → β → β} {φ φ' : Fam} {k : Nat} {ws : List V} {rr : Rv} {Q : VK} {E : XK} (a : α) (s : β) (r : Rep K O H0 H P σ S) (hk : S[k]? = some (.ob (pinF v φ))) (hv : RpAll K (fro H O P) ws (A a)) (hob : ob s = [φ]) (hob' : ob (g a s) = [φ']) (hp : pre a s) (hf : f a s = .ret rr)
    (q : ∀ u Hb H' P', Rep K O H0 Hb P' σ (S.set k (.ob (pinF v φ'))) → Same (fro H O P) (fro Hb O P') → Same Hb H' → RetF K O Hb H' P' u rr → Q u H') : PSpO K ob A pre f g (v :: ws) H Q E := by
  obtain ⟨v', fp, e, eP, hφ⟩ := r.at_ k _ hk
  have ev : v' = v := (hφ H (fro H O P) (fun _ _ => rfl) (Same.refl _)).1
  subst ev
  have hkS := set_some hk
  have hkP : k < P.length := by rw [r.lenP]; exact hkS
  have nofp : ∀ x, x ∈ fp → x ∉ (P.set k []).flatten := fun x hx m => by
    rcases mem_set m with z | ⟨j, m', hj, z, r'⟩
    · cases z
    · exact hj (r.inj j k m' fp x z eP r' hx)
  have sub : ∀ x, x ∈ (P.set k []).flatten → x ∈ P.flatten := fun x m => by
    rcases mem_set m with z | ⟨j, m', hj, z, r'⟩
    · cases z
    · exact mem_flat z r'
  have sup : ∀ x, x ∈ P.flatten → x ∈ fp ∨ x ∈ (P.set k []).flatten := fun x m => by
    obtain ⟨l, hl, hx⟩ := List.mem_flatten.mp m
    obtain ⟨j, hj⟩ := List.mem_iff_getElem?.mp hl
    by_cases z : k = j
    · subst z
      rw [eP] at hj
      cases hj
      exact .inl hx
    · exact .inr (mem_flat (by rw [List.getElem?_set_ne z]; exact hj) hx)
  have fz : Same (fro H O P) (fro H (O ++ (P.set k []).flatten) [fp]) := hid_le (Same.refl _) fun x m => .inl (by
    rw [List.flatten_cons, List.flatten_nil, List.append_nil] at m
    rcases List.mem_append.mp m with m | m
    · rcases List.mem_append.mp m with m | m
      · exact List.mem_append_left _ m
      · exact List.mem_append_right _ (sub x m)
    · exact List.mem_append_right _ (mem_flat eP m))
  refine ⟨a, s, O ++ (P.set k []).flatten, [v'], [fp], ws, rfl, fun x m => ?_, fun x m => ?_, fun i j l m x h1 h2 _ _ => ?_, hv.mono fz, ?_, hp, fun rr' hr u Hb H' fps' k1 k2 k3 k4 k5 k6 => ?_, fun c hc => ?_⟩
  · rcases List.mem_append.mp m with m | m
    · exact call_core r x (List.mem_append_left _ m)
    · exact call_core r x (List.mem_append_right _ (sub x m))
  · rw [List.flatten_cons, List.flatten_nil, List.append_nil] at m
    refine ⟨fun z => ?_, r.liv x (mem_flat eP m)⟩
    rcases List.mem_append.mp z with z | z
    · exact (r.pO (mem_flat eP m)).1 z
    · exact nofp x m z
  · match i, j, h1, h2 with
    | 0, 0, _, _ => rfl
  · rw [hob]
    exact .cons (fun H2 F2 h1 h2 => (hφ H2 F2 h1 (fz.trans h2)).2) .nil
  · rw [hf] at hr
    cases hr
    rw [hob'] at k4
    cases k4 with
    | @cons _ _ fp' _ _ _ h1 h2 =>
      cases h2
      have hfl : ([fp'] : List (List Addr)).flatten = fp' := by rw [List.flatten_cons, List.flatten_nil, List.append_nil]
      have hfl0 : ([fp] : List (List Addr)).flatten = fp := by rw [List.flatten_cons, List.flatten_nil, List.append_nil]
      rw [hfl, hfl0] at k2
      rw [hfl0] at k1
      have conv : ∀ G : Hp, Same (fro G (O ++ (P.set k []).flatten) [fp']) (fro G O (P.set k fp')) := fun G => hid_le (Same.refl _) fun x m => .inl (by
        rw [hfl]
        rcases List.mem_append.mp m with m | m
        · exact List.mem_append_left _ (List.mem_append_left _ m)
        · rcases mem_set m with z | ⟨j, m', hj, z, r'⟩
          · exact List.mem_append_right _ z
          · exact List.mem_append_left _ (List.mem_append_right _ (mem_flat (by rw [List.getElem?_set_ne (Ne.symm hj)]; exact z) r')))
      obtain ⟨R2, g2⟩ := r.step2 (i := k) (l := fp') (sl := .ob (pinF v' φ')) (σ' := σ) (H' := Hb) hkS rfl (fun _ _ => rfl) (fun x m => ((k2 x m).1).imp (fun z => ⟨fp, eP, z⟩) id) (fun x m => (k2 x m).2) (fun x o y n n2 => k1 x o (hidL_some.mpr ⟨n2 fp eP, y⟩))
        (fun gg => ⟨v', fp', e, List.getElem?_set_self hkP, fun H2 F2 z1 z2 => ⟨rfl, h1 H2 F2 z1 ((conv Hb).trans z2)⟩⟩)
      refine q u Hb H' _ R2 g2 k5 ?_
      cases rr with
      | val d =>
        have k7 : Rp K (fro H' (O ++ (P.set k []).flatten) [fp']) u d := k6
        exact k7.mono (conv H')
      | new ds =>
        obtain ⟨p, us, z1, z2, z3, z4⟩ := k6
        refine ⟨p, us, z1, z2, z3, z4.mono (hid_le (Same.refl _) fun x m => .inl ?_)⟩
        rw [List.flatten_cons] at m ⊢
        rw [hfl]
        rcases List.mem_append.mp m with m | m
        · exact List.mem_append_left _ (List.mem_append_left _ m)
        · rcases List.mem_append.mp m with m | m
          · exact List.mem_append_right _ (List.mem_append_left _ m)
          · rcases mem_set m with z | ⟨j, m', hj, z, r'⟩
            · exact List.mem_append_right _ (List.mem_append_right _ z)
            · exact List.mem_append_left _ (List.mem_append_right _ (mem_flat (by rw [List.getElem?_set_ne (Ne.symm hj)]; exact z) r'))
  · rw [hf] at hc
    cases hc
/-! ## the counter -/
abbrev tri3 := List (Int × Int × Int)
abbrev dLtri (xs : tri3) : D := .lst (xs.map triD)
def ctr (C : Addr) (s : List Int × List tri3) : Fam := fun K H F v fp => ∃ x dx pd vr vs, v = .ref x ∧ fp = [x, dx, pd] ∧ H x = some (.ins C dx [("row", vr), ("deeds", .ref pd)]) ∧ H dx ≠ none ∧ H pd = some (.lst vs) ∧ RpAll K F vs (s.2.map dLtri) ∧ Rp K F vr (lstI s.1)
theorem ctr_mono {C : Addr} {s : List Int × List tri3} {F F' : Hp} {v : V} {fp : List Addr} (h : ctr C s K H F v fp) (h1 : ∀ a, a ∈ fp → H' a = H a) (h2 : Same F F') : ctr C s K H' F' v fp := by
  obtain ⟨x, dx, pd, vr, vs, rfl, rfl, e1, e2, e3, e4, e5⟩ := h
  exact ⟨x, dx, pd, vr, vs, rfl, rfl, by rw [h1 x (by simp)]; exact e1, by rw [h1 dx (by simp)]; exact e2, by rw [h1 pd (by simp)]; exact e3, e4.mono h2, e5.mono h2⟩
variable {C : Addr} {s : List Int × List tri3} {k : Nat} {te : TE} {N : List Sl → Prop} {R : Rv → Prop}
theorem ctr_at (r : Rep K O H0 H P σ S) (hk : S[k]? = some (.ob (pinF v (ctr C s)))) : ∃ x dx pd vr vs, v = .ref x ∧ σ[k]? = some (some (.ref x)) ∧ P[k]? = some [x, dx, pd] ∧ H x = some (.ins C dx [("row", vr), ("deeds", .ref pd)]) ∧ H dx ≠ none ∧ H pd = some (.lst vs) ∧ RpAll K (fro H O P) vs (s.2.map dLtri) ∧ Rp K (fro H O P) vr (lstI s.1) := by
  obtain ⟨v', fp, e, eP, hφ⟩ := r.at_ k _ hk
  obtain ⟨ev, x, dx, pd, vr, vs, e1, rfl, h⟩ := hφ H (fro H O P) (fun _ _ => rfl) (Same.refl _)
  subst ev
  subst e1
  exact ⟨x, dx, pd, vr, vs, rfl, e, eP, h⟩
theorem evd_row (c : Cls K C) (n : NoAttr K C "row") (hk : S[k]? = some (.ob (pinF v (ctr C s)))) : EvD K (tFld K (tVar k) "row") S (lstI s.1) := fun O H0 H P σ r Q q => by
  obtain ⟨x, dx, pd, vr, vs, rfl, e, eP, h1, h2, h3, h4, h5⟩ := ctr_at r hk
  exact ⟨_, e, x, C, dx, _, vr, rfl, h1, c, n, rfl, q vr H (Same.refl H) h5⟩
theorem evl_deeds (c : Cls K C) (n : NoAttr K C "deeds") (hk : S[k]? = some (.ob (pinF v (ctr C s)))) : EvL K (tFld K (tVar k) "deeds") S (s.2.map dLtri) := fun O H0 H P σ r Q q => by
  obtain ⟨x, dx, pd, vr, vs, rfl, e, eP, h1, h2, h3, h4, h5⟩ := ctr_at r hk
  exact ⟨_, e, x, C, dx, _, .ref pd, rfl, h1, c, n, rfl, q pd vs H (Same.refl H) (.of h3) h4⟩
theorem evf_deeds (c : Cls K C) (n : NoAttr K C "deeds") (hk : S[k]? = some (.ob (pinF v (ctr C s)))) : EvF K (tFld K (tVar k) "deeds") S (.lst (s.2.map dLtri)) := fun O H0 H P σ r Q q => by
  obtain ⟨x, dx, pd, vr, vs, rfl, e, eP, h1, h2, h3, h4, h5⟩ := ctr_at r hk
  exact ⟨_, e, x, C, dx, _, .ref pd, rfl, h1, c, n, rfl, q _ H (Same.refl H) (.lst h3 (h4.mono fro_le))⟩
theorem evd_many (c : Cls K C) (n : NoAttr K C "deeds") (hk : S[k]? = some (.ob (pinF v (ctr C s)))) : EvD K (tCB (rLenA K) (tCons (tFld K (tVar k) "deeds") tNil)) S (.int s.2.length) := by
  have := evd_len (evl_deeds c n hk)
  rwa [List.length_map] at this
theorem sem_setRow {r' : List Int} {tv : TE} (c : Cls K C) (n : NoAttr K C "row") (hk : S[k]? = some (.ob (pinF v (ctr C s)))) (h : EvD K tv S (lstI r')) (q : N (S.set k (.ob (pinF v (ctr C (r', s.2)))))) : Sm K (sFld K (tVar k) tv "row") N R S := fun O H0 H P σ r De kn kr => by
  refine h O H0 H P σ r _ fun y H1 e1 r1 => ?_
  have R1 := r.ext e1
  obtain ⟨x, dx, pd, vr, vs, rfl, e, eP, h1, h2, h3, h4, h5⟩ := ctr_at R1 hk
  have hkS := set_some hk
  have hxd : dx ≠ x ∨ dx = x := by by_cases z : dx = x; exact .inr z; exact .inl z
  obtain ⟨R2, g2⟩ := R1.step (l := [x, dx, pd]) (sl := .ob (pinF (.ref x) (ctr C (r', s.2)))) (σ' := σ) (H' := upd H1 x (.ins C dx [("row", y), ("deeds", .ref pd)])) hkS rfl (fun _ _ => rfl) (fun a m => .inl ⟨_, eP, m⟩)
    (fun a m => by
      by_cases z : a = x
      · rw [z, upd_same]; exact fun w => nomatch w
      · rw [upd_ne z]; exact R1.liv a (mem_flat eP m))
    (fun a o w n => by rw [upd_ne (fun z => n (by rw [z]; simp))]; exact w)
    (fun g => ⟨_, [x, dx, pd], e, List.getElem?_set_self (by rw [R1.lenP]; exact hkS), fun H' F' k1 k2 => ⟨rfl, ctr_mono (H := upd H1 x (.ins C dx [("row", y), ("deeds", .ref pd)])) (F := fro (upd H1 x (.ins C dx [("row", y), ("deeds", .ref pd)])) O (P.set k [x, dx, pd])) ⟨x, dx, pd, y, vs, rfl, rfl, upd_same, (by
        by_cases z : dx = x
        · rw [z, upd_same]; exact fun w => nomatch w
        · rw [upd_ne z]; exact h2), (by
        have z : pd ≠ x := fun z => by rw [z, h1] at h3; cases h3
        rw [upd_ne z]; exact h3), h4.mono g, r1.mono g⟩ k1 k2⟩⟩)
  exact ⟨_, e, x, C, dx, _, rfl, h1, c, n, by show 2 < 1000; decide, kn _ _ _ _ R2 ((fro_same e1).trans g2) q⟩
theorem sem_appDeed {x : tri3} (c : Cls K C) (n : NoAttr K C "deeds") (hk : S[k]? = some (.ob (pinF v (ctr C s)))) (h : EvD K te S (dLtri x)) (hz : s.2.length < sizeLine) (q : N (S.set k (.ob (pinF v (ctr C (s.1, s.2 ++ [x])))))) : Sm K (tDrop (tBM K "list" rAppend (tFld K (tVar k) "deeds") (tCons te tNil))) N R S := fun O H0 H P σ r De kn kr => by
  obtain ⟨x', dx, pd, vr, vs, rfl, e, eP, h1, h2, h3, h4, h5⟩ := ctr_at r hk
  refine ⟨_, e, x', C, dx, _, .ref pd, rfl, h1, c, n, rfl, .inl ⟨rfl, _, .of h3⟩, h O H0 H P σ r _ fun y H1 e1 r1 => ?_⟩
  have R1 := r.ext e1
  have hkS := set_some hk
  have h1' := e1 _ _ h1
  have h3' := e1 _ _ h3
  have hpx : x' ≠ pd := fun z => by rw [z, h3] at h1; cases h1
  obtain ⟨R2, g2⟩ := R1.step (l := [x', dx, pd]) (sl := .ob (pinF (.ref x') (ctr C (s.1, s.2 ++ [x])))) (σ' := σ) (H' := upd H1 pd (.lst (vs ++ [y]))) hkS rfl (fun _ _ => rfl) (fun a m => .inl ⟨_, eP, m⟩)
    (fun a m => by
      by_cases z : a = pd
      · rw [z, upd_same]; exact fun w => nomatch w
      · rw [upd_ne z]; exact R1.liv a (mem_flat eP m))
    (fun a o w n => by rw [upd_ne (fun z => n (by rw [z]; simp))]; exact w)
    (fun g => ⟨_, [x', dx, pd], e, List.getElem?_set_self (by rw [R1.lenP]; exact hkS), fun H' F' k1 k2 => ⟨rfl, ctr_mono (H := upd H1 pd (.lst (vs ++ [y]))) (F := fro (upd H1 pd (.lst (vs ++ [y]))) O (P.set k [x', dx, pd])) ⟨x', dx, pd, vr, vs ++ [y], rfl, rfl, (by rw [upd_ne hpx]; exact h1'), (by
        by_cases z : dx = pd
        · rw [z, upd_same]; exact fun w => nomatch w
        · rw [upd_ne z]
          cases w : H dx with
          | none => exact absurd w h2
          | some o => rw [e1 _ _ w]; exact fun w => nomatch w), upd_same, (by
        rw [List.map_append]
        exact ((h4.mono (fro_same e1)).append (.cons r1 .nil)).mono g), (h5.mono (fro_same e1)).mono g⟩ k1 k2⟩⟩)
  exact ⟨pd, vs, y, rfl, rfl, h3', by rw [h4.length, List.length_map]; exact hz, kn _ _ _ _ R2 ((fro_same e1).trans g2) q⟩
/-- x = f(self.deeds.pop()) -/
theorem sem_asgPop {i : Nat} {A : tri3 → List D} {pre : tri3 → Prop} {f : tri3 → Rv} {E : XK} {rs : List D} {x : tri3} {xs : List tri3} (c : Cls K C) (n : NoAttr K C "deeds") (hk : S[k]? = some (.ob (pinF v (ctr C s)))) (hs : s.2 = xs ++ [x]) (hA : A x = [dLtri x]) (hp : pre x) (hf : f x = .new rs) (hi : i < S.length)
    (q : N ((S.set k (.ob (pinF v (ctr C (s.1, xs))))).set i (.ow rs))) : Sm K (tAsg (tCall (PSp K A pre f) [] E (tCons (tBM0 K "list" rPop (tFld K (tVar k) "deeds")) tNil)) (gName i)) N R S := fun O H0 H P σ r De kn kr => by
  obtain ⟨x', dx, pd, vr, vs, rfl, e, eP, h1, h2, h3, h4, h5⟩ := ctr_at r hk
  have hkS := set_some hk
  have hpx : x' ≠ pd := fun z => by rw [z, h3] at h1; cases h1
  rw [hs, List.map_append, List.map_cons, List.map_nil] at h4
  have hl := h4.length
  rw [List.length_append, List.length_singleton, List.length_map] at hl
  obtain ⟨y, hy⟩ : ∃ y, vs[vs.length - 1]? = some y := ⟨_, List.getElem?_eq_getElem (by omega)⟩
  obtain ⟨d, hd1, hd2⟩ := h4.get hy
  rw [hl, List.getElem?_append_right (by rw [List.length_map]; omega), List.length_map] at hd1
  rw [show xs.length + 1 - 1 - xs.length = 0 by omega] at hd1
  cases hd1
  have h4' := h4.dropLast
  rw [List.dropLast_concat] at h4'
  obtain ⟨R2, g2⟩ := r.step (l := [x', dx, pd]) (sl := .ob (pinF (.ref x') (ctr C (s.1, xs)))) (σ' := σ) (H' := upd H pd (.lst vs.dropLast)) hkS rfl (fun _ _ => rfl) (fun a m => .inl ⟨_, eP, m⟩)
    (fun a m => by
      by_cases z : a = pd
      · rw [z, upd_same]; exact fun w => nomatch w
      · rw [upd_ne z]; exact r.liv a (mem_flat eP m))
    (fun a o w n => by rw [upd_ne (fun z => n (by rw [z]; simp))]; exact w)
    (fun g => ⟨_, [x', dx, pd], e, List.getElem?_set_self (by rw [r.lenP]; exact hkS), fun H' F' k1 k2 => ⟨rfl, ctr_mono (H := upd H pd (.lst vs.dropLast)) (F := fro (upd H pd (.lst vs.dropLast)) O (P.set k [x', dx, pd])) ⟨x', dx, pd, vr, vs.dropLast, rfl, rfl, (by rw [upd_ne hpx]; exact h1), (by
        by_cases z : dx = pd
        · rw [z, upd_same]; exact fun w => nomatch w
        · rw [upd_ne z]; exact h2), upd_same, h4'.mono g, h5.mono g⟩ k1 k2⟩⟩)
  refine ⟨_, e, x', C, dx, _, .ref pd, rfl, h1, c, n, rfl, .inl ⟨rfl, _, .of h3⟩, pd, vs, y, rfl, rfl, h3, hy, ?_⟩
  refine ⟨x, O ++ (P.set k [x', dx, pd]).flatten, call_core R2, by rw [hA]; exact .cons (hd2.mono g2) .nil, hp, fun u H2 hr => ?_⟩
  rw [hf] at hr
  obtain ⟨e2, p, us, rfl, hn2, hp2, r3⟩ := hr
  obtain ⟨R3, g3⟩ := R2.setNew (i := i) (by rw [List.length_set]; exact hi) e2 hn2 hp2 (r3.mono (hid_le (Same.refl _) fun a m => .inl (by
    rcases List.mem_append.mp m with m | m
    · exact List.mem_cons_of_mem _ (List.mem_append_left _ m)
    · rw [List.flatten_cons] at m
      rcases List.mem_append.mp m with m | m
      · rw [List.mem_singleton.mp m]; exact List.mem_cons_self
      · exact List.mem_cons_of_mem _ (List.mem_append_right _ m))))
  exact kn H2 _ _ _ R3 (g2.trans g3) q
/-! calls of the counter's methods -/
variable {α : Type} {A : α → List D} {pre : α → List Int × List tri3 → Prop} {f : α → List Int × List tri3 → Ov} {g : α → List Int × List tri3 → List Int × List tri3} {m : Str} {ta : TA} {E : XK}
abbrev ctrs (C : Addr) : List Int × List tri3 → List Fam := fun s => [ctr C s]
theorem meth_call {Q : VK} (a : α) (hm : ∀ x y : V, List.lookup m [(("row" : Str), x), (("deeds" : Str), y)] = none) (r : Rep K O H0 H P σ S) (hk : S[k]? = some (.ob (pinF v (ctr C s)))) (ha : EvA K ta S (A a)) (hp : pre a s) {rr : Rv} (hf : f a s = .ret rr)
    (q : ∀ u Hb H' P', Rep K O H0 Hb P' σ (S.set k (.ob (pinF v (ctr C (g a s))))) → Same (fro H O P) (fro Hb O P') → Same Hb H' → RetF K O Hb H' P' u rr → Q u H') : tMeth C m (PSpO K (ctrs C) A pre f g) [] E (tVar k) ta σ H Q := by
  obtain ⟨x, dx, pd, vr, vs, rfl, e, eP, h1, h2, h3, h4, h5⟩ := ctr_at r hk
  refine ⟨_, e, x, dx, _, rfl, h1, hm _ _, ha O H0 H P σ r _ fun ws H1 e1 r1 => ?_⟩
  rw [List.append_nil]
  exact obj_call1 a s (r.ext e1) hk r1 rfl rfl hp hf fun u Hb H' P' R2 g2 e2 hr => q u Hb H' P' R2 ((fro_same e1).trans g2) e2 hr
theorem sem_asgMeth {i : Nat} {rs : List D} (a : α) (hk : S[k]? = some (.ob (pinF v (ctr C s)))) (hm : ∀ x y : V, List.lookup m [(("row" : Str), x), (("deeds" : Str), y)] = none) (ha : EvA K ta S (A a)) (hp : pre a s) (hf : f a s = .ret (.new rs)) (hi : i < S.length)
    (q : N ((S.set k (.ob (pinF v (ctr C (g a s))))).set i (.ow rs))) : Sm K (tAsg (tMeth C m (PSpO K (ctrs C) A pre f g) [] E (tVar k) ta) (gName i)) N R S := fun O H0 H P σ r De kn kr =>
  meth_call a hm r hk ha hp hf fun u Hb H' P' R2 g2 e2 hr => by
    obtain ⟨p, vs, rfl, h1, h2, h3⟩ := hr
    obtain ⟨R3, g3⟩ := R2.setNew (i := i) (by rw [List.length_set]; exact hi) e2 h1 h2 h3
    exact kn H' _ _ _ R3 (g2.trans g3) q
theorem sem_asgMethV {i : Nat} {d : D} (a : α) (hk : S[k]? = some (.ob (pinF v (ctr C s)))) (hm : ∀ x y : V, List.lookup m [(("row" : Str), x), (("deeds" : Str), y)] = none) (ha : EvA K ta S (A a)) (hp : pre a s) (hf : f a s = .ret (.val d)) (hi : i < S.length)
    (q : N ((S.set k (.ob (pinF v (ctr C (g a s))))).set i (.sh d))) : Sm K (tAsg (tMeth C m (PSpO K (ctrs C) A pre f g) [] E (tVar k) ta) (gName i)) N R S := fun O H0 H P σ r De kn kr =>
  meth_call a hm r hk ha hp hf fun u Hb H' P' R2 g2 e2 hr => by
    have hr' : Rp K (fro H' O P') u d := hr
    obtain ⟨R3, g3⟩ := (R2.ext e2).setSh (i := i) (by rw [List.length_set]; exact hi) hr'
    exact kn H' _ _ _ R3 ((g2.trans (fro_same e2)).trans g3) q
theorem smg_retMeth {F : List Sl → Rv → Prop} {X : Value → Prop} {E' : XK} {rr : Rv} (a : α) (hk : S[k]? = some (.ob (pinF v (ctr C s)))) (hm : ∀ x y : V, List.lookup m [(("row" : Str), x), (("deeds" : Str), y)] = none) (ha : EvA K ta S (A a)) (hp : pre a s) (hf : f a s = .ret rr)
    (q : F (S.set k (.ob (pinF v (ctr C (g a s))))) rr) : SmG K E' (tRet (tMeth C m (PSpO K (ctrs C) A pre f g) [] E (tVar k) ta)) F X S := fun O H0 H P σ r _ De kr =>
  meth_call a hm r hk ha hp hf fun u Hb H' P' R2 g2 e2 hr => kr u Hb H' P' σ _ rr R2 e2 hr q
end
end Dx

namespace Dx
open PySem PySem.Spec PyProof.Rows L2
/-! ## a method call that may raise, in a try -/
section
variable {X : Cx} {CX : CXT} {k : Nat} {f C : Addr} {fd : FuncData} {ps : List Str} {sp : Sp} {E : L2.St → XK} {m : Str} {pos apos : Pos} {o : Expr} {ta : TE}
def tMeth0S (C : Addr) (m : Str) (sp : Sp) (E : L2.St → XK) (ta : TE) : TE := fun σ H Q => ta σ H fun x H1 => ∃ a dx fs, x = .ref a ∧ H1 a = some (.ins C dx fs) ∧ fs.lookup m = none ∧ sp [x] H1 Q (E σ)
/-- o.m() -/
theorem pe_meth0S {pl : Sem Bool} (he : PE X o ta) (c : Cls X.K C) (hm : Meth X.K C m f) (F : FnOk X.prog X.w X.K X.mg X.base CX k f fd ps sp) (hr : Room k X.A) (hb : Binds X.K fd ps []) (hx : ∀ σ, PassesAt CX X σ (E σ))
    (ht : eval (.Call (.Attribute o m apos) [] [] pos) X.env = (do
      let ov ← eval o X.env
      standAt apos.atName
      let (f, first) ← holding [ov] (getMethod ov m pl)
      callWith pos f first (backTo pos (starEach [] X.env)) (backToKw pos (keywordEach [] X.env))) := by rfl) :
    PE X (.Call (.Attribute o m apos) [] [] pos) (tMeth0S C m sp E ta) := by
  refine ⟨fun pins s σ H Q I h => ?_⟩
  refine PySem.W.methodCall_KW (pl := pl) (thn (he.run pins s σ H _ I h) fun u s1 ⟨x, H1, I1, rx, a, dx, fs, ex, ea, l, q⟩ => ?_) ht
  subst ex
  obtain rfl : u = Value.ref a := rx
  refine getmeth_ok I1 ea c hm l ?_
  exact PySem.W.callWith_K0 (first := [.ref a]) I1.kIn hm.kp (run_fnS (us := [.ref a]) (vs := [.ref a]) F hr hb (hx σ) I1 (.cons rfl .nil) q)
end
/-! ## a list of own lists -/
def nest (qs : List (List D)) : Fam := fun K H F v fp => ∃ pk ps, v = .ref pk ∧ fp = pk :: ps ∧ H pk = some (.lst (ps.map V.ref)) ∧ ps.length = qs.length ∧ ps.Nodup ∧ pk ∉ ps ∧ ∀ (j : Nat) (p : Addr) (q : List D), ps[j]? = some p → qs[j]? = some q → ∃ vs, H p = some (.lst vs) ∧ RpAll K F vs q
section
variable {K : PySem.W.Frag} {O : List Addr} {H0 H H' : Hp} {P : List (List Addr)} {σ σ' : L2.St} {S : List Sl} {i k j : Nat} {d : D} {ds q : List D} {v : V} {qs : List (List D)} {te : TE} {N : List Sl → Prop} {R : Rv → Prop}
theorem nest_mono {F F' : Hp} {fp : List Addr} (h : nest qs K H F v fp) (h1 : ∀ a, a ∈ fp → H' a = H a) (h2 : Same F F') : nest qs K H' F' v fp := by
  obtain ⟨pk, ps, rfl, rfl, e1, e2, e3, e4, e5⟩ := h
  refine ⟨pk, ps, rfl, rfl, by rw [h1 pk List.mem_cons_self]; exact e1, e2, e3, e4, fun j p q a b => ?_⟩
  obtain ⟨vs, z1, z2⟩ := e5 j p q a b
  exact ⟨vs, by rw [h1 p (List.mem_cons_of_mem _ (List.mem_of_getElem? a))]; exact z1, z2.mono h2⟩
theorem nest_at (r : Rep K O H0 H P σ S) (hk : S[k]? = some (.ob (pinF v (nest qs)))) : ∃ pk ps, v = .ref pk ∧ σ[k]? = some (some (.ref pk)) ∧ P[k]? = some (pk :: ps) ∧ H pk = some (.lst (ps.map V.ref)) ∧ ps.length = qs.length ∧ ps.Nodup ∧ pk ∉ ps ∧ ∀ (j : Nat) (p : Addr) (q : List D), ps[j]? = some p → qs[j]? = some q → ∃ vs, H p = some (.lst vs) ∧ RpAll K (fro H O P) vs q := by
  obtain ⟨v', fp, e, eP, hφ⟩ := r.at_ k _ hk
  obtain ⟨ev, pk, ps, e1, rfl, h⟩ := hφ H (fro H O P) (fun _ _ => rfl) (Same.refl _)
  subst ev
  subst e1
  exact ⟨pk, ps, rfl, e, eP, h⟩
theorem evl_nest (hk : S[k]? = some (.ob (pinF v (nest qs)))) (hj : qs[j]? = some q) : EvL K (tOp (rIxL K) (tVar k) (tC (.int (j : Int)))) S q := fun O H0 H P σ r Q z => by
  obtain ⟨pk, ps, rfl, e, eP, h1, h2, h3, h4, h5⟩ := nest_at r hk
  have hjl : j < ps.length := by rw [h2]; exact set_some hj
  obtain ⟨vs, w1, w2⟩ := h5 j ps[j] q (List.getElem?_eq_getElem hjl) hj
  exact ⟨_, e, pk, ps.map V.ref, (j : Int), .ref ps[j], rfl, rfl, .of h1, atI_nat (by rw [List.getElem?_map, List.getElem?_eq_getElem hjl]; rfl), z _ vs H (Same.refl H) (.of w1) w2⟩
theorem evf_nest (hk : S[k]? = some (.ob (pinF v (nest qs)))) (hj : qs[j]? = some q) : EvF K (tOp (rIxL K) (tVar k) (tC (.int (j : Int)))) S (.lst q) := fun O H0 H P σ r Q z => by
  obtain ⟨pk, ps, rfl, e, eP, h1, h2, h3, h4, h5⟩ := nest_at r hk
  have hjl : j < ps.length := by rw [h2]; exact set_some hj
  obtain ⟨vs, w1, w2⟩ := h5 j ps[j] q (List.getElem?_eq_getElem hjl) hj
  exact ⟨_, e, pk, ps.map V.ref, (j : Int), .ref ps[j], rfl, rfl, .of h1, atI_nat (by rw [List.getElem?_map, List.getElem?_eq_getElem hjl]; rfl), z _ H (Same.refl H) (.lst w1 (w2.mono fro_le))⟩
/-- the inner list at j gets new content -/
theorem nest_write {p : Addr} {q' : List D} {vs' : List V} (r : Rep K O H0 H P σ S) (hk : S[k]? = some (.ob (pinF v (nest qs)))) {pk : Addr} {ps : List Addr} (ev : v = .ref pk) (e : σ[k]? = some (some (.ref pk))) (eP : P[k]? = some (pk :: ps)) (h1 : H pk = some (.lst (ps.map V.ref))) (h2 : ps.length = qs.length) (h3 : ps.Nodup) (h4 : pk ∉ ps)
    (h5 : ∀ (j : Nat) (p : Addr) (q : List D), ps[j]? = some p → qs[j]? = some q → ∃ vs, H p = some (.lst vs) ∧ RpAll K (fro H O P) vs q) (hp : ps[j]? = some p) (hv : RpAll K (fro H O P) vs' q') :
    Rep K O H0 (upd H p (.lst vs')) (P.set k (pk :: ps)) σ (S.set k (.ob (pinF v (nest (qs.set j q'))))) ∧ Same (fro H O P) (fro (upd H p (.lst vs')) O (P.set k (pk :: ps))) := by
  subst ev
  have hkS := set_some hk
  have hpm : p ∈ ps := List.mem_of_getElem? hp
  have hjl := set_some hp
  exact r.step (l := pk :: ps) (sl := .ob (pinF (.ref pk) (nest (qs.set j q')))) (σ' := σ) (H' := upd H p (.lst vs')) hkS rfl (fun _ _ => rfl) (fun a m => .inl ⟨_, eP, m⟩)
    (fun a m => by
      by_cases z : a = p
      · rw [z, upd_same]; exact fun w => nomatch w
      · rw [upd_ne z]; exact r.liv a (mem_flat eP m))
    (fun a o w n => by rw [upd_ne (fun z => n (by rw [z]; exact List.mem_cons_of_mem _ hpm))]; exact w)
    (fun g => ⟨_, pk :: ps, e, List.getElem?_set_self (by rw [r.lenP]; exact hkS), fun H2 F2 k1 k2 => ⟨rfl, nest_mono (H := upd H p (.lst vs')) (F := fro (upd H p (.lst vs')) O (P.set k (pk :: ps))) ⟨pk, ps, rfl, rfl, (by rw [upd_ne (fun z => h4 (by rw [z]; exact hpm))]; exact h1), (by rw [List.length_set]; exact h2), h3, h4, fun i p' q hp' hq => by
      by_cases z : j = i
      · subst z
        rw [hp] at hp'
        cases hp'
        rw [List.getElem?_set_self (by rw [← h2]; exact hjl)] at hq
        cases hq
        exact ⟨vs', upd_same, hv.mono g⟩
      · rw [List.getElem?_set_ne z] at hq
        obtain ⟨vs, w1, w2⟩ := h5 i p' q hp' hq
        have hne : p' ≠ p := fun y => by
          subst y
          have hil := set_some hp'
          have y1 := (List.getElem?_eq_some_iff.mp hp).2
          have y2 := (List.getElem?_eq_some_iff.mp hp').2
          exact z ((List.getElem_inj h3).mp (y1.trans y2.symm))
        exact ⟨vs, by rw [upd_ne hne]; exact w1, w2.mono g⟩⟩ k1 k2⟩⟩)
theorem sem_appNest (hk : S[k]? = some (.ob (pinF v (nest qs)))) (hj : qs[j]? = some q) (h : EvD K te S d) (hz : q.length < sizeLine) (w : N (S.set k (.ob (pinF v (nest (qs.set j (q ++ [d]))))))) : Sm K (tDrop (tBM K "list" rAppend (tOp (rIxL K) (tVar k) (tC (.int (j : Int)))) (tCons te tNil))) N R S := fun O H0 H P σ r De kn kr => by
  obtain ⟨pk, ps, ev, e, eP, h1, h2, h3, h4, h5⟩ := nest_at r hk
  have hjl : j < ps.length := by rw [h2]; exact set_some hj
  have hp : ps[j]? = some ps[j] := List.getElem?_eq_getElem hjl
  obtain ⟨vs, w1, w2⟩ := h5 j ps[j] q hp hj
  refine ⟨_, e, pk, ps.map V.ref, (j : Int), .ref ps[j], rfl, rfl, .of h1, atI_nat (by rw [List.getElem?_map, hp]; rfl), .inl ⟨rfl, _, .of w1⟩, h O H0 H P σ r _ fun y H1 e1 r1 => ?_⟩
  obtain ⟨R2, g2⟩ := nest_write (q' := q ++ [d]) (vs' := vs ++ [y]) (r.ext e1) hk ev e eP (e1 _ _ h1) h2 h3 h4 (fun j p q a b => by
    obtain ⟨vs, z1, z2⟩ := h5 j p q a b
    exact ⟨vs, e1 _ _ z1, z2.mono (fro_same e1)⟩) hp ((w2.mono (fro_same e1)).append (.cons r1 .nil))
  exact ⟨ps[j], vs, y, rfl, rfl, e1 _ _ w1, by rw [w2.length]; exact hz, kn _ _ _ _ R2 ((fro_same e1).trans g2) w⟩
theorem sem_popNest {q0 : List D} (hk : S[k]? = some (.ob (pinF v (nest qs)))) (hj : qs[j]? = some (q0 ++ [d])) (w : N (S.set k (.ob (pinF v (nest (qs.set j q0)))))) : Sm K (tDrop (tBM0 K "list" rPop (tOp (rIxL K) (tVar k) (tC (.int (j : Int)))))) N R S := fun O H0 H P σ r De kn kr => by
  obtain ⟨pk, ps, ev, e, eP, h1, h2, h3, h4, h5⟩ := nest_at r hk
  have hjl : j < ps.length := by rw [h2]; exact set_some hj
  have hp : ps[j]? = some ps[j] := List.getElem?_eq_getElem hjl
  obtain ⟨vs, w1, w2⟩ := h5 j ps[j] _ hp hj
  have hl := w2.length
  rw [List.length_append, List.length_singleton] at hl
  obtain ⟨y, hy⟩ : ∃ y, vs[vs.length - 1]? = some y := ⟨_, List.getElem?_eq_getElem (by omega)⟩
  have w3 := w2.dropLast
  rw [List.dropLast_concat] at w3
  obtain ⟨R2, g2⟩ := nest_write (q' := q0) (vs' := vs.dropLast) r hk ev e eP h1 h2 h3 h4 h5 hp w3
  exact ⟨_, e, pk, ps.map V.ref, (j : Int), .ref ps[j], rfl, rfl, .of h1, atI_nat (by rw [List.getElem?_map, hp]; rfl), .inl ⟨rfl, _, .of w1⟩, ps[j], vs, y, rfl, rfl, w1, hy, kn _ _ _ _ R2 g2 w⟩
end
/-- many slots at once -/
theorem Rep.stepL {K : PySem.W.Frag} {O : List Addr} {H0 H H' : Hp} {P P' : List (List Addr)} {σ σ' : L2.St} {S S' : List Sl} (R : Rep K O H0 H P σ S) (hP : P'.length = P.length) (hS : S'.length = S.length) (hs : σ'.length = σ.length)
    (hl : ∀ a, a ∈ P'.flatten → a ∈ P.flatten ∨ H a = none) (hd : Disj P') (hv : ∀ a, a ∈ P'.flatten → H' a ≠ none) (off : ∀ a o, H a = some o → a ∉ P.flatten → H' a = some o)
    (hat : Same (fro H O P) (fro H' O P') → ∀ i sl, S'[i]? = some sl → SlOk K H' (fro H' O P') P' σ' i sl) : Rep K O H0 H' P' σ' S' ∧ Same (fro H O P) (fro H' O P') := by
  have notset : ∀ a o, H a = some o → a ∉ P.flatten → a ∉ P'.flatten := fun a o e n m => by
    rcases hl a m with q | q
    · exact n q
    · rw [q] at e; cases e
  have grow : Same (fro H O P) (fro H' O P') := fun a o e => by
    obtain ⟨e1, e2, e3⟩ := fro_some.mp e
    exact fro_some.mpr ⟨e1, notset a o e3 e2, off a o e3 e2⟩
  refine ⟨⟨by rw [hs, R.len, hS], by rw [hP, hS, R.lenP], R.olv, fun a o e => ?_, hd, hv, hat grow⟩, grow⟩
  obtain ⟨e1, e2⟩ := hidL_some.mp (R.base a o e)
  exact hidL_some.mpr ⟨notset a o e2 e1, off a o e2 e1⟩
/-- a call that changes the objects at slots k1, k2 -/
theorem obj_call2 {K : PySem.W.Frag} {O : List Addr} {H0 H : Hp} {P : List (List Addr)} {σ : L2.St} {S : List Sl} {α β : Type} {ob : β → List Fam} {A : α → List D} {pre : α → β → Prop} {f : α → β → Ov} {g : α → β → β} {φ1 φ2 φ1' φ2' : Fam} {k1 k2 : Nat} {v1 v2 : V} {ws : List V} {rr : Rv} {Q : VK} {E : XK} (a : α) (s : β) (r : Rep K O H0 H P σ S) (hk1 : S[k1]? = some (.ob (pinF v1 φ1))) (hk2 : S[k2]? = some (.ob (pinF v2 φ2))) (hne : k1 ≠ k2) (hv : RpAll K (fro H O P) ws (A a)) (hob : ob s = [φ1, φ2]) (hob' : ob (g a s) = [φ1', φ2']) (hp : pre a s) (hf : f a s = .ret rr)
    (q : ∀ u Hb H' P', Rep K O H0 Hb P' σ ((S.set k1 (.ob (pinF v1 φ1'))).set k2 (.ob (pinF v2 φ2'))) → Same (fro H O P) (fro Hb O P') → Same Hb H' → RetF K O Hb H' P' u rr → Q u H') : PSpO K ob A pre f g (v1 :: v2 :: ws) H Q E := by
  obtain ⟨w1, fp1, e1, eP1, hφ1⟩ := r.at_ k1 _ hk1
  obtain ⟨w2, fp2, e2, eP2, hφ2⟩ := r.at_ k2 _ hk2
  have ev1 := (hφ1 H (fro H O P) (fun _ _ => rfl) (Same.refl _)).1
  have ev2 := (hφ2 H (fro H O P) (fun _ _ => rfl) (Same.refl _)).1
  subst ev1 ev2
  have hkP1 : k1 < P.length := by rw [r.lenP]; exact set_some hk1
  have hkP2 : k2 < P.length := by rw [r.lenP]; exact set_some hk2
  -- the rest
  have rest : ∀ x, x ∈ ((P.set k1 []).set k2 []).flatten ↔ ∃ j l, j ≠ k1 ∧ j ≠ k2 ∧ P[j]? = some l ∧ x ∈ l := fun x => by
    constructor
    · intro m
      rcases mem_set m with z | ⟨j, l, hj, hl, hx⟩
      · cases z
      · by_cases hj1 : j = k1
        · subst hj1
          rw [List.getElem?_set_self hkP1] at hl
          cases hl
          exact absurd hx (by simp)
        · rw [List.getElem?_set_ne (Ne.symm hj1)] at hl
          exact ⟨j, l, hj1, hj, hl, hx⟩
    · rintro ⟨j, l, hj1, hj2, hl, hx⟩
      exact mem_flat (by rw [List.getElem?_set_ne (Ne.symm hj2), List.getElem?_set_ne (Ne.symm hj1)]; exact hl) hx
  have sup : ∀ x, x ∈ P.flatten → x ∈ fp1 ∨ x ∈ fp2 ∨ x ∈ ((P.set k1 []).set k2 []).flatten := fun x m => by
    obtain ⟨l, hl, hx⟩ := List.mem_flatten.mp m
    obtain ⟨j, hj⟩ := List.mem_iff_getElem?.mp hl
    by_cases z1 : j = k1
    · subst z1; rw [eP1] at hj; cases hj; exact .inl hx
    · by_cases z2 : j = k2
      · subst z2; rw [eP2] at hj; cases hj; exact .inr (.inl hx)
      · exact .inr (.inr ((rest x).mpr ⟨j, l, z1, z2, hj, hx⟩))
  have flat2 : ∀ l1 l2 : List Addr, ([l1, l2] : List (List Addr)).flatten = l1 ++ l2 := fun l1 l2 => by simp
  have fz : Same (fro H O P) (fro H (O ++ ((P.set k1 []).set k2 []).flatten) [fp1, fp2]) := hid_le (Same.refl _) fun x m => .inl (by
    rw [flat2] at m
    rcases List.mem_append.mp m with m | m
    · rcases List.mem_append.mp m with m | m
      · exact List.mem_append_left _ m
      · obtain ⟨j, l, _, _, hl, hx⟩ := (rest x).mp m
        exact List.mem_append_right _ (mem_flat hl hx)
    · rcases List.mem_append.mp m with m | m
      · exact List.mem_append_right _ (mem_flat eP1 m)
      · exact List.mem_append_right _ (mem_flat eP2 m))
  have live : ∀ x, x ∈ O ++ ((P.set k1 []).set k2 []).flatten → H x ≠ none := fun x m => by
    rcases List.mem_append.mp m with m | m
    · exact call_core r x (List.mem_append_left _ m)
    · obtain ⟨j, l, _, _, hl, hx⟩ := (rest x).mp m
      exact call_core r x (List.mem_append_right _ (mem_flat hl hx))
  have dis : ∀ x, x ∈ fp1 ++ fp2 → x ∉ O ++ ((P.set k1 []).set k2 []).flatten ∧ H x ≠ none := fun x m => by
    have hx : x ∈ P.flatten := by
      rcases List.mem_append.mp m with m | m
      · exact mem_flat eP1 m
      · exact mem_flat eP2 m
    refine ⟨fun z => ?_, r.liv x hx⟩
    rcases List.mem_append.mp z with z | z
    · exact (r.pO hx).1 z
    · obtain ⟨j, l, hj1, hj2, hl, hx'⟩ := (rest x).mp z
      rcases List.mem_append.mp m with m | m
      · exact hj1 (r.inj j k1 l fp1 x hl eP1 hx' m)
      · exact hj2 (r.inj j k2 l fp2 x hl eP2 hx' m)
  refine ⟨a, s, O ++ ((P.set k1 []).set k2 []).flatten, [w1, w2], [fp1, fp2], ws, rfl, live, fun x m => dis x (by rwa [flat2] at m), fun i j l m x h1 h2 h3 h4 => ?_, hv.mono fz, ?_, hp, fun rr' hr u Hb H' fps' c1 c2 c3 c4 c5 c6 => ?_, fun c hc => by rw [hf] at hc; cases hc⟩
  · match i, j, h1, h2 with
    | 0, 0, _, _ => rfl
    | 1, 1, _, _ => rfl
    | 0, 1, h1, h2 => cases h1; cases h2; exact absurd (r.inj k1 k2 fp1 fp2 x eP1 eP2 h3 h4) hne
    | 1, 0, h1, h2 => cases h1; cases h2; exact absurd (r.inj k1 k2 fp1 fp2 x eP1 eP2 h4 h3) hne
  · rw [hob]
    exact .cons (fun H2 F2 z1 z2 => (hφ1 H2 F2 z1 (fz.trans z2)).2) (.cons (fun H2 F2 z1 z2 => (hφ2 H2 F2 z1 (fz.trans z2)).2) .nil)
  · rw [hf] at hr
    cases hr
    rw [hob'] at c4
    cases c4 with
    | @cons _ _ fp1' _ _ _ g1 c4 =>
      cases c4 with
      | @cons _ _ fp2' _ _ _ g2 c4 =>
        cases c4
        rw [flat2] at c1
        rw [flat2, flat2] at c2
        have hfl : ∀ x, x ∈ ((P.set k1 fp1').set k2 fp2').flatten → x ∈ fp1' ++ fp2' ∨ x ∈ ((P.set k1 []).set k2 []).flatten := fun x m => by
          rcases mem_set m with z | ⟨j, l, hj, hl, hx⟩
          · exact .inl (List.mem_append_right _ z)
          · by_cases hj1 : j = k1
            · subst hj1
              rw [List.getElem?_set_self hkP1] at hl
              cases hl
              exact .inl (List.mem_append_left _ hx)
            · rw [List.getElem?_set_ne (Ne.symm hj1)] at hl
              exact .inr ((rest x).mpr ⟨j, l, hj1, hj, hl, hx⟩)
        have conv : ∀ G : Hp, Same (fro G (O ++ ((P.set k1 []).set k2 []).flatten) [fp1', fp2']) (fro G O ((P.set k1 fp1').set k2 fp2')) := fun G => hid_le (Same.refl _) fun x m => .inl (by
          rw [flat2]
          rcases List.mem_append.mp m with m | m
          · exact List.mem_append_left _ (List.mem_append_left _ m)
          · rcases hfl x m with z | z
            · exact List.mem_append_right _ z
            · exact List.mem_append_left _ (List.mem_append_right _ z))
        have inP : ∀ x, x ∈ fp1 ++ fp2 → x ∈ P.flatten := fun x m => by
          rcases List.mem_append.mp m with m | m
          · exact mem_flat eP1 m
          · exact mem_flat eP2 m
        have keepv : ∀ x o, H x = some o → x ∉ fp1 ++ fp2 → Hb x = some o := fun x o y n => c1 x o (hidL_some.mpr ⟨n, y⟩)
        have geti : ∀ i l, ((P.set k1 fp1').set k2 fp2')[i]? = some l → (i = k1 ∧ l = fp1') ∨ (i = k2 ∧ l = fp2') ∨ (i ≠ k1 ∧ i ≠ k2 ∧ P[i]? = some l) := fun i l h => by
          by_cases z2 : i = k2
          · subst z2
            rw [List.getElem?_set_self (by rw [List.length_set]; exact hkP2)] at h
            cases h
            exact .inr (.inl ⟨rfl, rfl⟩)
          · rw [List.getElem?_set_ne (Ne.symm z2)] at h
            by_cases z1 : i = k1
            · subst z1
              rw [List.getElem?_set_self hkP1] at h
              cases h
              exact .inl ⟨rfl, rfl⟩
            · rw [List.getElem?_set_ne (Ne.symm z1)] at h
              exact .inr (.inr ⟨z1, z2, h⟩)
        have notmix : ∀ j l x, j ≠ k1 → j ≠ k2 → P[j]? = some l → x ∈ l → x ∉ fp1' ++ fp2' := fun j l x hj1 hj2 hl hx m => by
          have hxP := mem_flat hl hx
          rcases (c2 x m).1 with z | z
          · exact (dis x z).1 (List.mem_append_right _ ((rest x).mpr ⟨j, l, hj1, hj2, hl, hx⟩))
          · exact r.liv x hxP z
        have m1 : ∀ x, x ∈ fp1' → x ∈ fp1' ++ fp2' := fun x m => List.mem_append_left _ m
        have m2 : ∀ x, x ∈ fp2' → x ∈ fp1' ++ fp2' := fun x m => List.mem_append_right _ m
        have keepP : ∀ j l x, j ≠ k1 → j ≠ k2 → P[j]? = some l → x ∈ l → Hb x = H x := fun j l x hj1 hj2 hl hx => by
          cases y : H x with
          | none => exact absurd y (r.liv x (mem_flat hl hx))
          | some o => exact keepv x o y fun z => (dis x z).1 (List.mem_append_right _ ((rest x).mpr ⟨j, l, hj1, hj2, hl, hx⟩))
        obtain ⟨R2, gr⟩ := r.stepL (P' := (P.set k1 fp1').set k2 fp2') (S' := (S.set k1 (.ob (pinF w1 φ1'))).set k2 (.ob (pinF w2 φ2'))) (σ' := σ) (H' := Hb) (by rw [List.length_set, List.length_set]) (by rw [List.length_set, List.length_set]) rfl
          (fun x m => by
            rcases hfl x m with z | z
            · exact ((c2 x z).1).imp (inP x) id
            · obtain ⟨j, l, _, _, hl, hx⟩ := (rest x).mp z
              exact .inl (mem_flat hl hx))
          (fun i j l m x h1 h2 h3 h4 => by
            have d12 : x ∈ fp1' → x ∈ fp2' → False := fun a b => by
              have := c3 0 1 fp1' fp2' x rfl rfl a b
              omega
            rcases geti i l h1 with ⟨rfl, rfl⟩ | ⟨rfl, rfl⟩ | ⟨a1, a2, a3⟩ <;> rcases geti j m h2 with ⟨rfl, rfl⟩ | ⟨rfl, rfl⟩ | ⟨b1, b2, b3⟩
            · rfl
            · exact (d12 h3 h4).elim
            · exact absurd (m1 x h3) (notmix j m x b1 b2 b3 h4)
            · exact (d12 h4 h3).elim
            · rfl
            · exact absurd (m2 x h3) (notmix j m x b1 b2 b3 h4)
            · exact absurd (m1 x h4) (notmix i l x a1 a2 a3 h3)
            · exact absurd (m2 x h4) (notmix i l x a1 a2 a3 h3)
            · exact r.inj i j l m x a3 b3 h3 h4)
          (fun x m => by
            rcases hfl x m with z | z
            · exact (c2 x z).2
            · obtain ⟨j, l, hj1, hj2, hl, hx⟩ := (rest x).mp z
              rw [keepP j l x hj1 hj2 hl hx]
              exact r.liv x (mem_flat hl hx))
          (fun x o y n => keepv x o y fun z => n (inP x z))
          (fun gg i sl h => by
            by_cases z2 : i = k2
            · subst z2
              rw [List.getElem?_set_self (by rw [List.length_set]; exact set_some hk2)] at h
              cases h
              exact ⟨w2, fp2', e2, List.getElem?_set_self (by rw [List.length_set]; exact hkP2), fun H2 F2 y1 y2 => ⟨rfl, g2 H2 F2 y1 ((conv Hb).trans y2)⟩⟩
            · rw [List.getElem?_set_ne (Ne.symm z2)] at h
              by_cases z1 : i = k1
              · subst z1
                rw [List.getElem?_set_self (set_some hk1)] at h
                cases h
                exact ⟨w1, fp1', e1, by rw [List.getElem?_set_ne (Ne.symm z2), List.getElem?_set_self hkP1], fun H2 F2 y1 y2 => ⟨rfl, g1 H2 F2 y1 ((conv Hb).trans y2)⟩⟩
              · rw [List.getElem?_set_ne (Ne.symm z1)] at h
                exact (r.at_ i sl h).to rfl (by rw [List.getElem?_set_ne (Ne.symm z2), List.getElem?_set_ne (Ne.symm z1)]) (fun l x a b => keepP i l x z1 z2 a b) gg)
        refine q u Hb H' _ R2 gr c5 ?_
        cases rr with
        | val d =>
          have c7 : Rp K (fro H' (O ++ ((P.set k1 []).set k2 []).flatten) [fp1', fp2']) u d := c6
          exact c7.mono (conv H')
        | new ds =>
          obtain ⟨p, us, y1, y2, y3, y4⟩ := c6
          refine ⟨p, us, y1, y2, y3, y4.mono (hid_le (Same.refl _) fun x m => .inl ?_)⟩
          rw [List.flatten_cons] at m ⊢
          rw [flat2]
          rcases List.mem_append.mp m with m | m
          · exact List.mem_append_left _ (List.mem_append_left _ m)
          · rcases List.mem_append.mp m with m | m
            · exact List.mem_append_right _ (List.mem_append_left _ m)
            · rcases hfl x m with z | z
              · exact List.mem_append_right _ (List.mem_append_right _ z)
              · exact List.mem_append_left _ (List.mem_append_right _ z)
end Dx

namespace Dx
open PySem PySem.Spec PyProof.Rows L2
/-! ## objects that no name holds: beside the slots (unfold), or kept in one slot (fold) -/
section
variable {K : PySem.W.Frag} {O : List Addr} {H0 H H' : Hp} {P : List (List Addr)} {σ σ' : L2.St} {S : List Sl} {i k : Nat} {d : D} {ds : List D} {v : V} {vo : List V} {φs φs' : List Fam}
theorem pins_inv {sl : Sl} (h : (pins vo φs)[i]? = some sl) : ∃ v φ, vo[i]? = some v ∧ φs[i]? = some φ ∧ sl = .ob (pinF v φ) := by
  unfold pins at h
  rw [List.getElem?_zipWith_eq_some] at h
  obtain ⟨v, φ, h1, h2, h3⟩ := h
  exact ⟨v, φ, h1, h2, h3.symm⟩
def wld (d : D) (vo : List V) (φs : List Fam) : Fam := fun K H F v fp => Rp K F v d ∧ ∃ fps : List (List Addr), (∀ x, x ∈ fps.flatten → x ∈ fp) ∧ Disj fps ∧ ObAll K H F φs vo fps
theorem fro_iff {P P2 : List (List Addr)} (m : ∀ x, x ∈ P2.flatten ↔ x ∈ P.flatten) (G : Hp) : Same (fro G O P) (fro G O P2) := fro_sub fun x y => (m x).mp y
theorem Rep.unfold (R : Rep K O H0 H P σ S) (hk : S[k]? = some (.ob (wld d vo φs))) : ∃ P2, Rep K O H0 H P2 (σ ++ vo.map some) (S.set k (.sh d) ++ pins vo φs) ∧ (∀ x, x ∈ P2.flatten ↔ x ∈ P.flatten) := by
  obtain ⟨v, fp, e, eP, hφ⟩ := R.at_ k _ hk
  obtain ⟨hd, fps, hsub, hdj, hall⟩ := hφ H (fro H O P) (fun _ _ => rfl) (Same.refl _)
  have hkS := set_some hk
  have hkP : k < P.length := by rw [R.lenP]; exact hkS
  have lv : vo.length = φs.length := hall.len.1
  have lf : fps.length = φs.length := hall.len.2
  have lp : (pins vo φs).length = φs.length := pins_len lv
  generalize hft : fp.filter (fun x => decide (x ∉ fps.flatten)) = ft
  have ft1 : ∀ x, x ∈ ft → x ∈ fp := fun x m => by rw [← hft] at m; exact (List.mem_filter.mp m).1
  have ft2 : ∀ x, x ∈ ft → x ∉ fps.flatten := fun x m => by rw [← hft] at m; exact of_decide_eq_true (List.mem_filter.mp m).2
  have ft3 : ∀ x, x ∈ fp → x ∉ fps.flatten → x ∈ ft := fun x m n => by rw [← hft]; exact List.mem_filter.mpr ⟨m, decide_eq_true n⟩
  have mem : ∀ x, x ∈ (P.set k ft ++ fps).flatten ↔ x ∈ P.flatten := fun x => by
    rw [List.flatten_append, List.mem_append]
    constructor
    · rintro (m | m)
      · rcases mem_set m with z | ⟨j, l, hj, hl, hx⟩
        · exact mem_flat eP (ft1 x z)
        · exact mem_flat hl hx
      · exact mem_flat eP (hsub x m)
    · intro m
      obtain ⟨l, hl, hx⟩ := List.mem_flatten.mp m
      obtain ⟨j, hj⟩ := List.mem_iff_getElem?.mp hl
      by_cases z : k = j
      · subst z
        rw [eP] at hj
        cases hj
        by_cases w : x ∈ fps.flatten
        · exact .inr w
        · exact .inl (mem_flat (i := k) (List.getElem?_set_self hkP) (ft3 x hx w))
      · exact .inl (mem_flat (i := j) (by rw [List.getElem?_set_ne z]; exact hj) hx)
  have fe := fun G => fro_iff (O := O) mem G
  have org : ∀ i l x, (P.set k ft ++ fps)[i]? = some l → x ∈ l → (i = k ∧ x ∈ fp ∧ x ∉ fps.flatten) ∨ (i ≠ k ∧ i < P.length ∧ P[i]? = some l) ∨ (P.length ≤ i ∧ fps[i - P.length]? = some l) := fun i l x h m => by
    by_cases hi : i < P.length
    · rw [List.getElem?_append_left (by rw [List.length_set]; exact hi)] at h
      by_cases z : k = i
      · subst z
        rw [List.getElem?_set_self hkP] at h
        cases h
        exact .inl ⟨rfl, ft1 x m, ft2 x m⟩
      · rw [List.getElem?_set_ne z] at h
        exact .inr (.inl ⟨fun w => z w.symm, hi, h⟩)
    · rw [List.getElem?_append_right (by rw [List.length_set]; omega), List.length_set] at h
      exact .inr (.inr ⟨by omega, h⟩)
  refine ⟨P.set k ft ++ fps, ⟨?_, ?_, R.olv, ?_, fun i j l m x h1 h2 h3 h4 => ?_, fun x m => R.liv x ((mem x).mp m), fun i sl h => ?_⟩, mem⟩
  · rw [List.length_append, List.length_append, List.length_map, List.length_set, R.len, lv, lp]
  · rw [List.length_append, List.length_append, List.length_set, List.length_set, R.lenP, lf, lp]
  · exact R.base.trans (hid_le (Same.refl _) fun x m => .inl ((mem x).mp m))
  · rcases org i l x h1 h3 with ⟨a1, a2, a3⟩ | ⟨a1, a2, a3⟩ | ⟨a1, a2⟩ <;> rcases org j m x h2 h4 with ⟨b1, b2, b3⟩ | ⟨b1, b2, b3⟩ | ⟨b1, b2⟩
    · rw [a1, b1]
    · exact absurd (R.inj k j fp m x eP b3 a2 h4).symm b1
    · exact absurd (mem_flat b2 h4) a3
    · exact absurd (R.inj i k l fp x a3 eP h3 b2) a1
    · exact R.inj i j l m x a3 b3 h3 h4
    · exact absurd (R.inj i k l fp x a3 eP h3 (hsub x (mem_flat b2 h4))) a1
    · exact absurd (mem_flat a2 h3) b3
    · exact absurd (R.inj k j fp m x eP b3 (hsub x (mem_flat a2 h3)) h4).symm b1
    · have := hdj _ _ l m x a2 b2 h3 h4
      omega
  · by_cases hi : i < S.length
    · rw [List.getElem?_append_left (by rw [List.length_set]; exact hi)] at h
      by_cases z : k = i
      · subst z
        rw [List.getElem?_set_self hkS] at h
        cases h
        exact ⟨v, by rw [List.getElem?_append_left (by rw [R.len]; exact hi)]; exact e, hd.mono (fe H)⟩
      · rw [List.getElem?_set_ne z] at h
        exact (R.at_ i sl h).to (by rw [List.getElem?_append_left (by rw [R.len]; exact hi)]) (by rw [List.getElem?_append_left (by rw [List.length_set, R.lenP]; exact hi), List.getElem?_set_ne z]) (fun _ _ _ _ => rfl) (fe H)
    · rw [List.getElem?_append_right (by rw [List.length_set]; omega), List.length_set] at h
      obtain ⟨v', φ, h1, h2, rfl⟩ := pins_inv h
      obtain ⟨v2, fp2, g1, g2, g3⟩ := hall.get h2
      rw [h1] at g1
      cases g1
      exact ⟨v', fp2, by rw [List.getElem?_append_right (by rw [R.len]; omega), R.len, List.getElem?_map, h1]; rfl, by rw [List.getElem?_append_right (by rw [List.length_set, R.lenP]; omega), List.length_set, R.lenP]; exact g2, fun H2 F2 k1 k2 => ⟨rfl, g3 H2 F2 k1 ((fe H).trans k2)⟩⟩
theorem Rep.fold {P2 : List (List Addr)} (R : Rep K O H0 H P2 (σ ++ vo.map some) (S ++ pins vo φs)) (hl : σ.length = S.length) (hvo : vo.length = φs.length) (hk : S[k]? = some (.sh d)) : ∃ P, Rep K O H0 H P σ (S.set k (.ob (wld d vo φs))) ∧ (∀ x, x ∈ P.flatten ↔ x ∈ P2.flatten) := by
  have hkS := set_some hk
  have lp : (pins vo φs).length = φs.length := pins_len hvo
  have lP2 : P2.length = S.length + φs.length := by rw [R.lenP, List.length_append, lp]
  obtain ⟨lk, hlk⟩ : ∃ lk, P2[k]? = some lk := ⟨_, List.getElem?_eq_getElem (by omega)⟩
  have lT : (P2.take S.length).length = S.length := by rw [List.length_take]; omega
  have gT : ∀ i, i < S.length → (P2.take S.length)[i]? = P2[i]? := fun i h => by rw [List.getElem?_take, if_pos h]
  have gD : ∀ i, (P2.drop S.length)[i]? = P2[S.length + i]? := fun i => by rw [List.getElem?_drop]
  have inD : ∀ x, x ∈ (P2.drop S.length).flatten → x ∈ P2.flatten := fun x m => by
    obtain ⟨l, hl, hx⟩ := List.mem_flatten.mp m
    exact List.mem_flatten.mpr ⟨l, List.mem_of_mem_drop hl, hx⟩
  have mem : ∀ x, x ∈ ((P2.take S.length).set k (lk ++ (P2.drop S.length).flatten)).flatten ↔ x ∈ P2.flatten := fun x => by
    constructor
    · intro m
      rcases mem_set m with z | ⟨j, l, hj, hl, hx⟩
      · rcases List.mem_append.mp z with z | z
        · exact mem_flat hlk z
        · exact inD x z
      · have := set_some hl
        rw [gT j (by omega)] at hl
        exact mem_flat hl hx
    · intro m
      obtain ⟨l, hl, hx⟩ := List.mem_flatten.mp m
      obtain ⟨j, hj⟩ := List.mem_iff_getElem?.mp hl
      by_cases hjn : j < S.length
      · by_cases z : k = j
        · subst z
          rw [hlk] at hj
          cases hj
          exact mem_flat (i := k) (List.getElem?_set_self (by omega)) (List.mem_append_left _ hx)
        · exact mem_flat (i := j) (by rw [List.getElem?_set_ne z, gT j hjn]; exact hj) hx
      · refine mem_flat (i := k) (List.getElem?_set_self (by omega)) (List.mem_append_right _ (mem_flat (i := j - S.length) (l := l) ?_ hx))
        rw [gD, show S.length + (j - S.length) = j by omega]
        exact hj
  have fe := fun G => fro_iff (O := O) mem G
  have org : ∀ i l x, ((P2.take S.length).set k (lk ++ (P2.drop S.length).flatten))[i]? = some l → x ∈ l → ∃ j l2, P2[j]? = some l2 ∧ x ∈ l2 ∧ ((j < S.length ∧ i = j) ∨ (S.length ≤ j ∧ i = k)) := fun i l x h m => by
    have hi := set_some h
    rw [List.length_set, lT] at hi
    by_cases z : k = i
    · subst z
      rw [List.getElem?_set_self (by omega)] at h
      cases h
      rcases List.mem_append.mp m with m | m
      · exact ⟨k, lk, hlk, m, .inl ⟨hkS, rfl⟩⟩
      · obtain ⟨l2, hl2, hx⟩ := List.mem_flatten.mp m
        obtain ⟨j, hj⟩ := List.mem_iff_getElem?.mp hl2
        rw [gD] at hj
        exact ⟨_, l2, hj, hx, .inr ⟨by omega, rfl⟩⟩
    · rw [List.getElem?_set_ne z, gT i hi] at h
      exact ⟨i, l, h, m, .inl ⟨hi, rfl⟩⟩
  refine ⟨_, ⟨by rw [List.length_set]; exact hl, by rw [List.length_set, List.length_set, lT], R.olv, R.base.trans (hid_le (Same.refl _) fun x m => .inl ((mem x).mp m)), fun i j l m x h1 h2 h3 h4 => ?_, fun x m => R.liv x ((mem x).mp m), fun i sl h => ?_⟩, mem⟩
  · obtain ⟨a, la, a1, a2, a3⟩ := org i l x h1 h3
    obtain ⟨b, lb, b1, b2, b3⟩ := org j m x h2 h4
    have e := R.inj a b la lb x a1 b1 a2 b2
    subst e
    rcases a3 with ⟨c1, rfl⟩ | ⟨c1, rfl⟩ <;> rcases b3 with ⟨d1, rfl⟩ | ⟨d1, rfl⟩
    · rfl
    · omega
    · omega
    · rfl
  · have hi := set_some h
    rw [List.length_set] at hi
    by_cases z : k = i
    · subst z
      rw [List.getElem?_set_self hkS] at h
      cases h
      obtain ⟨v, e, hd⟩ := R.at_ k (.sh d) (by rw [List.getElem?_append_left hkS]; exact hk)
      rw [List.getElem?_append_left (by omega)] at e
      refine ⟨v, _, e, List.getElem?_set_self (by omega), fun H2 F2 k1 k2 => ⟨(hd.mono (fe H)).mono k2, P2.drop S.length, fun x m => List.mem_append_right _ m, fun i j l m x h1 h2 h3 h4 => ?_, ObAll.of hvo (by rw [List.length_drop]; omega) fun i φ hφ => ?_⟩⟩
      · rw [gD] at h1 h2
        have := R.inj _ _ l m x h1 h2 h3 h4
        omega
      · have hi := set_some hφ
        obtain ⟨w, hw⟩ : ∃ w, vo[i]? = some w := ⟨_, List.getElem?_eq_getElem (by omega)⟩
        obtain ⟨w2, fp, g1, g2, g3⟩ := R.at_ (S.length + i) (.ob (pinF w φ)) (by rw [List.getElem?_append_right (by omega), show S.length + i - S.length = i by omega]; exact pins_get hw hφ)
        have ew := (g3 H (fro H O P2) (fun _ _ => rfl) (Same.refl _)).1
        subst ew
        refine ⟨w2, fp, hw, by rw [gD]; exact g2, fun H3 F3 y1 y2 => (g3 H3 F3 (fun a ha => (y1 a ha).trans (k1 a (List.mem_append_right _ (mem_flat (i := i) (by rw [gD]; exact g2) ha)))) (((fe H).trans k2).trans y2)).2⟩
    · rw [List.getElem?_set_ne z] at h
      exact (R.at_ i sl (by rw [List.getElem?_append_left hi]; exact h)).to (by rw [List.getElem?_append_left (by omega)]) (by rw [List.getElem?_set_ne z, gT i hi]) (fun _ _ _ _ => rfl) (fe H)
theorem retF_sub {Hb : Hp} {P' : List (List Addr)} {r : Rv} (h : ∀ x, x ∈ P'.flatten → x ∈ P.flatten) (w : RetF K O Hb H' P v r) : RetF K O Hb H' P' v r := by
  cases r with
  | val d =>
    have w' : Rp K (fro H' O P) v d := w
    exact w'.mono (fro_sub h)
  | new ds =>
    obtain ⟨p, us, z1, z2, z3, z4⟩ := w
    exact ⟨p, us, z1, z2, z3, z4.mono (fro_sub fun x m => by
      rw [List.flatten_cons] at m ⊢
      rcases List.mem_append.mp m with m | m
      · exact List.mem_append_left _ m
      · exact List.mem_append_right _ (h x m))⟩
end
/-! ## values told exactly; calls that are handed objects -/
section
variable {K : PySem.W.Frag} {S S' S'' : List Sl} {te ti : TE} {ta : TA} {tt uu : TT} {t u : TS} {v : V} {vo us : List V} {d : D} {ds : List D} {k : Nat} {b c : Bool} {φ : Fam} {N : List Sl → Prop} {R : Rv → Prop} {E E' : XK} {φs φs' : List Fam}
def EvV (K : PySem.W.Frag) (te : TE) (S : List Sl) (v : V) : Prop := ∀ O H0 H P σ, Rep K O H0 H P σ S → ∀ Q : VK, (∀ H', Same H H' → Q v H') → te σ H Q
theorem evv_pin (hk : S[k]? = some (.ob (pinF v φ))) : EvV K (tVar k) S v := fun O H0 H P σ r Q q => by
  obtain ⟨v', fp, e, eP, hφ⟩ := r.at_ k _ hk
  have ev := (hφ H (fro H O P) (fun _ _ => rfl) (Same.refl _)).1
  subst ev
  exact ⟨_, e, q H (Same.refl H)⟩
/-- a list of any values, no more changed -/
def opq (vs : List V) : Fam := fun K H F v fp => ∃ p, v = .ref p ∧ F p = some (.lst vs)
theorem evv_opq {vs : List V} {j : Int} (hk : S[k]? = some (.ob (opq vs))) (hi : EvF K ti S (.int j)) (hj : atI vs j = some v) : EvV K (tOp (rIxL K) (tVar k) ti) S v := fun O H0 H P σ r Q q => by
  obtain ⟨v', fp, e, eP, hφ⟩ := r.at_ k _ hk
  obtain ⟨p, ev, hp⟩ := hφ H (fro H O P) (fun _ _ => rfl) (Same.refl _)
  subst ev
  refine ⟨_, e, hi O H0 H P σ r _ fun y H1 e1 r1 => ?_⟩
  cases r1
  exact ⟨p, vs, j, v, rfl, rfl, e1.seq (.of (fro_le _ _ hp)), hj, q H1 e1⟩
def EvY (K : PySem.W.Frag) (ta : TA) (S : List Sl) (vo : List V) (ds : List D) : Prop := ∀ O H0 H P σ, Rep K O H0 H P σ S → ∀ Q : List V → Hp → Prop, (∀ ws H', Same H H' → RpAll K (fro H' O P) ws ds → Q (vo ++ ws) H') → ta σ H Q
theorem evy_d (h : EvA K ta S ds) : EvY K ta S [] ds := h
theorem evy_v (h : EvV K te S v) (hr : EvY K ta S vo ds) : EvY K (tCons te ta) S (v :: vo) ds := fun O H0 H P σ r Q q =>
  h O H0 H P σ r _ fun H1 e1 => hr O H0 H1 P σ (r.ext e1) _ fun ws H2 e2 r2 => q ws H2 (e1.trans e2) r2
variable {α β : Type} {ob : β → List Fam} {A : α → List D} {pre : α → β → Prop} {f : α → β → Ov} {g : α → β → β} {a : α} {s : β} {rr : Rv}
/-- from S the call with the objects vo and the data a ends in S' -/
def CallO {α β : Type} (K : PySem.W.Frag) (ob : β → List Fam) (A : α → List D) (pre : α → β → Prop) (f : α → β → Ov) (g : α → β → β) (vo : List V) (a : α) (rr : Rv) (S S' : List Sl) : Prop := ∀ O H0 H P σ ws Q E, Rep K O H0 H P σ S → RpAll K (fro H O P) ws (A a) →
  (∀ u Hb H' P', Rep K O H0 Hb P' σ S' → Same (fro H O P) (fro Hb O P') → Same Hb H' → RetF K O Hb H' P' u rr → Q u H') → PSpO K ob A pre f g (vo ++ ws) H Q E
theorem callO1 {φ φ' : Fam} (s : β) (hk : S[k]? = some (.ob (pinF v φ))) (hob : ob s = [φ]) (hob' : ob (g a s) = [φ']) (hp : pre a s) (hf : f a s = .ret rr) : CallO K ob A pre f g [v] a rr S (S.set k (.ob (pinF v φ'))) :=
  fun O H0 H P σ ws Q E r hv q => obj_call1 a s r hk hv hob hob' hp hf q
theorem callO2 {φ1 φ2 φ1' φ2' : Fam} {k1 k2 : Nat} {v1 v2 : V} (s : β) (hk1 : S[k1]? = some (.ob (pinF v1 φ1))) (hk2 : S[k2]? = some (.ob (pinF v2 φ2))) (hne : k1 ≠ k2) (hob : ob s = [φ1, φ2]) (hob' : ob (g a s) = [φ1', φ2']) (hp : pre a s) (hf : f a s = .ret rr) : CallO K ob A pre f g [v1, v2] a rr S ((S.set k1 (.ob (pinF v1 φ1'))).set k2 (.ob (pinF v2 φ2'))) :=
  fun O H0 H P σ ws Q E r hv q => obj_call2 a s r hk1 hk2 hne hv hob hob' hp hf q
theorem callO_wld (hk : S[k]? = some (.ob (wld d vo φs))) (hl : vo.length = φs'.length) (h : CallO K ob A pre f g us a rr (S.set k (.sh d) ++ pins vo φs) (S.set k (.sh d) ++ pins vo φs')) : CallO K ob A pre f g us a rr S (S.set k (.ob (wld d vo φs'))) := fun O H0 H P σ ws Q E r hv q => by
  obtain ⟨P2, R2, m2⟩ := r.unfold hk
  refine h O H0 H P2 _ ws Q E R2 (hv.mono (fro_iff m2 _)) fun u Hb H' P' R3 g3 e3 hr => ?_
  obtain ⟨P4, R4, m4⟩ := R3.fold (k := k) (by rw [List.length_set]; exact r.len) hl (List.getElem?_set_self (set_some hk))
  rw [List.set_set] at R4
  exact q u Hb H' P4 R4 (((fro_iff m2 _).trans g3).trans (fro_iff m4 _)) e3 (retF_sub (fun x m => (m4 x).mp m) hr)
/-- a test that changes objects -/
def EvS (K : PySem.W.Frag) (tt : TT) (S : List Sl) (b : Bool) (S' : List Sl) : Prop := ∀ O H0 H P σ, Rep K O H0 H P σ S → ∀ Q : Bool → Hp → Prop, (∀ H' P', Rep K O H0 H' P' σ S' → Same (fro H O P) (fro H' O P') → Q b H') → tt σ H Q
theorem es_call (h : EvY K ta S vo (A a)) (c : CallO K ob A pre f g vo a (.val (.bl b)) S S') : EvS K (tTest (tCall (PSpO K ob A pre f g) [] E ta)) S b S' := fun O H0 H P σ r Q q =>
  h O H0 H P σ r _ fun ws H1 e1 r1 => by
    rw [List.append_nil]
    refine c O H0 H1 P σ ws _ _ (r.ext e1) r1 fun u Hb H' P' R2 g2 e2 hr => ?_
    have hr' : Rp K (fro H' O P') u (.bl b) := hr
    cases hr'
    exact ⟨b, rfl, q H' P' (R2.ext e2) (((fro_same e1).trans g2).trans (fro_same e2))⟩
theorem es_callB (h : EvY K ta S vo (A a)) (c : CallO K ob A pre f g vo a (.val (.bl b)) S S') : EvS K (tB (tCall (PSpO K ob A pre f g) [] E ta)) S b S' := fun O H0 H P σ r Q q =>
  h O H0 H P σ r _ fun ws H1 e1 r1 => by
    rw [List.append_nil]
    refine c O H0 H1 P σ ws _ _ (r.ext e1) r1 fun u Hb H' P' R2 g2 e2 hr => ?_
    have hr' : Rp K (fro H' O P') u (.bl b) := hr
    cases hr'
    exact ⟨b, rfl, q H' P' (R2.ext e2) (((fro_same e1).trans g2).trans (fro_same e2))⟩
theorem es_not (h : EvS K tt S b S') : EvS K (tNot tt) S (!b) S' := fun O H0 H P σ r Q q => h O H0 H P σ r _ fun H' P' r' g => q H' P' r' g
theorem es_or (h : EvS K tt S false S') (h2 : EvS K uu S' b S'') : EvS K (tOr tt uu) S b S'' := fun O H0 H P σ r Q q => h O H0 H P σ r _ fun H' P' r' g => h2 O H0 H' P' σ r' _ fun H2 P2 r2 g2 => q H2 P2 r2 (g.trans g2)
theorem es_of (h : EvT K tt S b) : EvS K tt S b S := fun O H0 H P σ r Q q => h O H0 H P σ r _ fun H' e => q H' P (r.ext e) (fro_same e)
theorem sem_ifS (h : EvS K tt S b S') (h1 : b = true → Sm K t N R S') (h2 : b = false → Sm K u N R S') : Sm K (tIfS tt t u) N R S := fun O H0 H P σ r De kn kr =>
  h O H0 H P σ r _ fun H1 P1 R1 g1 => by
    have rt : ∀ v H' w, RetOk K O H0 H' v w → R w → De.rt v H' := kr
    cases b with
    | true => exact h1 rfl O H0 H1 P1 σ R1 De (fun H' P' σ' S2 r' g' n => kn H' P' σ' S2 r' (g1.trans g') n) rt
    | false => exact h2 rfl O H0 H1 P1 σ R1 De (fun H' P' σ' S2 r' g' n => kn H' P' σ' S2 r' (g1.trans g') n) rt
theorem smg_retCall {F : List Sl → Rv → Prop} {X : Value → Prop} (h : EvY K ta S vo (A a)) (c : CallO K ob A pre f g vo a rr S S') (q : F S' rr) : SmG K E' (tRet (tCall (PSpO K ob A pre f g) [] E ta)) F X S := fun O H0 H P σ r _ De kr =>
  h O H0 H P σ r _ fun ws H1 e1 r1 => by
    rw [List.append_nil]
    exact c O H0 H1 P σ ws _ _ (r.ext e1) r1 fun u Hb H' P' R2 g2 e2 hr => kr u Hb H' P' σ S' rr R2 e2 hr q
theorem smg_seqR {F : List Sl → Rv → Prop} {X : Value → Prop} (h : SmG K E t F X S) : SmG K E (tSeq t u) F X S := fun O H0 H P σ r hE De kr => h O H0 H P σ r hE { De with nx := u De } kr
end
end Dx

namespace Dx
open PySem PySem.Spec PyProof.Rows L2
section
variable {K : PySem.W.Frag} {S S' S'' : List Sl} {te ti t1 t2 : TE} {ta : TA} {tt uu : TT} {t u : TS} {v : V} {vo us : List V} {d : D} {ds q : List D} {i j k : Nat} {b c : Bool} {φ φ1 φ2 : Fam} {N : List Sl → Prop} {R : Rv → Prop} {E E' : XK} {φs φs' : List Fam} {qs : List (List D)}
/-- a list of own lists that stands in the world, read -/
theorem nestW_at {O : List Addr} {H0 H : Hp} {P : List (List Addr)} {σ : L2.St} (r : Rep K O H0 H P σ S) (hk : S[k]? = some (.ob (wld d vo φs))) (hv : vo[i]? = some v) (hφ : φs[i]? = some (nest qs)) (hj : qs[j]? = some q) :
    ∃ (pk : Addr) (ps : List Addr) (pj : Addr) (vs : List V), v = .ref pk ∧ H pk = some (.lst (ps.map V.ref)) ∧ ps[j]? = some pj ∧ H pj = some (.lst vs) ∧ RpAll K (fro H O P) vs q := by
  obtain ⟨v', fp, e, eP, hφ'⟩ := r.at_ k _ hk
  obtain ⟨_, fps, _, _, hall⟩ := hφ' H (fro H O P) (fun _ _ => rfl) (Same.refl _)
  obtain ⟨w, fp2, g1, g2, g3⟩ := hall.get hφ
  rw [hv] at g1
  cases g1
  obtain ⟨pk, ps, rfl, _, h1, h2, h3, h4, h5⟩ := g3 H (fro H O P) (fun _ _ => rfl) (Same.refl _)
  have hjl : j < ps.length := by rw [h2]; exact set_some hj
  have hpj := List.getElem?_eq_getElem hjl
  obtain ⟨vs, w1, w2⟩ := h5 j _ q hpj hj
  exact ⟨pk, ps, _, vs, rfl, h1, hpj, w1, w2⟩
theorem evl_nestW (ht : EvV K te S v) (hk : S[k]? = some (.ob (wld d vo φs))) (hv : vo[i]? = some v) (hφ : φs[i]? = some (nest qs)) (hj : qs[j]? = some q) : EvL K (tOp (rIxL K) te (tC (.int (j : Int)))) S q := fun O H0 H P σ r Q z =>
  ht O H0 H P σ r _ fun H1 e1 => by
    obtain ⟨pk, ps, pj, vs, rfl, h1, hpj, w1, w2⟩ := nestW_at (r.ext e1) hk hv hφ hj
    exact ⟨pk, ps.map V.ref, (j : Int), .ref pj, rfl, rfl, .of h1, atI_nat (by rw [List.getElem?_map, hpj]; rfl), z _ vs H1 e1 (.of w1) w2⟩
theorem evf_nestW (ht : EvV K te S v) (hk : S[k]? = some (.ob (wld d vo φs))) (hv : vo[i]? = some v) (hφ : φs[i]? = some (nest qs)) (hj : qs[j]? = some q) : EvF K (tOp (rIxL K) te (tC (.int (j : Int)))) S (.lst q) := fun O H0 H P σ r Q z =>
  ht O H0 H P σ r _ fun H1 e1 => by
    obtain ⟨pk, ps, pj, vs, rfl, h1, hpj, w1, w2⟩ := nestW_at (r.ext e1) hk hv hφ hj
    exact ⟨pk, ps.map V.ref, (j : Int), .ref pj, rfl, rfl, .of h1, atI_nat (by rw [List.getElem?_map, hpj]; rfl), z _ H1 e1 (.lst w1 (w2.mono fro_le))⟩
theorem evd_wld (hk : S[k]? = some (.ob (wld d vo φs))) : EvD K (tVar k) S d := fun O H0 H P σ r Q z => by
  obtain ⟨v', fp, e, eP, hφ'⟩ := r.at_ k _ hk
  obtain ⟨hd, _⟩ := hφ' H (fro H O P) (fun _ _ => rfl) (Same.refl _)
  exact ⟨v', e, z v' H (Same.refl H) hd⟩
theorem RpAll.ofGet {H : Hp} : ∀ {vs : List V} {ds : List D}, vs.length = ds.length → (∀ (i : Nat) (v : V) (d : D), vs[i]? = some v → ds[i]? = some d → Rp K H v d) → RpAll K H vs ds
  | [], [], _, _ => .nil
  | v :: vs, d :: ds, h1, h => .cons (h 0 v d rfl rfl) (RpAll.ofGet (Nat.succ.inj h1) fun i v d a b => h (i + 1) v d a b)
abbrev nestD (qs : List (List D)) : D := .lst (qs.map D.lst)
theorem nest_rp {H F G : Hp} {fp : List Addr} (h : nest qs K H F v fp) (hG : ∀ a o, a ∈ fp → H a = some o → G a = some o) (hF : Same F G) : Rp K G v (nestD qs) := by
  obtain ⟨pk, ps, rfl, rfl, h1, h2, h3, h4, h5⟩ := h
  refine .lst (hG _ _ List.mem_cons_self h1) (RpAll.ofGet (by rw [List.length_map, List.length_map]; exact h2) fun i w e a b => ?_)
  rw [List.getElem?_map] at a b
  cases x : ps[i]? with
  | none => rw [x] at a; cases a
  | some p =>
    cases y : qs[i]? with
    | none => rw [y] at b; cases b
    | some q =>
      rw [x] at a
      rw [y] at b
      cases a
      cases b
      obtain ⟨vs, w1, w2⟩ := h5 i p q x y
      exact .lst (hG _ _ (List.mem_cons_of_mem _ (List.mem_of_getElem? x)) w1) (w2.mono hF)
/-- from here on the world is no more changed; kk names a list of two of its lists of lists -/
theorem sem_freezeW {kk i1 i2 : Nat} {w1 w2 : V} {q1 q2 : List (List D)} (hk : S[k]? = some (.ob (wld d vo φs))) (hkk : S[kk]? = some (.ob (opq [w1, w2]))) (hne : k ≠ kk) (h1 : vo[i1]? = some w1) (h2 : vo[i2]? = some w2) (g1 : φs[i1]? = some (nest q1)) (g2 : φs[i2]? = some (nest q2))
    (h : Sm K t N R ((S.set k (.sh d)).set kk (.sh (.lst [nestD q1, nestD q2])))) : Sm K t N R S := fun O H0 H P σ r De kn kr => by
  obtain ⟨v', fp, e, eP, hφ'⟩ := r.at_ k _ hk
  obtain ⟨hd, fps, hsub, hdj, hall⟩ := hφ' H (fro H O P) (fun _ _ => rfl) (Same.refl _)
  obtain ⟨x1, fp1, a1, a2, a3⟩ := hall.get g1
  obtain ⟨x2, fp2, b1, b2, b3⟩ := hall.get g2
  rw [h1] at a1
  rw [h2] at b1
  cases a1
  cases b1
  have n1 := a3 H (fro H O P) (fun _ _ => rfl) (Same.refl _)
  have n2 := b3 H (fro H O P) (fun _ _ => rfl) (Same.refl _)
  have hkS := set_some hk
  obtain ⟨R1, gr1⟩ := r.step (i := k) (l := []) (sl := .sh d) (σ' := σ) (H' := H) hkS rfl (fun _ _ => rfl) (fun a m => (nomatch m)) (fun a m => (nomatch m)) (fun a o e _ => e) fun g => ⟨v', e, hd.mono g⟩
  have out : ∀ a o, a ∈ fp → H a = some o → fro H O (P.set k []) a = some o := fun a o m x => fro_some.mpr ⟨(r.pO (mem_flat eP m)).1, fun z => by
    rcases mem_set z with q | ⟨j, l, hj, hl, hx⟩
    · cases q
    · exact hj (r.inj j k l fp a hl eP hx m), x⟩
  obtain ⟨vk, fpk, ek, ePk, hφk⟩ := R1.at_ kk (.ob (opq [w1, w2])) (by rw [List.getElem?_set_ne hne]; exact hkk)
  obtain ⟨p, ev, hp⟩ := hφk H (fro H O (P.set k [])) (fun _ _ => rfl) (Same.refl _)
  subst ev
  obtain ⟨R2, gr2⟩ := R1.step (i := kk) (l := []) (sl := .sh (.lst [nestD q1, nestD q2])) (σ' := σ) (H' := H) (by rw [List.length_set]; exact set_some hkk) rfl (fun _ _ => rfl) (fun a m => (nomatch m)) (fun a m => (nomatch m)) (fun a o e _ => e) fun g =>
    ⟨_, ek, .lst (g _ _ hp) (.cons ((nest_rp n1 (fun a o m => out a o (hsub a (mem_flat a2 m))) gr1).mono g) (.cons ((nest_rp n2 (fun a o m => out a o (hsub a (mem_flat b2 m))) gr1).mono g) .nil))⟩
  exact h O H0 H _ σ R2 De (fun H' P' σ' S' r' g n => kn H' P' σ' S' r' ((gr1.trans gr2).trans g) n) kr
/-! ## objects made -/
def EvOb (K : PySem.W.Frag) (te : TE) (S : List Sl) (φ : Fam) : Prop := ∀ O H0 H P σ, Rep K O H0 H P σ S → ∀ Q : VK, (∀ v H' fp, Same H H' → (∀ x, x ∈ fp → H x = none ∧ H' x ≠ none) → (∀ H2 F2, (∀ a, a ∈ fp → H2 a = H' a) → Same (fro H' O (fp :: P)) F2 → φ K H2 F2 v fp) → Q v H') → te σ H Q
theorem sem_wld0 (hk : S[k]? = some (.sh d)) (h : Sm K t N R (S.set k (.ob (wld d [] [])))) : Sm K t N R S := fun O H0 H P σ r De kn kr => by
  obtain ⟨v, e, hd⟩ := r.at_ k _ hk
  obtain ⟨R1, g1⟩ := r.step (i := k) (l := []) (sl := .ob (wld d [] [])) (σ' := σ) (H' := H) (set_some hk) rfl (fun _ _ => rfl) (fun a m => (nomatch m)) (fun a m => (nomatch m)) (fun a o e _ => e) fun g =>
    ⟨v, [], e, List.getElem?_set_self (by rw [r.lenP]; exact set_some hk), fun H2 F2 k1 k2 => ⟨(hd.mono g).mono k2, [], fun _ m => m, (fun i j l m a h _ _ _ => nomatch h), .nil⟩⟩
  exact h O H0 H _ σ R1 De (fun H' P' σ' S' r' g n => kn H' P' σ' S' r' (g1.trans g) n) kr
theorem ObAll.append {H F : Hp} : ∀ {φs : List Fam} {vs : List V} {fps : List (List Addr)} {ψs : List Fam} {us : List V} {gps : List (List Addr)}, ObAll K H F φs vs fps → ObAll K H F ψs us gps → ObAll K H F (φs ++ ψs) (vs ++ us) (fps ++ gps)
  | [], _, _, _, _, _, h, q => by cases h; exact q
  | _ :: _, _, _, _, _, _, h, q => by
    cases h with
    | cons h1 h => exact .cons h1 (h.append q)
theorem ObAll.mono {H F H' F' : Hp} : ∀ {φs : List Fam} {vs : List V} {fps : List (List Addr)}, ObAll K H F φs vs fps → (∀ a, a ∈ fps.flatten → H' a = H a) → Same F F' → ObAll K H' F' φs vs fps
  | [], _, _, h, _, _ => by cases h; exact .nil
  | _ :: _, _, _, h, k1, k2 => by
    cases h with
    | cons h1 h => exact .cons (fun H2 F2 a b => h1 H2 F2 (fun x m => (a x m).trans (k1 x (by rw [List.flatten_cons]; exact List.mem_append_left _ m))) (k2.trans b)) (h.mono (fun x m => k1 x (by rw [List.flatten_cons]; exact List.mem_append_right _ m)) k2)
/-- beside what runs, the objects at fp are kept aside -/
theorem Rep.sideL {O : List Addr} {H0 H H' : Hp} {P : List (List Addr)} {σ : L2.St} {fp : List Addr} (R : Rep K O H0 H P σ S) (e : Same H H') (hn : ∀ x, x ∈ fp → H x = none) (hl : ∀ x, x ∈ fp → H' x ≠ none) : Rep K (fp ++ O) (hidL H' P.flatten) H' P σ S := by
  have olv : ∀ a, a ∈ fp ++ O → hidL H' P.flatten a ≠ none := fun a m z => by
    have n : a ∉ P.flatten ∧ H' a ≠ none := by
      rcases List.mem_append.mp m with q | q
      · exact ⟨R.notP (hn a q), hl a q⟩
      · refine ⟨fun m2 => (R.pO m2).1 q, fun z2 => ?_⟩
        cases y : H0 a with
        | none => exact R.olv a q y
        | some o => rw [e _ _ (R.keep _ _ y)] at z2; cases z2
    cases y : H' a with
    | none => exact n.2 y
    | some o => rw [hidL_some.mpr ⟨n.1, y⟩] at z; cases z
  have g : Same (fro H O P) (fro H' (fp ++ O) P) := hid_le e fun a m => by
    rcases List.mem_append.mp m with q | q
    · rcases List.mem_append.mp q with q | q
      · exact .inr (hn a q)
      · exact .inl (List.mem_append_left _ q)
    · exact .inl (List.mem_append_right _ q)
  exact ⟨R.len, R.lenP, olv, fun _ _ z => z, R.inj, fun a m => by rw [R.same_at e m]; exact R.liv a m,
    fun i sl h => (R.at_ i sl h).to rfl rfl (fun m a h1 h2 => R.same_at e (mem_flat h1 h2)) g⟩
theorem disj_append {xs ys : List (List Addr)} (hx : Disj xs) (hy : Disj ys) (h : ∀ a, a ∈ xs.flatten → a ∉ ys.flatten) : Disj (xs ++ ys) := fun i j l m x h1 h2 h3 h4 => by
  have org : ∀ i l, (xs ++ ys)[i]? = some l → (i < xs.length ∧ xs[i]? = some l) ∨ (xs.length ≤ i ∧ ys[i - xs.length]? = some l) := fun i l e => by
    by_cases z : i < xs.length
    · rw [List.getElem?_append_left z] at e
      exact .inl ⟨z, e⟩
    · rw [List.getElem?_append_right (by omega)] at e
      exact .inr ⟨by omega, e⟩
  rcases org i l h1 with ⟨a1, a2⟩ | ⟨a1, a2⟩ <;> rcases org j m h2 with ⟨b1, b2⟩ | ⟨b1, b2⟩
  · exact hx i j l m x a2 b2 h3 h4
  · exact absurd (mem_flat b2 h4) (h x (mem_flat a2 h3))
  · exact absurd (mem_flat a2 h3) (h x (mem_flat b2 h4))
  · have := hy _ _ l m x a2 b2 h3 h4
    omega
theorem disj_two {l m : List Addr} (h : ∀ a, a ∈ l → a ∉ m) : Disj [l, m] := fun i j l' m' x h1 h2 h3 h4 => by
  match i, j, h1, h2 with
  | 0, 0, _, _ => rfl
  | 1, 1, _, _ => rfl
  | 0, 1, h1, h2 => cases h1; cases h2; exact absurd h4 (h x h3)
  | 1, 0, h1, h2 => cases h1; cases h2; exact absurd h3 (h x h4)
/-- j = [object, object], both kept in the world at k -/
theorem sem_two (hk : S[k]? = some (.ob (wld d vo φs))) (hj : j < S.length) (hne : k ≠ j) (h1 : EvOb K t1 S φ1) (h2 : EvOb K t2 S φ2)
    (q : ∀ v1 v2, N ((S.set k (.ob (wld d (vo ++ [v1, v2]) (φs ++ [φ1, φ2])))).set j (.ob (opq [v1, v2])))) : Sm K (tAsg (tLst (tCons t1 (tCons t2 tNil))) (gName j)) N R S := fun O H0 H P σ r De kn kr =>
  h1 O H0 H P σ r _ fun v1 H1 fp1 e1 f1 m1 => h2 (fp1 ++ O) _ H1 P σ (r.sideL e1 (fun x m => (f1 x m).1) fun x m => (f1 x m).2) _ fun v2 H2 fp2 e2 f2 m2 => ⟨by show 2 ≤ sizeLine; rw [sizeLine_eq]; decide, fun p hp => by
    have hkS := set_some hk
    have e3 : Same H2 (upd H2 p (.lst [v1, v2])) := same_new hp
    have e13 : Same H1 (upd H2 p (.lst [v1, v2])) := e2.trans e3
    have e03 : Same H (upd H2 p (.lst [v1, v2])) := e1.trans e13
    obtain ⟨v', fp, e, eP, hφ'⟩ := r.at_ k _ hk
    obtain ⟨hd, fps, hsub, hdj, hall⟩ := hφ' H (fro H O P) (fun _ _ => rfl) (Same.refl _)
    have n1 : ∀ x, x ∈ fp1 → x ∉ P.flatten := fun x m => r.notP (f1 x m).1
    have n2 : ∀ x, x ∈ fp2 → x ∉ P.flatten := fun x m => (r.ext e1).notP (f2 x m).1
    have n12 : ∀ x, x ∈ fp1 → x ∉ fp2 := fun x m z => (f1 x m).2 (f2 x z).1
    have live : ∀ {G G' : Hp} {x : Addr}, Same G G' → G x ≠ none → G' x ≠ none := fun {G G' x} e h => by
      cases y : G x with
      | none => exact absurd y h
      | some o => rw [e x o y]; exact fun z => nomatch z
    have same : ∀ {G G' : Hp} {x : Addr}, Same G G' → G x ≠ none → G' x = G x := fun {G G' x} e h => by
      cases y : G x with
      | none => exact absurd y h
      | some o => exact e x o y
    have hset : ∀ x, x ∈ (P.set k (fp ++ (fp1 ++ fp2))).flatten → x ∈ P.flatten ∨ x ∈ fp1 ∨ x ∈ fp2 := fun x m => by
      rcases mem_set m with z | ⟨j, l, hj, hl, hx⟩
      · rcases List.mem_append.mp z with z | z
        · exact .inl (mem_flat eP z)
        · exact .inr (List.mem_append.mp z)
      · exact .inl (mem_flat hl hx)
    have c1 : Same (fro H1 O (fp1 :: P)) (fro (upd H2 p (.lst [v1, v2])) O (P.set k (fp ++ (fp1 ++ fp2)))) := hid_le e13 fun x m => by
      rw [List.flatten_cons]
      rcases List.mem_append.mp m with m | m
      · exact .inl (List.mem_append_left _ m)
      · rcases hset x m with z | z | z
        · exact .inl (List.mem_append_right _ (List.mem_append_right _ z))
        · exact .inl (List.mem_append_right _ (List.mem_append_left _ z))
        · exact .inr (f2 x z).1
    have c2 : Same (fro H2 (fp1 ++ O) (fp2 :: P)) (fro (upd H2 p (.lst [v1, v2])) O (P.set k (fp ++ (fp1 ++ fp2)))) := fun x o y => by
      obtain ⟨y1, y2, y3⟩ := fro_some.mp y
      rw [List.flatten_cons] at y2
      refine fro_some.mpr ⟨fun m => y1 (List.mem_append_right _ m), fun m => ?_, e3 x o y3⟩
      rcases hset x m with z | z | z
      · exact y2 (List.mem_append_right _ z)
      · exact y1 (List.mem_append_left _ z)
      · exact y2 (List.mem_append_left _ z)
    obtain ⟨R3, g3⟩ := r.step (i := k) (l := fp ++ (fp1 ++ fp2)) (sl := .ob (wld d (vo ++ [v1, v2]) (φs ++ [φ1, φ2]))) (σ' := σ) (H' := upd H2 p (.lst [v1, v2])) hkS rfl (fun _ _ => rfl)
      (fun x m => by
        rcases List.mem_append.mp m with m | m
        · exact .inl ⟨fp, eP, m⟩
        · rcases List.mem_append.mp m with m | m
          · exact .inr (f1 x m).1
          · exact .inr (e1.free (f2 x m).1))
      (fun x m => by
        rcases List.mem_append.mp m with m | m
        · exact live e03 (r.liv x (mem_flat eP m))
        · rcases List.mem_append.mp m with m | m
          · exact live e13 (f1 x m).2
          · exact live e3 (f2 x m).2) (fun x o y n => e03 x o y)
      (fun g => ⟨v', _, e, List.getElem?_set_self (by rw [r.lenP]; exact hkS), fun G F k1 k2 => ⟨(hd.mono g).mono k2, fps ++ [fp1, fp2], fun x m => by
        rw [List.flatten_append] at m
        rcases List.mem_append.mp m with m | m
        · exact List.mem_append_left _ (hsub x m)
        · simp only [List.flatten_cons, List.flatten_nil, List.append_nil] at m
          exact List.mem_append_right _ m, disj_append hdj (disj_two n12) (fun x m z => by
        simp only [List.flatten_cons, List.flatten_nil, List.append_nil] at z
        have := mem_flat eP (hsub x m)
        rcases List.mem_append.mp z with z | z
        · exact n1 x z this
        · exact n2 x z this), ObAll.append (hall.mono (fun x m => (k1 x (List.mem_append_left _ (hsub x m))).trans (same e03 (r.liv x (mem_flat eP (hsub x m))))) (g.trans k2))
          (.cons (fun G2 F2 z1 z2 => m1 G2 F2 (fun x m => ((z1 x m).trans (k1 x (List.mem_append_right _ (List.mem_append_left _ m)))).trans (same e13 (f1 x m).2)) ((c1.trans k2).trans z2))
            (.cons (fun G2 F2 z1 z2 => m2 G2 F2 (fun x m => ((z1 x m).trans (k1 x (List.mem_append_right _ (List.mem_append_right _ m)))).trans (same e3 (f2 x m).2)) ((c2.trans k2).trans z2)) .nil))⟩⟩)
    obtain ⟨R4, g4⟩ := R3.step (i := j) (l := []) (sl := .ob (opq [v1, v2])) (σ' := σ.set j (some (.ref p))) (H' := upd H2 p (.lst [v1, v2])) (by rw [List.length_set]; exact hj) (by rw [List.length_set]) (fun i hi => List.getElem?_set_ne (Ne.symm hi)) (fun a m => (nomatch m)) (fun a m => (nomatch m)) (fun a o e _ => e)
      (fun g => ⟨.ref p, [], List.getElem?_set_self (by rw [r.len]; exact hj), List.getElem?_set_self (by rw [List.length_set, r.lenP]; exact hj), fun G F k1 k2 => ⟨p, rfl, k2 _ _ (g _ _ (fro_some.mpr ⟨((r.ext e1).ext e2).notO hp, fun m => by
        rcases hset p m with z | z | z
        · exact ((r.ext e1).ext e2).notP hp z
        · exact live e2 (f1 p z).2 hp
        · exact (f2 p z).2 hp, upd_same⟩))⟩⟩)
    exact kn _ _ _ _ R4 (g3.trans g4) (q v1 v2)⟩
/-! own lists made for a display -/
def EvNA (K : PySem.W.Frag) (ta : TA) (S : List Sl) (qs : List (List D)) : Prop := ∀ O H0 H P σ, Rep K O H0 H P σ S → ∀ Q : List V → Hp → Prop, (∀ (ps : List Addr) H', Same H H' → ps.length = qs.length → ps.Nodup → (∀ p, p ∈ ps → H p = none) → (∀ (j : Nat) (p : Addr) (q : List D), ps[j]? = some p → qs[j]? = some q → ∃ vs, H' p = some (.lst vs) ∧ RpAll K (fro H' O (ps :: P)) vs q) → Q (ps.map V.ref) H') → ta σ H Q
theorem na_nil : EvNA K tNil S [] := fun O H0 H P σ r Q q => q [] H (Same.refl H) rfl List.nodup_nil (fun p m => (nomatch m)) (fun j p q a _ => nomatch a)
theorem na_cons (h : EvN K te S q) (hr : EvNA K ta S qs) : EvNA K (tCons te ta) S (q :: qs) := fun O H0 H P σ r Q z =>
  h O H0 H P σ r _ fun p vs H1 e1 hp hp1 rv => hr ([p] ++ O) _ H1 P σ (r.sideL (fp := [p]) e1 (fun x m => by rw [List.mem_singleton.mp m]; exact hp) fun x m => by rw [List.mem_singleton.mp m, hp1]; simp) _ fun ps H2 e2 hl hn hf hall => by
    refine z (p :: ps) H2 (e1.trans e2) (congrArg Nat.succ hl) (List.nodup_cons.mpr ⟨(fun m => by rw [hf p m] at hp1; exact nomatch hp1), hn⟩) (fun x m => ?_) (fun j x y a b => ?_)
    · rcases List.mem_cons.mp m with m | m
      · rw [m]; exact hp
      · exact e1.free (hf x m)
    · match j, a, b with
      | 0, a, b =>
        cases a
        cases b
        refine ⟨vs, e2 _ _ hp1, rv.mono (hid_le e2 fun x m => ?_)⟩
        rw [List.flatten_cons] at m ⊢
        rcases List.mem_append.mp m with m | m
        · exact .inl (List.mem_append_left _ m)
        · rcases List.mem_append.mp m with m | m
          · rcases List.mem_cons.mp m with m | m
            · exact .inl (List.mem_append_right _ (by rw [m]; simp))
            · exact .inr (hf x m)
          · exact .inl (List.mem_append_right _ (List.mem_append_right _ m))
      | j + 1, a, b =>
        obtain ⟨us, w1, w2⟩ := hall j x y a b
        refine ⟨us, w1, w2.mono ?_⟩
        intro x o y
        obtain ⟨y1, y2, y3⟩ := fro_some.mp y
        rw [List.flatten_cons] at y2
        refine fro_some.mpr ⟨fun m => y1 (List.mem_append_right _ m), fun m => ?_, y3⟩
        rw [List.flatten_cons] at m
        rcases List.mem_append.mp m with m | m
        · rcases List.mem_cons.mp m with m | m
          · exact y1 (List.mem_append_left _ (by rw [m]; simp))
          · exact y2 (List.mem_append_left _ m)
        · exact y2 (List.mem_append_right _ m)
theorem evob_nest (h : EvNA K ta S qs) (hl : qs.length ≤ sizeLine) : EvOb K (tLst ta) S (nest qs) := fun O H0 H P σ r Q z =>
  h O H0 H P σ r _ fun ps H1 e1 hl1 hn hf hall => ⟨by rw [List.length_map, hl1]; exact hl, fun p hp => by
    have e2 : Same H1 (upd H1 p (.lst (ps.map V.ref))) := same_new hp
    have hnp : p ∉ ps := fun m => by
      obtain ⟨j, hj⟩ := List.mem_iff_getElem?.mp m
      obtain ⟨q, hq⟩ : ∃ q, qs[j]? = some q := ⟨_, List.getElem?_eq_getElem (by rw [← hl1]; exact set_some hj)⟩
      obtain ⟨vs, w, _⟩ := hall j p q hj hq
      rw [w] at hp
      cases hp
    have hlv : ∀ x, x ∈ ps → H1 x ≠ none := fun x m => by
      obtain ⟨j, hj⟩ := List.mem_iff_getElem?.mp m
      obtain ⟨q, hq⟩ : ∃ q, qs[j]? = some q := ⟨_, List.getElem?_eq_getElem (by rw [← hl1]; exact set_some hj)⟩
      obtain ⟨vs, w, _⟩ := hall j x q hj hq
      rw [w]
      simp
    refine z _ _ (p :: ps) (e1.trans e2) (fun x m => ?_) fun H2 F2 k1 k2 => ⟨p, ps, rfl, rfl, by rw [k1 p List.mem_cons_self, upd_same], hl1, hn, hnp, fun j x q a b => ?_⟩
    · rcases List.mem_cons.mp m with m | m
      · rw [m, upd_same]
        exact ⟨e1.free hp, by simp⟩
      · refine ⟨hf x m, ?_⟩
        rw [upd_ne (fun y => hnp (by rw [← y]; exact m))]
        exact hlv x m
    · obtain ⟨vs, w1, w2⟩ := hall j x q a b
      have m := List.mem_of_getElem? a
      refine ⟨vs, by rw [k1 x (List.mem_cons_of_mem _ m), upd_ne (fun y => hnp (by rw [← y]; exact m))]; exact w1, w2.mono (Same.trans (hid_le e2 fun x m => ?_) k2)⟩
      rw [List.flatten_cons] at m ⊢
      rcases List.mem_append.mp m with m | m
      · exact .inl (List.mem_append_left _ m)
      · rcases List.mem_append.mp m with m | m
        · rcases List.mem_cons.mp m with m | m
          · exact .inr (by rw [m]; exact hp)
          · exact .inl (List.mem_append_right _ (List.mem_append_left _ m))
        · exact .inl (List.mem_append_right _ (List.mem_append_right _ m))⟩
end
end Dx

namespace Dx
open PySem PySem.Spec PyProof.Rows L2
/-! ## a loop over a list or a tuple, as comes -/
def iSeq (K : PySem.W.Frag) (tl : TE) : TI := fun σ H R => tl σ H fun x H1 => ∃ a, x = .ref a ∧ (((∃ xs, SqL K H1 a xs) ∧ R (Itl K a) H1) ∨ ((∃ xs, SqT K H1 a xs) ∧ R (Itt K a) H1))
theorem pi_seq {X : Cx} {tg l : Expr} {tl : TE} (hl : PE X l tl) : PI X tg l (iSeq X.K tl) := by
  refine ⟨fun pins s σ H R I h => ?_⟩
  refine thn (hl.run pins s σ H _ I h) fun v s1 ⟨x, H1, I1, r1, q1⟩ => ?_
  obtain ⟨a, e, ⟨⟨xs, hq⟩, q⟩ | ⟨⟨xs, hq⟩, q⟩⟩ := q1
  · subst e
    cases r1
    obtain ⟨its, rv, p, hz⟩ := I1.list hq
    refine wpAny_pyIter_list p.isList ?_
    refine ⟨s1.heap.objs.size, [s1.heap.objs.size], _, _, H1, rfl, I1.kept (t' := s1.toks) fun b o e => Heap.get?_push_of_some _ e, turn_list a _, ⟨_, Heap.get?_push_size _ rfl, rfl, rfl⟩, fun b hb => ?_, q⟩
    have e : b = s1.heap.objs.size := by simpa using hb
    subst e
    exact I1.fpOk (Nat.le_refl _) (I1.hok.fresh (Nat.le_refl _))
  · subst e
    cases r1
    obtain ⟨its, rv, p, hz⟩ := I1.tuple hq
    refine wpAny_pyIter_tuple (show s1.heap.IsTuple a its.toArray from p) ?_
    refine ⟨s1.heap.objs.size, [s1.heap.objs.size], _, _, H1, rfl, I1.kept (t' := s1.toks) fun b o e => Heap.get?_push_of_some _ e, turn_tuple a _, ⟨_, Heap.get?_push_size _ rfl, rfl, rfl⟩, fun b hb => ?_, q⟩
    have e : b = s1.heap.objs.size := by simpa using hb
    subst e
    exact I1.fpOk (Nat.le_refl _) (I1.hok.fresh (Nat.le_refl _))
section
variable {K : PySem.W.Frag} {S : List Sl} {te : TE} {ds : List D}
theorem it_seqL (h : EvD K te S (.lst ds)) : ItD K (iSeq K te) S ds := fun O H0 H P σ r Z q => h O H0 H P σ r _ fun x H1 e1 r1 => by
  cases r1 with
  | lst hp rv => exact ⟨_, rfl, .inl ⟨⟨_, .of (fro_le _ _ hp)⟩, q _ H1 e1 (walks_l (.of hp) rv)⟩⟩
theorem it_seqT (h : EvD K te S (.tup ds)) : ItD K (iSeq K te) S ds := fun O H0 H P σ r Z q => h O H0 H P σ r _ fun x H1 e1 r1 => by
  cases r1 with
  | tup hp rv =>
    refine ⟨_, rfl, .inr ⟨⟨_, .of (fro_le _ _ hp)⟩, q _ H1 e1 ?_⟩⟩
    have hl := rv.length
    have tt : ∀ {H : Hp}, Same (fro H1 O P) H → SqT K H _ _ := fun g => .of (g _ _ hp)
    refine ⟨fun i H g hi => ⟨_, _, tt g, List.getElem?_eq_getElem (by omega)⟩, fun i H g hi => ⟨_, tt g, by omega⟩, fun i H x H' d g hd y => ?_⟩
    obtain ⟨e, hx⟩ := y
    obtain ⟨d', h1, h2⟩ := rv.get (hx _ (tt g))
    rw [hd] at h1
    cases h1
    exact ⟨by rw [e]; exact Same.refl _, h2.mono jn_left⟩
end
/-! ## isinstance of the exception that the suite holds, whatever its class -/
def rIsX (K : PySem.W.Frag) (cls : Value) (d : Option Addr) (a : Addr) : List V → Hp → VK → Prop := fun xs H Q => ∃ D, cls = .ref D ∧ d = none ∧ ExcC K D ∧ rIsE K D a xs H Q
theorem call_isX {X : Cx} {a : Addr} {cls : Value} {d : Option Addr} {oe : Obj} {pn : List (Addr × Obj)} (hz : Zc cls d oe) (hf : ∃ vs, oe.data = .fields vs) : CallR (X.suite a ((a, oe) :: pn)) (.builtin "isinstance") (rIsX X.K cls d a) := by
  intro pins s σ H xs us Q I r h
  obtain ⟨D, rfl, rfl, C, q⟩ := h
  exact call_isE C hz hf pins s σ H xs us Q I r q
/-! ## try .. except X as n -/
section
variable {K : PySem.W.Frag} {S : List Sl} {tb : WX → TS} {ts : Addr → Value → Option Addr → TS} {N : List Sl → Prop} {R : Rv → Prop} {X : Value → List Sl → Prop} {c : Value} {Wout : WX} {i : Nat}
def SmT (K : PySem.W.Frag) (tb : WX → TS) (N : List Sl → Prop) (R : Rv → Prop) (X : Value → List Sl → Prop) (S : List Sl) : Prop := ∀ O H0 H P σ, Rep K O H0 H P σ S → ∀ (De : Ends) (W : WX),
  (∀ H' P' σ' S', Rep K O H0 H' P' σ' S' → Same (fro H O P) (fro H' O P') → N S' → De.nx σ' H') → (∀ v H' r, RetOk K O H0 H' v r → R r → De.rt v H') →
  (∀ cls H' P' σ' S', Rep K O H0 H' P' σ' S' → Same (fro H O P) (fro H' O P') → X cls S' → W cls none σ' H') → tb W De σ H
theorem sem_tryAs (hb : SmT K tb N R X S) (hx : ∀ cls S', X cls S' → i < S'.length ∧ PySem.W.exmOne K cls c = some true ∧ ∀ a, Sm K (ts a cls none) (fun S2 => i < S2.length ∧ N (S2.set i .no)) R (S'.set i (.ob (isRef a)))) :
    Sm K (fun D σ H => tb (wAs K c i ts Wout D) D σ H) N R S := fun O H0 H P σ r De kn kr =>
  hb O H0 H P σ r De _ kn kr fun cls H' P' σ' S' r' g hX => by
    obtain ⟨hi, he, hs⟩ := hx cls S' hX
    refine ⟨true, he, fun _ a ha => ?_, fun z => nomatch z⟩
    obtain ⟨R2, g2⟩ := r'.step (i := i) (l := []) (sl := .ob (isRef a)) (σ' := σ'.set i (some (.ref a))) (H' := H') hi (by rw [List.length_set]) (fun j hj => List.getElem?_set_ne (Ne.symm hj)) (fun a m => (nomatch m)) (fun a m => (nomatch m)) (fun a o e _ => e) fun g =>
      ⟨.ref a, [], List.getElem?_set_self (by rw [r'.len]; exact hi), List.getElem?_set_self (by rw [r'.lenP]; exact hi), fun _ _ _ _ => ⟨rfl, rfl⟩⟩
    refine hs a O H0 H' _ _ R2 _ (fun H3 P3 σ3 S3 r3 g3 n3 => ?_) kr
    obtain ⟨h3, n3⟩ := n3
    obtain ⟨R4, g4⟩ := r3.step (i := i) (l := []) (sl := .no) (σ' := σ3.set i none) (H' := H3) h3 (by rw [List.length_set]) (fun j hj => List.getElem?_set_ne (Ne.symm hj)) (fun a m => (nomatch m)) (fun a m => (nomatch m)) (fun a o e _ => e) fun g => List.getElem?_set_self (by rw [r3.lenP]; exact h3)
    exact kn H3 _ _ _ R4 (((g.trans g2).trans g3).trans g4) n3
end
/-! ## calls that may raise -/
section
variable {K : PySem.W.Frag} {O : List Addr} {H0 H : Hp} {P : List (List Addr)} {σ : L2.St} {S : List Sl} {v : V}
theorem obj_exc1 {α β : Type} {ob : β → List Fam} {A : α → List D} {pre : α → β → Prop} {f : α → β → Ov} {g : α → β → β} {φ : Fam} {k : Nat} {ws : List V} {Q : VK} {E : XK} {c : Value} (a : α) (s : β) (r : Rep K O H0 H P σ S) (hk : S[k]? = some (.ob (pinF v φ))) (hv : RpAll K (fro H O P) ws (A a)) (hob : ob s = [φ]) (hp : pre a s) (hf : f a s = .exc c)
    (q : ∀ H', Same H H' → E c none H') : PSpO K ob A pre f g (v :: ws) H Q E := by
  obtain ⟨v', fp, e, eP, hφ⟩ := r.at_ k _ hk
  have ev : v' = v := (hφ H (fro H O P) (fun _ _ => rfl) (Same.refl _)).1
  subst ev
  have sub : ∀ x, x ∈ (P.set k []).flatten → x ∈ P.flatten := fun x m => by
    rcases mem_set m with z | ⟨j, m', hj, z, r'⟩
    · cases z
    · exact mem_flat z r'
  have fz : Same (fro H O P) (fro H (O ++ (P.set k []).flatten) [fp]) := hid_le (Same.refl _) fun x m => .inl (by
    rw [List.flatten_cons, List.flatten_nil, List.append_nil] at m
    rcases List.mem_append.mp m with m | m
    · rcases List.mem_append.mp m with m | m
      · exact List.mem_append_left _ m
      · exact List.mem_append_right _ (sub x m)
    · exact List.mem_append_right _ (mem_flat eP m))
  refine ⟨a, s, O ++ (P.set k []).flatten, [v'], [fp], ws, rfl, fun x m => ?_, fun x m => ?_, fun i j l m x h1 h2 _ _ => ?_, hv.mono fz, ?_, hp, fun rr' hr => ?_, fun c' hc H' s => ?_⟩
  · rcases List.mem_append.mp m with m | m
    · exact call_core r x (List.mem_append_left _ m)
    · exact call_core r x (List.mem_append_right _ (sub x m))
  · rw [List.flatten_cons, List.flatten_nil, List.append_nil] at m
    refine ⟨fun z => ?_, r.liv x (mem_flat eP m)⟩
    rcases List.mem_append.mp z with z | z
    · exact (r.pO (mem_flat eP m)).1 z
    · rcases mem_set z with y | ⟨j, m', hj, y, r'⟩
      · cases y
      · exact hj (r.inj j k m' fp x y eP r' m)
  · match i, j, h1, h2 with
    | 0, 0, _, _ => rfl
  · rw [hob]
    exact .cons (fun H2 F2 h1 h2 => (hφ H2 F2 h1 (fz.trans h2)).2) .nil
  · rw [hf] at hr
    cases hr
  · rw [hf] at hc
    cases hc
    exact q H' s
end
section
variable {K : PySem.W.Frag} {S : List Sl} {te tc : TE} {t : TS} {N : List Sl → Prop} {R : Rv → Prop} {v : V} {i j k : Nat} {qs : List (List D)} {q0 : List D} {d : D}
theorem evd_isX {a D Cx : Addr} {b : Bool} (hk : S[i]? = some (.ob (isRef a))) (hC : ExcC K D) (hb : PySem.W.kitOne K (.ref D) (.ref Cx) = some b) : EvD K (tCB (rIsX K (.ref D) none a) (tCons (tVar i) (tCons (tC (.ref Cx)) tNil))) S (.bl b) := fun O H0 H P σ r Q q => by
  obtain ⟨v', fp, e, eP, hφ⟩ := r.at_ i _ hk
  obtain ⟨ev, _⟩ := hφ H (fro H O P) (fun _ _ => rfl) (Same.refl _)
  subst ev
  exact ⟨_, e, D, rfl, rfl, hC, .ref Cx, .ref Cx, b, rfl, (fun u h => h), hb, q _ H (Same.refl H) (.bl _)⟩
theorem evd_isXT {a D : Addr} {c : String} {b : Bool} (hk : S[i]? = some (.ob (isRef a))) (hC : ExcC K D) (hb : PySem.W.kitOne K (.ref D) (.type c) = some b) : EvD K (tCB (rIsX K (.ref D) none a) (tCons (tVar i) (tCons (tC (.ty c)) tNil))) S (.bl b) := fun O H0 H P σ r Q q => by
  obtain ⟨v', fp, e, eP, hφ⟩ := r.at_ i _ hk
  obtain ⟨ev, _⟩ := hφ H (fro H O P) (fun _ _ => rfl) (Same.refl _)
  subst ev
  exact ⟨_, e, D, rfl, rfl, hC, .ty c, .type c, b, rfl, (fun u h => h), hb, q _ H (Same.refl H) (.bl _)⟩
/-! ## an own list within popped, what comes walked -/
theorem Rep.weak {O : List Addr} {H0 H : Hp} {P : List (List Addr)} {σ : L2.St} {sl sl' : Sl} (r : Rep K O H0 H P σ S) (hk : S[k]? = some sl) (h : SlOk K H (fro H O P) P σ k sl → SlOk K H (fro H O P) P σ k sl') : Rep K O H0 H P σ (S.set k sl') :=
  ⟨by rw [List.length_set]; exact r.len, by rw [List.length_set]; exact r.lenP, r.olv, r.base, r.inj, r.liv, fun i s e => by
    by_cases z : k = i
    · subst z
      rw [List.getElem?_set_self (set_some hk)] at e
      cases e
      exact h (r.at_ k sl hk)
    · rw [List.getElem?_set_ne z] at e
      exact r.at_ i s e⟩
def andF (φ : Fam) (y : V) (d : D) : Fam := fun K H F v fp => φ K H F v fp ∧ Rp K F y d
theorem it_and {y : V} {ds : List D} {φ : Fam} (hk : S[k]? = some (.ob (andF φ y (.lst ds)))) : ItD K (iList K (tC y)) S ds := it_list fun O H0 H P σ r Q q => by
  obtain ⟨v', fp, e, eP, hφ⟩ := r.at_ k _ hk
  exact q y H (Same.refl H) (hφ H (fro H O P) (fun _ _ => rfl) (Same.refl _)).2
theorem sem_asgPopLc {g : TG} {tt : TT} {vs : List Nat} {rs : List D} (hk : S[k]? = some (.ob (pinF v (nest qs)))) (hj : qs[j]? = some (q0 ++ [d])) (hi : i < S.length) (hik : i ≠ k) (h : ∀ y, EvN K (tLc (iList K (tC y)) g tt te vs) (S.set k (.ob (andF (pinF v (nest (qs.set j q0))) y d))) rs)
    (q : N ((S.set k (.ob (pinF v (nest (qs.set j q0))))).set i (.ow rs))) : Sm K (tAsg (tLc (iList K (tBM0 K "list" rPop (tOp (rIxL K) (tVar k) (tC (.int (j : Int)))))) g tt te vs) (gName i)) N R S := fun O H0 H P σ r De kn kr => by
  obtain ⟨pk, ps, ev, e, eP, h1, h2, h3, h4, h5⟩ := nest_at r hk
  have hjl : j < ps.length := by rw [h2]; exact set_some hj
  have hp : ps[j]? = some ps[j] := List.getElem?_eq_getElem hjl
  obtain ⟨us, w1, w2⟩ := h5 j ps[j] _ hp hj
  have hl := w2.length
  rw [List.length_append, List.length_singleton] at hl
  obtain ⟨y, hy⟩ : ∃ y, us[us.length - 1]? = some y := ⟨_, List.getElem?_eq_getElem (by omega)⟩
  obtain ⟨d', hd1, hd2⟩ := w2.get hy
  rw [hl, List.getElem?_append_right (by omega), show q0.length + 1 - 1 - q0.length = 0 by omega] at hd1
  cases hd1
  have w3 := w2.dropLast
  rw [List.dropLast_concat] at w3
  obtain ⟨R2, g2⟩ := nest_write (q' := q0) (vs' := us.dropLast) r hk ev e eP h1 h2 h3 h4 h5 hp w3
  have R3 := R2.weak (k := k) (sl' := .ob (andF (pinF v (nest (qs.set j q0))) y d)) (List.getElem?_set_self (set_some hk)) fun w => by
    obtain ⟨v', fp, z1, z2, z3⟩ := w
    exact ⟨v', fp, z1, z2, fun H' F' a b => ⟨z3 H' F' a b, (hd2.mono g2).mono b⟩⟩
  rw [List.set_set] at R3
  refine ⟨_, e, pk, ps.map V.ref, (j : Int), .ref ps[j], rfl, rfl, .of h1, atI_nat (by rw [List.getElem?_map, hp]; rfl), .inl ⟨rfl, _, .of w1⟩, ps[j], us, y, rfl, rfl, w1, hy, ?_⟩
  refine h y O H0 _ _ σ R3 (fun x H1 => gName i x σ H1 De.nx) fun p vs' H1 e1 hn hp' r1 => ?_
  obtain ⟨R4, g4⟩ := R3.setNew (i := i) (by rw [List.length_set]; exact hi) e1 hn hp' r1
  have R5 := R4.weak (k := k) (sl' := .ob (pinF v (nest (qs.set j q0)))) (by rw [List.getElem?_set_ne hik, List.getElem?_set_self (set_some hk)]) fun w => by
    obtain ⟨v', fp, z1, z2, z3⟩ := w
    exact ⟨v', fp, z1, z2, fun H' F' a b => (z3 H' F' a b).1⟩
  rw [List.set_comm _ _ hik, List.set_set] at R5
  exact kn _ _ _ _ R5 (g2.trans g4) q
/-! ## two lists of any values, walked together -/
def anyF : Fam := fun _ _ _ _ _ => True
theorem sem_zipO {k1 k2 j1 j2 : Nat} {us ws : List V} (hk1 : S[k1]? = some (.ob (opq us))) (hk2 : S[k2]? = some (.ob (opq ws))) (hl : us.length = ws.length) (Pv : Nat → List Sl → Prop) (h0 : Pv 0 S) (hj : ∀ i S', Pv i S' → j1 < S'.length ∧ j2 < S'.length)
    (hs : ∀ (i : Nat) u w S', us[i]? = some u → ws[i]? = some w → Pv i S' → Sm K t (Pv (i + 1)) R ((S'.set j1 (.ob (pinF u anyF))).set j2 (.ob (pinF w anyF)))) (hd : ∀ S', Pv us.length S' → N S') :
    Sm K (tFor (iZip K (tCons (tVar k1) (tCons (tVar k2) tNil))) (gTup K 2 (gCons (gName j1) (gCons (gName j2) gNil))) t) N R S := fun O H0 H P σ r De kn kr => by
  obtain ⟨v1, fp1, e1, eP1, hφ1⟩ := r.at_ k1 _ hk1
  obtain ⟨p1, ev1, hp1⟩ := hφ1 H (fro H O P) (fun _ _ => rfl) (Same.refl _)
  obtain ⟨v2, fp2, e2, eP2, hφ2⟩ := r.at_ k2 _ hk2
  obtain ⟨p2, ev2, hp2⟩ := hφ2 H (fro H O P) (fun _ _ => rfl) (Same.refl _)
  subst ev1 ev2
  have up : ∀ {H2 : Hp} {P2 : List (List Addr)}, Same (fro H O P) (fro H2 O P2) → Same (fro H O P) H2 := fun g => g.trans fro_le
  refine ⟨_, e1, _, e2, p1, p2, us, ws, rfl, .of (fro_le _ _ hp1), .of (fro_le _ _ hp2), ?_⟩
  refine ⟨fun i m σ' H' => m = us.length - i ∧ i ≤ us.length ∧ ∃ P' S', Rep K O H0 H' P' σ' S' ∧ Same (fro H O P) (fro H' O P') ∧ Pv i S', ⟨us.length, rfl, Nat.zero_le _, P, S, r, Same.refl _, h0⟩, ?_⟩
  rintro i m σ' H' ⟨rfl, hi, P', S', r', g', p'⟩
  have q1 : SqL K H' p1 us := .of (up g' _ _ hp1)
  have q2 : SqL K H' p2 ws := .of (up g' _ _ hp2)
  by_cases hlt : i < us.length
  · have hu : us[i]? = some us[i] := List.getElem?_eq_getElem hlt
    obtain ⟨w0, hw⟩ : ∃ w0, ws[i]? = some w0 := ⟨_, List.getElem?_eq_getElem (by omega)⟩
    refine .inr ⟨⟨us, ws, us[i], w0, q1, q2, hu, hw⟩, fun σ2 H2 => ∃ P2 S2, Rep K O H0 H2 P2 σ2 S2 ∧ Same (fro H O P) (fro H2 O P2) ∧ Pv (i + 1) S2, fun σ2 H2 q => ⟨us.length - (i + 1), by omega, rfl, hlt, q⟩, fun x H2 y => ?_⟩
    obtain ⟨T, x1, y1, rfl, hT, rfl, c1, c2⟩ := y
    have d1 := c1 us q1
    have d2 := c2 ws q2
    rw [hu] at d1
    rw [hw] at d2
    cases d1
    cases d2
    have r2 := r'.ext (same_new (o := .tup [us[i], w0]) hT)
    obtain ⟨b1, b2⟩ := hj i S' p'
    obtain ⟨R3, g3⟩ := r2.step (i := j1) (l := []) (sl := .ob (pinF us[i] anyF)) (σ' := σ'.set j1 (some us[i])) (H' := upd H' T (.tup [us[i], w0])) b1 (by rw [List.length_set]) (fun j hj => List.getElem?_set_ne (Ne.symm hj)) (fun a m => (nomatch m)) (fun a m => (nomatch m)) (fun a o e _ => e) fun g =>
      ⟨_, [], List.getElem?_set_self (by rw [r2.len]; exact b1), List.getElem?_set_self (by rw [r2.lenP]; exact b1), fun _ _ _ _ => ⟨rfl, trivial⟩⟩
    obtain ⟨R4, g4⟩ := R3.step (i := j2) (l := []) (sl := .ob (pinF w0 anyF)) (σ' := (σ'.set j1 (some us[i])).set j2 (some w0)) (H' := upd H' T (.tup [us[i], w0])) (by rw [List.length_set]; exact b2) (by rw [List.length_set, List.length_set]) (fun j hj => by rw [List.getElem?_set_ne (Ne.symm hj)]) (fun a m => (nomatch m)) (fun a m => (nomatch m)) (fun a o e _ => e) fun g =>
      ⟨_, [], List.getElem?_set_self (by rw [R3.len, List.length_set]; exact b2), List.getElem?_set_self (by rw [R3.lenP, List.length_set]; exact b2), fun _ _ _ _ => ⟨rfl, trivial⟩⟩
    refine ⟨T, _, rfl, .of upd_same, rfl, _, _, rfl, _, _, rfl, rfl, ?_⟩
    exact hs i _ _ S' hu hw p' O H0 _ _ _ R4 _ (fun H4 P4 σ4 S4 r4 g5 n4 => ⟨P4, S4, r4, (((g'.trans (fro_same (same_new hT))).trans g3).trans g4).trans g5, n4⟩) kr
  · have e : i = us.length := by omega
    subst e
    exact .inl ⟨⟨us, ws, q1, q2, .inl (Nat.le_refl _)⟩, kn H' P' σ' S' r' g' (hd S' p')⟩
/-! ## the counter made -/
def spInit (C : Addr) : Sp := fun vs H Q _ => ∃ x dx, vs = [.ref x] ∧ H x = some (.ins C dx []) ∧ ∀ pr pd H', H pr = none → H pd = none → pr ≠ pd → H' x = some (.ins C dx [("row", .ref pr), ("deeds", .ref pd)]) → H' pr = some (.lst []) → H' pd = some (.lst []) → (∀ a o, H a = some o → a ≠ x → H' a = some o) → Q .non H'
theorem evob_ctr {C : Addr} {E : XK} : EvOb K (tMake C (spInit C) [] E tNil) S (ctr C ([], [])) := fun O H0 H P σ r Q z => by
  intro x dx hx hdx hne
  refine ⟨x, dx, rfl, upd_same, fun pr pd H' h1 h2 h3 h4 h5 h6 h7 => ⟨rfl, ?_⟩⟩
  have e : Same H H' := fun a o y => by
    have ax : a ≠ x := fun w => by rw [w, hx] at y; cases y
    have ad : a ≠ dx := fun w => by rw [w, hdx] at y; cases y
    exact h7 a o (by rw [upd_ne ax, upd_ne ad]; exact y) ax
  have hd' : H' dx ≠ none := by rw [h7 dx (.own x) (by rw [upd_ne hne, upd_same]) hne]; simp
  have nx : pr ≠ x := fun w => by rw [w, upd_same] at h1; cases h1
  have nx2 : pd ≠ x := fun w => by rw [w, upd_same] at h2; cases h2
  have nd : pr ≠ dx := fun w => by rw [w, upd_ne hne, upd_same] at h1; cases h1
  have nd2 : pd ≠ dx := fun w => by rw [w, upd_ne hne, upd_same] at h2; cases h2
  have hr : H pr = none := by rw [upd_ne nx, upd_ne nd] at h1; exact h1
  have hp : H pd = none := by rw [upd_ne nx2, upd_ne nd2] at h2; exact h2
  refine z _ H' [x, dx, pd] e (fun y m => ?_) fun H2 F2 k1 k2 => ⟨x, dx, pd, .ref pr, [], rfl, rfl, by rw [k1 x (by simp)]; exact h4, by rw [k1 dx (by simp)]; exact hd', by rw [k1 pd (by simp)]; exact h6, .nil, ?_⟩
  · simp only [List.mem_cons, List.not_mem_nil, or_false] at m
    rcases m with rfl | rfl | rfl
    · exact ⟨hx, by rw [h4]; simp⟩
    · exact ⟨hdx, hd'⟩
    · exact ⟨hp, by rw [h6]; simp⟩
  · refine .lst (k2 _ _ (fro_some.mpr ⟨r.notO hr, fun m => ?_, h5⟩)) .nil
    rw [List.flatten_cons] at m
    rcases List.mem_append.mp m with m | m
    · simp only [List.mem_cons, List.not_mem_nil, or_false] at m
      rcases m with m | m | m
      · exact nx m
      · exact nd m
      · exact h3 m
    · exact r.notP hr m
end
end Dx

namespace Dx
open PySem PySem.Spec PyProof.Rows L2
/-! ## a counter's history: the deeds not undone, the last first -/
abbrev His := List (Bool × Nat)
def rowT : His → List Int
  | [] => []
  | x :: t => deedL (rowT t) x.1 x.2
def rowsT : His → List (List Int)
  | [] => [[]]
  | x :: t => rowsT t ++ [rowT (x :: t)]
def deedsT : His → List tri3
  | [] => []
  | x :: t => deedsT t ++ [chL (rowT t) x.1 x.2]
def wosT : His → List Int
  | [] => [0]
  | x :: t => wosT t ++ [wo (rowT (x :: t))]
def okT (t : His) : Prop := (∀ x, x ∈ t → x.2 ≤ 399) ∧ t.length ≤ 1000
theorem okT.tail {x : Bool × Nat} {t : His} (h : okT (x :: t)) : okT t := ⟨fun y m => h.1 y (List.mem_cons_of_mem _ m), by have := h.2; rw [List.length_cons] at this; omega⟩
theorem rowT_calm : ∀ t : His, isCalm (rowT t) = true
  | [] => rfl
  | x :: t => deed_calm x.1 x.2 (rowT_calm t)
theorem rowT_len : ∀ {t : His}, (∀ x, x ∈ t → x.2 ≤ 399) → (rowT t).length ≤ 401 + t.length
  | [], _ => Nat.zero_le _
  | x :: t, h => by
    have ih := rowT_len fun y m => h y (List.mem_cons_of_mem _ m)
    have h1 := h x List.mem_cons_self
    have h2 := deed_len (rowT t) x.1 x.2
    rw [List.length_cons]
    show (deedL (rowT t) x.1 x.2).length ≤ _
    omega
theorem rowsT_len : ∀ t : His, (rowsT t).length = t.length + 1
  | [] => rfl
  | x :: t => by rw [rowsT, List.length_append, rowsT_len t]; rfl
theorem deedsT_len : ∀ t : His, (deedsT t).length = t.length
  | [] => rfl
  | x :: t => by rw [deedsT, List.length_append, deedsT_len t]; rfl
theorem wosT_len : ∀ t : His, (wosT t).length = t.length + 1
  | [] => rfl
  | x :: t => by rw [wosT, List.length_append, wosT_len t]; rfl
theorem rowsT_last (t : His) : ∃ xs, rowsT t = xs ++ [rowT t] ∧ xs.length = t.length := by
  cases t with
  | nil => exact ⟨[], rfl, rfl⟩
  | cons x t => exact ⟨rowsT t, rfl, rowsT_len t⟩
theorem wosT_last (t : His) : ∃ xs, wosT t = xs ++ [wo (rowT t)] ∧ xs.length = t.length := by
  cases t with
  | nil => exact ⟨[], rfl, rfl⟩
  | cons x t => exact ⟨wosT t, rfl, wosT_len t⟩
theorem ch_bd {ns : List Int} {up : Bool} {p : Nat} (hp : p ≤ 9998) (hl : ns.length ≤ 9999) : ∀ c, c ∈ chL ns up p → 0 ≤ c.1 ∧ c.1 ≤ 10000 := fun c m => by
  unfold chL at m
  obtain ⟨q, hq, rfl⟩ := List.mem_map.mp m
  have h1 := saL_pos ns up p q hq
  have h2 := saL_bd ns up p q hq
  show 0 ≤ q.1 ∧ q.1 ≤ 10000
  omega
theorem deedsT_bd : ∀ {t : His}, okT t → ∀ x, x ∈ deedsT t → x.length ≤ 10000 ∧ ∀ c, c ∈ x → 0 ≤ c.1 ∧ c.1 ≤ 10000
  | [], _ => fun x m => (nomatch m)
  | y :: t, h => fun x m => by
    rw [deedsT] at m
    rcases List.mem_append.mp m with m | m
    · exact deedsT_bd h.tail x m
    · rw [List.mem_singleton.mp m]
      have h1 := rowT_len h.tail.1
      have h2 := h.tail.2
      have h3 := h.1 y List.mem_cons_self
      exact ⟨Nat.le_trans (chL_count _ _ _).2 (by omega), ch_bd (by omega) (by omega)⟩
theorem undo_row (x : Bool × Nat) (t : His) : putL (rowT (x :: t)) ((chL (rowT t) x.1 x.2).map turnF) = rowT t := deed_home x.1 x.2 (rowT_calm t)
def csT (t : His) : List Int × List tri3 := (rowT t, deedsT t)
/-- what the law keeps beside: rows, deeds, worths, what was told -/
abbrev KT := His × List tri3
abbrev pairT (x : tri3) : D := .tup [dLtri x, dLtri x]
def kqT (st : KT) : List (List D) := [(rowsT st.1).map lstI, (deedsT st.1).map dLtri, (wosT st.1).map D.int, st.2.map pairT]
def undoS : KT → KT
  | ([], u) => ([], u)
  | (x :: t, u) => (t, u ++ [(chL (rowT t) x.1 x.2).map turnF])
def deedS (up : Bool) (p : Nat) (odd : Bool) (st : KT) : KT := ((up, p) :: st.1, st.2 ++ [chL (rowT st.1) up p ++ if odd = true then [] else [(0, 0, 1)]])
def okS (n : Nat) (st : KT) : Prop := (∀ x, x ∈ st.1 → x.2 ≤ 399) ∧ st.1.length ≤ n ∧ st.2.length ≤ n
theorem okS.okT {n : Nat} {st : KT} (h : okS n st) (hn : n ≤ 1000) : Dx.okT st.1 := ⟨h.1, by have := h.2.1; omega⟩
theorem okS.undo {n : Nat} {st : KT} (h : okS n st) : okS (n + 1) (undoS st) := by
  obtain ⟨t, u⟩ := st
  obtain ⟨h1, h2, h3⟩ := h
  cases t with
  | nil => exact ⟨h1, by show 0 ≤ _; omega, by show u.length ≤ _; dsimp only at h3; omega⟩
  | cons x t =>
    dsimp only at h2 h3
    rw [List.length_cons] at h2
    refine ⟨fun y m => h1 y (List.mem_cons_of_mem _ m), by show t.length ≤ _; omega, ?_⟩
    show (u ++ [_]).length ≤ _
    rw [List.length_append, List.length_singleton]
    omega
theorem okS.deed {n : Nat} {st : KT} {up odd : Bool} {p : Nat} (h : okS n st) (hp : p ≤ 399) : okS (n + 1) (deedS up p odd st) := by
  obtain ⟨h1, h2, h3⟩ := h
  refine ⟨fun y m => ?_, ?_, ?_⟩
  · rcases List.mem_cons.mp m with m | m
    · rw [m]; exact hp
    · exact h1 y m
  · show st.1.length + 1 ≤ _
    omega
  · show (st.2 ++ [_]).length ≤ _
    rw [List.length_append, List.length_singleton]
    omega
end Dx

namespace Dx
open PySem PySem.Spec PyProof.Rows L2
section
variable {K : PySem.W.Frag} {S : List Sl} {v w : V} {vo : List V} {d : D} {i j k : Nat} {φs : List Fam} {α β : Type} {ob : β → List Fam} {A : α → List D} {pre : α → β → Prop} {f : α → β → Ov} {g : α → β → β} {a : α} {rr : Rv}
theorem pins_set : ∀ {vo : List V} {φs : List Fam} {i : Nat} {v : V} {φ : Fam}, vo[i]? = some v → pins vo (φs.set i φ) = (pins vo φs).set i (.ob (pinF v φ))
  | [], _, _, _, _, h => by cases h
  | u :: vo, [], i, v, φ, _ => by simp [pins]
  | u :: vo, ψ :: φs, 0, v, φ, h => by cases h; rfl
  | u :: vo, ψ :: φs, i + 1, v, φ, h => by
    have ih := pins_set (vo := vo) (φs := φs) (i := i) (v := v) (φ := φ) h
    show Sl.ob (pinF u ψ) :: pins vo (φs.set i φ) = _
    rw [ih]
    rfl
theorem pins_atW (hS : S[k]? = some (.ob (wld d vo φs))) {φ : Fam} (hv : vo[i]? = some v) (hφ : φs[i]? = some φ) : (S.set k (.sh d) ++ pins vo φs)[S.length + i]? = some (.ob (pinF v φ)) := by
  rw [List.getElem?_append_right (by rw [List.length_set]; omega), List.length_set, show S.length + i - S.length = i by omega]
  exact pins_get hv hφ
theorem setW {φ : Fam} (hv : vo[i]? = some v) : (S.set k (.sh d) ++ pins vo φs).set (S.length + i) (.ob (pinF v φ)) = S.set k (.sh d) ++ pins vo (φs.set i φ) := by
  rw [List.set_append_right _ _ (by rw [List.length_set]; omega), List.length_set, show S.length + i - S.length = i by omega, pins_set hv]
/-- a call with the objects at i and j of the world -/
theorem callW2 {φ1 φ2 φ1' φ2' : Fam} (s : β) (hk : S[k]? = some (.ob (wld d vo φs))) (hl : vo.length = φs.length) (hi : vo[i]? = some v) (hj : vo[j]? = some w) (gi : φs[i]? = some φ1) (gj : φs[j]? = some φ2) (hne : i ≠ j) (hob : ob s = [φ1, φ2]) (hob' : ob (g a s) = [φ1', φ2']) (hp : pre a s) (hf : f a s = .ret rr) :
    CallO K ob A pre f g [v, w] a rr S (S.set k (.ob (wld d vo ((φs.set i φ1').set j φ2')))) :=
  callO_wld hk (by rw [List.length_set, List.length_set]; exact hl) (by
    have := callO2 (K := K) (A := A) (f := f) (g := g) (pre := pre) (S := S.set k (.sh d) ++ pins vo φs) (k1 := S.length + i) (k2 := S.length + j) s (pins_atW hk hi gi) (pins_atW hk hj gj) (by omega) hob hob' hp hf
    rwa [setW hi, setW hj] at this)
theorem callW1 {φ φ' : Fam} (s : β) (hk : S[k]? = some (.ob (wld d vo φs))) (hl : vo.length = φs.length) (hi : vo[i]? = some v) (gi : φs[i]? = some φ) (hob : ob s = [φ]) (hob' : ob (g a s) = [φ']) (hp : pre a s) (hf : f a s = .ret rr) :
    CallO K ob A pre f g [v] a rr S (S.set k (.ob (wld d vo (φs.set i φ')))) :=
  callO_wld hk (by rw [List.length_set]; exact hl) (by
    have := callO1 (K := K) (A := A) (f := f) (g := g) (pre := pre) (S := S.set k (.sh d) ++ pins vo φs) (k := S.length + i) s (pins_atW hk hi gi) hob hob' hp hf
    rwa [setW hi] at this)
end
end Dx

namespace Dx
open PySem PySem.Spec PyProof.Rows L2
section
variable {K : PySem.W.Frag} {D C : Addr} {b : Bool}
theorem kit_self : PySem.W.kitOne K (.ref D) (.ref D) = some true := by
  unfold PySem.W.kitOne
  rw [if_pos (by simp)]
theorem kit_ref (hne : D ≠ C) (hdct : PySem.W.hasDictIn K C = true) (ht : PySem.W.typeIn K (.ref C) = some (.type "type")) (hs : PySem.W.subIn K (.ref D) (.ref C) = some b) : PySem.W.kitOne K (.ref D) (.ref C) = some b := by
  obtain ⟨cd, hc, _⟩ := PySem.W.any_some hdct
  have e2 : ((PySem.W.clsIn K C).isSome && PySem.W.typeIn K (.ref C) == some (.type "type")) = true := by rw [hc, ht] <;> rfl
  have e1 : (Value.ref D == Value.ref C) = false := Bool.eq_false_iff.mpr fun h => hne (Value.ref.inj (beq_iff_eq.mp h))
  unfold PySem.W.kitOne PySem.W.kitCls
  rw [e1]
  show (if _ then _ else _) = _
  rw [if_neg Bool.false_ne_true]
  show (if ((PySem.W.clsIn K C).isSome && PySem.W.typeIn K (.ref C) == some (.type "type")) = true then PySem.W.subIn K (.ref D) (.ref C) else none) = _
  rw [if_pos e2]
  exact hs
theorem kit_refT {T : String} (hm : PySem.W.kitMeta T = true) (hs : PySem.W.subIn K (.ref D) (.type T) = some b) : PySem.W.kitOne K (.ref D) (.type T) = some b := by
  have e1 : (Value.ref D == Value.type T) = false := Bool.eq_false_iff.mpr fun h => nomatch (beq_iff_eq.mp h : Value.ref D = Value.type T)
  unfold PySem.W.kitOne PySem.W.kitCls
  rw [e1]
  show (if PySem.W.kitMeta T = true then _ else none) = _
  rw [if_pos hm]
  exact hs
end
end Dx

namespace Dx
open PySem PySem.Spec PyProof.Rows L2
/-! ## a def that a suite hands the exception it holds -/
section
variable {P : Program} {w : World} {K : PySem.W.Frag} {mg : Str → Option Value} {base : Heap} {CXt : CXT} {k : Nat} {f : Addr} {fd : FuncData} {ps N : List Str}
/-- what such a def promises: the exception p of class cls stands in the state -/
structure FnZ (P : Program) (w : World) (K : PySem.W.Frag) (mg : Str → Option Value) (base : Heap) (CXt : CXT) (k : Nat) (f : Addr) (fd : FuncData) (ps : List Str) (sp : Value → Option Addr → Addr → Sp) : Prop where
  len : ∀ c d a vs H Q E, sp c d a vs H Q E → vs.length = ps.length
  run : ∀ (A : Around) (outer : List Env) (s : Shared) (H : Hp) (args : Args) (us : List Value) (vs : List V) (Q : VK) (E : XK) (p : Addr × Obj) (c : Value) (d : Option Addr),
    L2H.RoomH k A → L2H.PinOk outer H s p → Zc c d p.2 → (∃ xs, p.2.data = .fields xs) → Env0 P w K mg base A outer s H → BindsTo s fd args (ps.zip us) → Vals vs us → sp c d p.1 vs H Q E → codeAny (model P w) A (.call (.ref f) args) (CR CXt outer P w H s Q E) s
theorem fn_z {x qual : Str} {st : Stmt} {sp : Value → Option Addr → Addr → Sp} (F : Fun K x qual st f fd) (S : FnScope N ps (defScope st)) (len : ∀ c d a vs H Q E, sp c d a vs H Q E → vs.length = ps.length)
    (hb : ∀ (cdv : Value) (A : Around) (outer : List Env) (s : Shared) (H : Hp) (vs : List V) (Q : VK) (E : XK) (p : Addr × Obj) (c : Value) (d : Option Addr), Zc c d p.2 → (∃ xs, p.2.data = .fields xs) → sp c d p.1 vs H Q E →
      ∃ t, PSs (L2H.cxH CXt P w K mg base N qual (defScope st) f cdv A outer s H E p) (defBody st) t ∧ t { nx := fun _ H' => Q .non H', rt := Q } (L2.start N vs) H) : FnZ P w K mg base CXt (k + 1) f fd ps sp := by
  obtain ⟨oc, od, kV, doc, pm, an, cdv, ct, osl, rfl, lk, hcd⟩ := F.ex
  refine ⟨len, fun A outer s H args us vs Q E p c d room pin hz hf env bind rel h => ?_⟩
  have inK := env.mod.kin.keeps fun b o e => (env.bs b o e).1
  have lims := env.mod.nolimit.keeps fun b o e => (env.bs b o e).1
  have names : ∀ y ∈ ps.zip us, (defScope st).names.lookup y.1 = some .local ∨ ((defScope st).names.lookup y.1 = some .cell ∧ ((cellsFrom (s.heap.objs.size + 1) (defScope st).names []).lookup y.1).isSome = true) := by
    rintro ⟨n, u⟩ hy
    exact (S.par n (List.of_mem_zip hy).1).imp id fun z => ⟨z, PySem.W.cellsFrom_some _ _ _ (.inl z)⟩
  refine codeAny_call_function room.depth (inK _ _ lk) rfl S.co S.gen rfl (PySem.W.codeRec_of inK hcd) (bind _ _ _ _ (wpAny_newFunctionEnv_cells S.kind names fun env' he s1 x => ?_))
  subst he
  obtain ⟨t, ht, hq⟩ := hb cdv A outer s H vs Q E p c d hz hf h
  refine ⟨lims.keeps x.toInCall.keep, codeAny_func (wpAny_mono (ht.run [] s1 (L2.start N vs) H _ (L2H.inv_startH S pin env (len _ _ _ _ _ _ _ h) rel x) hq) (fun fl s' hs => ?_) fun _ _ z => z)⟩
  cases fl with
  | next =>
    obtain ⟨σ', H', J, q⟩ := hs
    exact ⟨.non, H', J.os, J.bare, J.base, J.hok, rfl, q⟩
  | ret u =>
    obtain ⟨v, σ', H', J, rv, q⟩ := hs
    exact ⟨v, H', J.os, J.bare, J.base, J.hok, rv, q⟩
  | brk => exact hs.elim fun _ z => z.elim fun _ z => z.2.elim
  | cont => exact hs.elim fun _ z => z.elim fun _ z => z.2.elim
end
section
variable {X : Cx} {k : Nat} {f : Addr} {fd : FuncData} {ps : List Str} {a : Addr} {c : Value} {d : Option Addr} {oe : Obj} {pn : List (Addr × Obj)} {x : Str} {q pos : Pos} {e : Expr} {es : List Expr} {t : TA}
theorem roomH_mark {k : Nat} {A : Around} {h : Option Value} (r : Room k A) : L2H.RoomH k (A.mark h) := ⟨r.dp, r.un⟩
/-- f(e) in the suite that holds e; nothing is let out -/
def tCallZ (sp : Sp) (t : TA) : TE := fun σ H Q => t σ H fun vs H1 => sp vs H1 Q E0
theorem pe_callZ {sp : Value → Option Addr → Addr → Sp} (F : FnZ X.prog X.w X.K X.mg X.base CX0 k f fd ps sp) (hr : Room k X.A) (hz : Zc c d oe) (hf : ∃ xs, oe.data = .fields xs) (hg : Gl X x) (hm : X.mg x = some (.ref f)) (hk : PySem.W.keepIn X.K (.ref f) = true) (hb : Binds X.K fd ps [])
    (ha : PA (X.suite a ((a, oe) :: pn)) (e :: es) t) (hdb : (x == ("__debug__" : Str)) = false := by decide) (he : starEach (e :: es) X.env = (false, eval e X.env) :: starEach es X.env := by rfl) (hpl : (backTo pos (starEach es X.env)).any (·.1) = false := by rfl) :
    PE (X.suite a ((a, oe) :: pn)) (.Call (.Name x q) (e :: es) [] pos) (tCallZ (sp c d a) t) := by
  refine ⟨fun pins s σ H Q I h => ?_⟩
  refine wpAny_Call_Name_kw (ld_glob I hg hm ?_ hdb)
  refine PySem.W.callWith_K (h₀ := X.base) I.ok.mod.kin hk (thn (ha.run pos pins s σ H _ I h) fun us s1 h1 => ?_) he hpl
  obtain ⟨vs, H1, I1, r, q1⟩ := h1
  refine ⟨I1.kIn, ?_⟩
  have hlen := F.len _ _ _ _ _ _ _ q1
  rw [r.length] at hlen
  have bd := hb s1 us I1.kIn (by rw [List.append_nil]; exact hlen)
  rw [List.append_nil] at bd
  have P1 := I1.pin (a, oe) (List.mem_append_left _ List.mem_cons_self)
  have pin : L2H.PinOk X.stack H1 s1 (a, oe) := ⟨P1.1, P1.2.1, fun m => (List.mem_cons.mp (I1.stkSub a m)).elim P1.2.2.1 P1.2.2.2.1, P1.2.2.2.2⟩
  refine wpAny_call (codeAny_mono (F.run _ X.stack s1 H1 ⟨us, []⟩ us vs Q E0 (a, oe) c d (roomH_mark hr) pin hz hf I1.env0 bd r q1) fun r' s' hq => ?_)
  cases r' with
  | error u => exact absurd hq (by
      intro z
      exact z)
  | ok fl =>
    cases fl with
    | ret u => exact I1.after hq
    | next => exact hq.elim
    | brk => exact hq.elim
    | cont => exact hq.elim
/-- isinstance of a pinned exception -/
theorem call_isP (hp : (a, oe) ∈ X.pn) (hz : Zc c d oe) (hf : ∃ xs, oe.data = .fields xs) : CallR X (.builtin "isinstance") (rIsX X.K c d a) := by
  intro pins s σ H xs us Q I r h
  obtain ⟨D, rfl, rfl, C, cv, cu, b, rfl, hcu, hk, q⟩ := h
  cases r with
  | cons r1 r =>
    cases r with
    | cons r2 r =>
      cases r
      cases r1
      obtain rfl := hcu _ r2
      have got := (I.pin (a, oe) (List.mem_append_left _ hp)).1
      have inst : PySem.W.InstAt s.heap a oe D none := by
        obtain ⟨z1, z2⟩ := hz
        obtain ⟨ys, hy⟩ := hf
        obtain ⟨oc, od, oda, osl⟩ := oe
        dsimp only at z1 z2 hy
        subst z1 z2 hy
        exact ⟨got, rfl, rfl, trivial⟩
      refine PySem.W.kia_one (PySem.W.handS_kitx_exc C.hg C.hk C.hs C.hd C.ha C.hn C.ht C.hm) I.kIn inst hk (fun z => nomatch z) fun tk => ?_
      exact ⟨.bl b, H, I.kept (t' := tk) fun _ _ z => z, rfl, q⟩
end
end Dx

namespace Dx
open PySem PySem.Spec PyProof.Rows L2
/-! ## defs of data that may refuse -/
def PSpX {α : Type} (K : PySem.W.Frag) (A : α → List D) (pre : α → Prop) (f : α → Ov) : Sp := fun vs H Q E => ∃ a O, (∀ x, x ∈ O → H x ≠ none) ∧ RpAll K (hidL H O) vs (A a) ∧ pre a ∧
  (∀ r, f a = .ret r → ∀ v H', RetOk K O H H' v r → Q v H') ∧ (∀ c, f a = .exc c → ∀ H', Same H H' → E c none H')
section
variable {P : Program} {w : World} {K : PySem.W.Frag} {mg : Str → Option Value} {base : Heap}
theorem spx_obj {α : Type} {A : α → List D} {pre : α → Prop} {f : α → Ov} {vs : List V} {H : Hp} {Q : VK} {E : XK} (h : PSpX K A pre f vs H Q E) : PSpO K (fun _ : Unit => []) A (fun a _ => pre a) (fun a _ => f a) (fun _ s => s) vs H Q E := by
  obtain ⟨a, O, hO, hv, hp, q, qx⟩ := h
  have fz : ∀ G : Hp, fro G O [] = hidL G O := fun G => by unfold fro; rw [List.flatten_nil, List.append_nil]
  refine ⟨a, (), O, [], [], vs, rfl, hO, fun x m => (nomatch m), (fun i j l m x h1 _ _ _ => nomatch h1), by rw [fz]; exact hv, .nil, hp, fun r hr u Hb H' fps' c1 c2 c3 c4 c5 c6 => ?_, qx⟩
  cases c4
  rw [List.flatten_nil, hidL_nil] at c1
  refine q r hr u H' ?_
  cases r with
  | val d =>
    have c7 : Rp K (fro H' O []) u d := c6
    rw [fz] at c7
    exact ⟨c1.trans c5, c7⟩
  | new ds =>
    obtain ⟨p, us, z1, z2, z3, z4⟩ := c6
    refine ⟨c1.trans c5, p, us, z1, c1.free z2, z3, z4.mono (hid_le (Same.refl _) fun x m => .inl ?_)⟩
    rw [List.flatten_cons, List.flatten_nil, List.append_nil]
    rcases List.mem_cons.mp m with m | m
    · rw [m]; simp
    · exact List.mem_append_left _ m
theorem fn_pureX {α : Type} {A : α → List D} {pre : α → Prop} {f : α → Ov} {x qual : Str} {st : Stmt} {fa : Addr} {fd : FuncData} {N ps : List Str} {k : Nat} (F : Fun K x qual st fa fd) (sc : FnScope N ps (defScope st)) (hl : ∀ a, (A a).length = ps.length) (hn : ps.length ≤ N.length)
    (hb : ∀ (cdv : Value) (A0 : Around) (outer : List Env) (s : Shared) (H : Hp) (E : XK), Room k (A0.deeper (envOfC qual (defScope st) s.heap.objs.size fa cdv)) →
      ∃ t, PSs (cxOf (L2.CX P w) P w K mg base N qual (defScope st) fa cdv A0 outer s H E) (defBody st) t ∧ ∀ a : α, pre a → SmG K E t (fun _ r => f a = .ret r) (fun c => f a = .exc c) ((A a).map Sl.sh ++ List.replicate (N.length - ps.length) Sl.no)) :
    FnOk P w K mg base (L2.CX P w) (k + 1) fa fd ps (PSpX K A pre f) := by
  refine FnOk.imp (fn_obj (ob := fun _ : Unit => []) (pre := fun a _ => pre a) (f := fun a _ => f a) (g := fun _ s => s) 0 F sc (fun _ => rfl) (fun a => by rw [hl a]; omega) hn fun cdv A0 outer s H E hr => ?_) fun vs H Q E h => spx_obj h
  obtain ⟨t, ht, hs⟩ := hb cdv A0 outer s H E hr
  refine ⟨t, ht, fun a s vo hvo hp => ?_⟩
  obtain rfl : vo = [] := List.length_eq_zero_iff.mp hvo
  intro O H0 H1 P1 σ r hx De kr
  exact hs a hp O H0 H1 P1 σ r hx De fun v Hb H' P' σ' S' rr r' e hv hF => kr v Hb H' P' σ' S' rr r' e hv ⟨hF, fun i v φ h => nomatch h⟩
end
/-! ## expressions that may raise -/
section
variable {K : PySem.W.Frag} {S : List Sl} {te tb : TE} {ta : TA} {d : D} {ds es : List D} {E : XK} {t u : TS} {i : Nat} {α : Type} {A : α → List D} {pre : α → Prop} {f : α → Ov} {dvs : List V} {o : Ov}
/-- te ends as o tells; E takes what it raises -/
def EvXO (K : PySem.W.Frag) (E : XK) (te : TE) (S : List Sl) (o : Ov) : Prop := ∀ O H0 H P σ, Rep K O H0 H P σ S → ∀ Q : VK, (∀ r v H', o = .ret r → Same H H' → RetF K O H H' P v r → Q v H') → (∀ c H', o = .exc c → Same H H' → E c none H') → te σ H Q
theorem ret_of {O : List Addr} {H H1 H' : Hp} {P : List (List Addr)} {v : V} {r : Rv} (e : Same H H1) (h : RetOk K (O ++ P.flatten) H1 H' v r) : Same H H' ∧ RetF K O H H' P v r := by
  cases r with
  | val d => exact ⟨e.trans h.1, h.2⟩
  | new ds =>
    obtain ⟨e2, p, us, rfl, hn, hp, r⟩ := h
    refine ⟨e.trans e2, p, us, rfl, e.free hn, hp, r.mono (hid_le (Same.refl _) fun x m => .inl ?_)⟩
    rcases List.mem_append.mp m with m | m
    · exact List.mem_cons_of_mem _ (List.mem_append_left _ m)
    · rw [List.flatten_cons] at m
      rcases List.mem_append.mp m with m | m
      · rw [List.mem_singleton.mp m]; exact List.mem_cons_self
      · exact List.mem_cons_of_mem _ (List.mem_append_right _ m)
abbrev Wof (E : XK) : WX := fun cls d _ H => E cls d H
theorem xo_call (a : α) (h : EvA K ta S ds) (hd : ∀ H, RpAll K H dvs es) (hA : A a = ds ++ es) (hp : pre a) : EvXO K E (tCallSD (PSpX K A pre f) dvs (WE (Wof E)) ta) S (f a) := fun O H0 H P σ R Q q qx =>
  h O H0 H P σ R _ fun vs H1 e1 r1 => ⟨a, O ++ P.flatten, call_core (R.ext e1), by rw [hA]; exact r1.append (hd _), hp, fun r hr v H' hok => by
    obtain ⟨z1, z2⟩ := ret_of e1 hok
    exact q r v H' hr z1 z2, fun c hc H' s => qx c H' hc (e1.trans s)⟩
theorem xo_call1 (a : α) (h : EvA K ta S (A a)) (hp : pre a) : EvXO K E (tCallS (PSpX K A pre f) (WE (Wof E)) ta) S (f a) := fun O H0 H P σ R Q q qx =>
  h O H0 H P σ R _ fun vs H1 e1 r1 => ⟨a, O ++ P.flatten, call_core (R.ext e1), r1, hp, fun r hr v H' hok => by
    obtain ⟨z1, z2⟩ := ret_of e1 hok
    exact q r v H' hr z1 z2, fun c hc H' s => qx c H' hc (e1.trans s)⟩
theorem smg_retX {F : List Sl → Rv → Prop} {X : Value → Prop} (h : EvXO K E te S o) (q : ∀ r, o = .ret r → F S r) (qx : ∀ c, o = .exc c → X c) : SmG K E (tRet te) F X S := fun O H0 H P σ r hE De kr =>
  h O H0 H P σ r _ (fun rr v H' ho e hr => kr v H H' P σ S rr r e hr (q rr ho)) fun c H' ho s => hE c H' (qx c ho) s
theorem smg_asgX {F : List Sl → Rv → Prop} {X : Value → Prop} (h : EvXO K E te S o) (hi : i < S.length) (q : ∀ rs, o = .ret (.new rs) → SmG K E u F X (S.set i (.ow rs))) (q2 : ∀ d, o = .ret (.val d) → SmG K E u F X (S.set i (.sh d))) (qx : ∀ c, o = .exc c → X c) : SmG K E (tSeq (tAsg te (gName i)) u) F X S := fun O H0 H P σ r hE De kr =>
  h O H0 H P σ r _ (fun rr v H' ho e hr => by
    cases rr with
    | val d =>
      have hr' : Rp K (fro H' O P) v d := hr
      obtain ⟨R2, g2⟩ := (r.ext e).setSh (i := i) hi hr'
      exact q2 d ho O H0 H' _ _ R2 (fun c H2 x s => hE c H2 x (e.trans s)) De kr
    | new ds =>
      obtain ⟨p, vs, rfl, h1, h2, h3⟩ := hr
      obtain ⟨R2, g2⟩ := r.setNew (i := i) hi e h1 h2 h3
      exact q ds ho O H0 H' _ _ R2 (fun c H2 x s => hE c H2 x (e.trans s)) De kr) fun c H' ho s => hE c H' (qx c ho) s
/-- f(a, g(..)), g may raise -/
theorem xo_arg2 {β : Type} {B : β → List D} {preB : β → Prop} {fB : β → Rv} {E0' : XK} (h : EvD K te S d) (hx : EvXO K E tb S o) (out : Ov) (hout : ∀ c, o = .exc c → out = .exc c)
    (hret : ∀ r, o = .ret r → ∃ b d2, (r = .val d2 ∨ ∃ ds, r = .new ds ∧ d2 = .lst ds) ∧ B b = [d, d2] ∧ preB b ∧ out = .ret (fB b)) : EvXO K E (tCall (PSp K B preB fB) [] E0' (tCons te (tCons tb tNil))) S out := fun O H0 H P σ R Q q qx =>
  h O H0 H P σ R _ fun v1 H1 e1 r1 => hx O H0 H1 P σ (R.ext e1) _ (fun r v H' ho e hr => by
    obtain ⟨b, d2, hd2, hB, hp, hF⟩ := hret r ho
    have R2 := (R.ext e1).ext e
    have rv : Rp K (fro H' O P) v d2 := by
      rcases hd2 with rfl | ⟨ds, rfl, rfl⟩
      · exact hr
      · obtain ⟨p, vs, rfl, z1, z2, z3⟩ := hr
        exact .lst (fro_some.mpr ⟨(R.ext e1).notO z1, (R.ext e1).notP z1, z2⟩) (z3.mono (fro_sub fun x m => by rw [List.flatten_cons]; exact List.mem_append_right _ m))
    refine ⟨b, O ++ P.flatten, call_core R2, by rw [hB]; exact .cons (r1.mono (fro_same e)) (.cons rv .nil), hp, fun v3 H3 hr3 => ?_⟩
    obtain ⟨z1, z2⟩ := ret_of (e1.trans e) hr3
    exact q _ v3 H3 hF z1 z2) fun c H' ho s => qx c H' (hout c ho) (e1.trans s)
/-! a call of such a def where it does not raise -/
theorem evn_callX {rs : List D} {E0' : XK} (a : α) (h : EvA K ta S ds) (hd : ∀ H, RpAll K H dvs es) (hA : A a = ds ++ es) (hp : pre a) (hf : f a = .ret (.new rs)) : EvN K (tCall (PSpX K A pre f) dvs E0' ta) S rs := fun O H0 H P σ R Q q =>
  h O H0 H P σ R _ fun vs H1 e1 r1 => ⟨a, O ++ P.flatten, call_core (R.ext e1), by rw [hA]; exact r1.append (hd _), hp, fun r hr v H' hok => by
    rw [hf] at hr
    cases hr
    obtain ⟨z1, p, us, z2, z3, z4, z5⟩ := ret_of e1 hok
    subst z2
    exact q p us H' z1 z3 z4 z5, fun c hc => by rw [hf] at hc; cases hc⟩
end
/-! ## try: a call that may raise -/
section
variable {K : PySem.W.Frag} {S : List Sl} {ta : TA} {α : Type} {A : α → List D} {pre : α → Prop} {f : α → Ov} {N : List Sl → Prop} {R : Rv → Prop} {X : Value → List Sl → Prop}
theorem smT_call (a : α) (h : EvB K ta S (A a)) (hp : pre a) (hn : ∀ r, f a = .ret r → N S) (hx : ∀ c, f a = .exc c → X c S) : SmT K (fun W => tDrop (tCallS (PSpX K A pre f) (WE W) ta)) N R X S := fun O H0 H P σ r De W kn kr kx =>
  h O H0 H P σ r _ fun vs H1 e1 r1 => ⟨a, [], fun x m => (nomatch m), by rw [hidL_nil]; exact r1, hp, fun rr hr v H' hok => by
    have e2 : Same H1 H' := by
      cases rr with
      | val d => exact hok.1
      | new ds => exact hok.1
    exact kn H' P σ S (r.ext (e1.trans e2)) (fro_same (e1.trans e2)) (hn rr hr), fun c hc H' s => kx c H' P σ S (r.ext (e1.trans s)) (fro_same (e1.trans s)) (hx c hc)⟩
end
end Dx

namespace Dx
open PySem PySem.Spec PyProof.Rows L2
section
variable {P : Program} {w : World} {K : PySem.W.Frag} {mg : Str → Option Value} {base : Heap}
theorem pureX_read {α : Type} {A : α → List D} {pre : α → Prop} {f : α → Ov} {N ps : List Str} {t : TS} {vs : List V} {H : Hp} {Q : VK} {E : XK} (hl : ∀ a, (A a).length = ps.length) (hn : ps.length ≤ N.length)
    (hs : ∀ a : α, pre a → SmG K E t (fun _ r => f a = .ret r) (fun c => f a = .exc c) ((A a).map Sl.sh ++ List.replicate (N.length - ps.length) Sl.no)) (h : PSpX K A pre f vs H Q E) : t { nx := fun _ H' => Q .non H', rt := Q } (L2.start N vs) H := by
  obtain ⟨a, O, hO, hv, hp, q, qx⟩ := h
  have la := hl a
  have lv := hv.length
  have P0 : (List.replicate N.length ([] : List Addr)).flatten = [] := by simp
  have fz : fro H O (List.replicate N.length []) = hidL H O := by unfold fro; rw [P0, List.append_nil]
  refine hs a hp O H H (List.replicate N.length []) (L2.start N vs) ⟨?_, ?_, hO, by rw [P0, hidL_nil]; exact Same.refl H, fun i j l m x h1 _ h3 _ => ?_, (fun x m => by rw [P0] at m; exact nomatch m), fun i sl e => ?_⟩ (fun c H' x s => qx c x H' s) _ (fun v Hb H' P' σ' S' r r' e hr hF => ?_)
  · unfold L2.start
    simp only [List.length_append, List.length_map, List.length_replicate, lv, la]
  · simp only [List.length_append, List.length_map, List.length_replicate, la]
    omega
  · have m := List.mem_of_getElem? h1
    rw [List.mem_replicate] at m
    rw [m.2] at h3
    exact nomatch h3
  · rw [fz]
    by_cases hi : i < (A a).length
    · rw [List.getElem?_append_left (by rw [List.length_map]; exact hi), List.getElem?_map] at e
      obtain ⟨d, hd⟩ : ∃ d, (A a)[i]? = some d := ⟨_, List.getElem?_eq_getElem hi⟩
      rw [hd] at e
      cases e
      obtain ⟨v, e1, e2⟩ := hv.get' hd
      refine ⟨v, ?_, e2⟩
      unfold L2.start
      rw [List.getElem?_append_left (by rw [List.length_map, lv]; exact hi), List.getElem?_map, e1]
      rfl
    · have hlt := set_some e
      rw [List.length_append, List.length_map, List.length_replicate] at hlt
      rw [List.getElem?_append_right (by rw [List.length_map]; omega)] at e
      have m := List.mem_of_getElem? e
      rw [List.mem_replicate] at m
      rw [m.2]
      show (List.replicate N.length ([] : List Addr))[i]? = some []
      rw [List.getElem?_replicate, if_pos (by omega)]
  · refine q r hF v H' ?_
    cases r with
    | val d =>
      have hr' : Rp K (fro H' O P') v d := hr
      exact ⟨r'.keep.trans e, hr'.mono (hid_le (Same.refl _) fun x m => .inl (List.mem_append_left _ m))⟩
    | new ds =>
      obtain ⟨p, us, z1, z2, z3, z4⟩ := hr
      refine ⟨r'.keep.trans e, p, us, z1, r'.keep.free z2, z3, z4.mono (hid_le (Same.refl _) fun x m => .inl ?_)⟩
      rcases List.mem_cons.mp m with m | m
      · rw [m]; simp
      · exact List.mem_append_left _ m
theorem fn_pureDX {α : Type} {A : α → List D} {pre : α → Prop} {f : α → Ov} {x qual : Str} {st : Stmt} {fa : Addr} {fd : FuncData} {N ps : List Str} {k : Nat} {dvs : List V} (F : FunDx K x qual st dvs fa fd) (sc : FnScope N ps (defScope st)) (hl : ∀ a, (A a).length = ps.length) (hn : ps.length ≤ N.length)
    (hb : ∀ (cdv : Value) (A0 : Around) (outer : List Env) (s : Shared) (H : Hp) (E : XK), Room k (A0.deeper (envOfC qual (defScope st) s.heap.objs.size fa cdv)) →
      ∃ t, PSs (cxOf (L2.CX P w) P w K mg base N qual (defScope st) fa cdv A0 outer s H E) (defBody st) t ∧ ∀ a : α, pre a → SmG K E t (fun _ r => f a = .ret r) (fun c => f a = .exc c) ((A a).map Sl.sh ++ List.replicate (N.length - ps.length) Sl.no)) :
    FnOk P w K mg base (L2.CX P w) (k + 1) fa fd ps (PSpX K A pre f) := by
  refine FunD.ok F sc (fun vs H Q E h => ?_) (fun cdv A0 outer s H vs Q E hr h => ?_)
  · obtain ⟨a, O, _, h, _⟩ := h
    rw [h.length]
    exact hl a
  · obtain ⟨t, ht, hs⟩ := hb cdv A0 outer s H E hr
    exact ⟨t, ht, pureX_read hl hn hs h⟩
end
/-! ## methods that may raise, with arguments -/
def tMethS (C : Addr) (m : Str) (sp : Sp) (E : L2.St → XK) (ta : TE) (t : TA) : TE := fun σ H Q => ta σ H fun x H1 => ∃ a dx fs, x = .ref a ∧ H1 a = some (.ins C dx fs) ∧ fs.lookup m = none ∧ t σ H1 fun vs H2 => sp (x :: vs) H2 Q (E σ)
section
variable {X : Cx} {CXt : CXT} {k : Nat} {f C : Addr} {fd : FuncData} {ps : List Str} {sp : Sp} {E : L2.St → XK} {m : Str} {pos apos : Pos} {o e : Expr} {es : List Expr} {ta : TE} {t : TA}
theorem pe_methS {pl : Sem Bool} (he : PE X o ta) (c : Cls X.K C) (hm : Meth X.K C m f) (F : FnOk X.prog X.w X.K X.mg X.base CXt k f fd ps sp) (hr : Room k X.A) (hb : Binds X.K fd ps []) (hx : ∀ σ, PassesAt CXt X σ (E σ)) (ha : PA X (e :: es) t)
    (hst : starEach (e :: es) X.env = (false, eval e X.env) :: starEach es X.env := by rfl) (hpl : (backTo pos (starEach es X.env)).any (·.1) = false := by rfl)
    (ht : eval (.Call (.Attribute o m apos) (e :: es) [] pos) X.env = (do
      let ov ← eval o X.env
      standAt apos.atName
      let (f, first) ← holding [ov] (getMethod ov m pl)
      callWith pos f first (backTo pos (starEach (e :: es) X.env)) (backToKw pos (keywordEach [] X.env))) := by rfl) : PE X (.Call (.Attribute o m apos) (e :: es) [] pos) (tMethS C m sp E ta t) := by
  refine ⟨fun pins s σ H Q I h => PySem.W.methodCall_KW (pl := pl) (thn (he.run pins s σ H _ I h) fun u s1 h1 => ?_) ht⟩
  obtain ⟨x, H1, I1, rx, a, dx, fs, ex, ea, l, q⟩ := h1
  subst ex
  obtain rfl : u = Value.ref a := rx
  refine getmeth_ok I1 ea c hm l (PySem.W.callWith_K (first := [.ref a]) (h₀ := X.base) I.ok.mod.kin hm.kp (thn (ha.run pos pins s1 σ H1 _ I1 q) fun us s2 h2 => ?_) hst hpl)
  obtain ⟨vs, H2, I2, r, q2⟩ := h2
  exact ⟨I2.kIn, run_fnS (us := .ref a :: us) (vs := .ref a :: vs) F hr hb (hx σ) I2 (.cons rfl r) q2⟩
end
section
variable {K : PySem.W.Frag} {C : Addr} {S S' S'' : List Sl} {k i : Nat} {te tb : TE} {ta : TA} {t u : TS} {tt uu : TT} {N : List Sl → Prop} {R : Rv → Prop} {v : V} {s : List Int × List tri3} {d e : D} {b : Bool} {φ : Fam}
variable {α : Type} {A : α → List D} {pre : α → List Int × List tri3 → Prop} {f : α → List Int × List tri3 → Ov} {g : α → List Int × List tri3 → List Int × List tri3} {m : Str} {E : XK}
theorem meth_callX {O : List Addr} {H0 H : Hp} {P : List (List Addr)} {σ : L2.St} {Q : VK} {Ex : L2.St → XK} (a : α) (hm : ∀ x y : V, List.lookup m [(("row" : Str), x), (("deeds" : Str), y)] = none) (r : Rep K O H0 H P σ S) (hk : S[k]? = some (.ob (pinF v (ctr C s)))) (ha : EvA K ta S (A a)) (hp : pre a s)
    (q : ∀ rr u Hb H' P', f a s = .ret rr → Rep K O H0 Hb P' σ (S.set k (.ob (pinF v (ctr C (g a s))))) → Same (fro H O P) (fro Hb O P') → Same Hb H' → RetF K O Hb H' P' u rr → Q u H') (qx : ∀ c H', f a s = .exc c → Same H H' → Ex σ c none H') : tMethS C m (PSpO K (ctrs C) A pre f g) Ex (tVar k) ta σ H Q := by
  obtain ⟨x, dx, pd, vr, vs, rfl, e, eP, h1, h2, h3, h4, h5⟩ := ctr_at r hk
  refine ⟨_, e, x, dx, _, rfl, h1, hm _ _, ha O H0 H P σ r _ fun ws H1 e1 r1 => ?_⟩
  cases hf : f a s with
  | ret rr => exact obj_call1 a s (r.ext e1) hk r1 rfl rfl hp hf fun u Hb H' P' R2 g2 e2 hr => q rr u Hb H' P' hf R2 ((fro_same e1).trans g2) e2 hr
  | exc c => exact obj_exc1 a s (r.ext e1) hk r1 rfl hp hf fun H' s' => qx c H' hf (e1.trans s')
theorem smg_retMethX {F : List Sl → Rv → Prop} {X : Value → Prop} (a : α) (hk : S[k]? = some (.ob (pinF v (ctr C s)))) (hm : ∀ x y : V, List.lookup m [(("row" : Str), x), (("deeds" : Str), y)] = none) (ha : EvA K ta S (A a)) (hp : pre a s)
    (q : ∀ rr, f a s = .ret rr → F (S.set k (.ob (pinF v (ctr C (g a s))))) rr) (qx : ∀ c, f a s = .exc c → X c) : SmG K E (tRet (tMethS C m (PSpO K (ctrs C) A pre f g) (WE (Wof E)) (tVar k) ta)) F X S := fun O H0 H P σ r hE De kr =>
  meth_callX a hm r hk ha hp (fun rr u Hb H' P' hf R2 g2 e2 hr => kr u Hb H' P' σ _ rr R2 e2 hr (q rr hf)) fun c H' hf s' => hE c H' (qx c hf) s'
/-- in a try -/
theorem smT_meth {X : Value → List Sl → Prop} (a : α) (hk : S[k]? = some (.ob (pinF v (ctr C s)))) (hm : ∀ x y : V, List.lookup m [(("row" : Str), x), (("deeds" : Str), y)] = none) (ha : EvA K ta S (A a)) (hp : pre a s) (hn : ∀ rr, f a s = .ret rr → N (S.set k (.ob (pinF v (ctr C (g a s)))))) (hx : ∀ c, f a s = .exc c → X c S) :
    SmT K (fun W => tDrop (tMethS C m (PSpO K (ctrs C) A pre f g) (WE W) (tVar k) ta)) N R X S := fun O H0 H P σ r De W kn kr kx =>
  meth_callX a hm r hk ha hp (fun rr u Hb H' P' hf R2 g2 e2 hr => kn H' P' σ _ (R2.ext e2) (g2.trans (fro_same e2)) (hn rr hf)) fun c H' hf s' => kx c H' P σ S (r.ext s') (fro_same s') (hx c hf)
theorem smT_meth0 {A : Unit → List D} {pre : Unit → List Int × List tri3 → Prop} {f : Unit → List Int × List tri3 → Ov} {g : Unit → List Int × List tri3 → List Int × List tri3} {X : Value → List Sl → Prop} (hA : A () = []) (hk : S[k]? = some (.ob (pinF v (ctr C s)))) (hm : ∀ x y : V, List.lookup m [(("row" : Str), x), (("deeds" : Str), y)] = none) (hp : pre () s) (hn : ∀ rr, f () s = .ret rr → N (S.set k (.ob (pinF v (ctr C (g () s)))))) (hx : ∀ c, f () s = .exc c → X c S) :
    SmT K (fun W => tDrop (tMeth0S C m (PSpO K (ctrs C) A pre f g) (WE W) (tVar k))) N R X S := fun O H0 H P σ r De W kn kr kx =>
  meth_callX (ta := tNil) () hm r hk (by rw [hA]; exact ea_nil) hp (fun rr u Hb H' P' hf R2 g2 e2 hr => kn H' P' σ _ (R2.ext e2) (g2.trans (fro_same e2)) (hn rr hf)) fun c H' hf s' => kx c H' P σ S (r.ext s') (fro_same s') (hx c hf)
theorem smT_if {tb ub : WX → TS} {X : Value → List Sl → Prop} (h : EvT K tt S b) (h1 : b = true → SmT K tb N R X S) (h2 : b = false → SmT K ub N R X S) : SmT K (fun W => tIfS tt (tb W) (ub W)) N R X S := fun O H0 H P σ r De W kn kr kx =>
  h O H0 H P σ r _ fun H1 e1 => by
    cases b with
    | true => exact h1 rfl O H0 H1 P σ (r.ext e1) De W (fun H' P' σ' S' r' g n => kn H' P' σ' S' r' ((fro_same e1).trans g) n) kr fun c H' P' σ' S' r' g x => kx c H' P' σ' S' r' ((fro_same e1).trans g) x
    | false => exact h2 rfl O H0 H1 P σ (r.ext e1) De W (fun H' P' σ' S' r' g n => kn H' P' σ' S' r' ((fro_same e1).trans g) n) kr fun c H' P' σ' S' r' g x => kx c H' P' σ' S' r' ((fro_same e1).trans g) x
/-! ## expressions that change objects -/
def EvDS (K : PySem.W.Frag) (te : TE) (S : List Sl) (d : D) (S' : List Sl) : Prop := ∀ O H0 H P σ, Rep K O H0 H P σ S → ∀ Q : VK, (∀ v H' P', Rep K O H0 H' P' σ S' → Same (fro H O P) (fro H' O P') → Rp K (fro H' O P') v d → Q v H') → te σ H Q
def rvD : Rv → D
  | .val d => d
  | .new ds => .lst ds
theorem retF_d {O : List Addr} {H0 Hb H' : Hp} {P : List (List Addr)} {σ : L2.St} {u : V} {rr : Rv} (r : Rep K O H0 Hb P σ S) (h : RetF K O Hb H' P u rr) : Rp K (fro H' O P) u (rvD rr) := by
  cases rr with
  | val d => exact h
  | new ds =>
    obtain ⟨p, us, rfl, z1, z2, z3⟩ := h
    exact .lst (fro_some.mpr ⟨r.notO z1, r.notP z1, z2⟩) (z3.mono (fro_sub fun x m => by rw [List.flatten_cons]; exact List.mem_append_right _ m))
theorem ds_meth {rr : Rv} {E0' : XK} (a : α) (hk : S[k]? = some (.ob (pinF v (ctr C s)))) (hm : ∀ x y : V, List.lookup m [(("row" : Str), x), (("deeds" : Str), y)] = none) (ha : EvA K ta S (A a)) (hp : pre a s) (hf : f a s = .ret rr) : EvDS K (tMeth C m (PSpO K (ctrs C) A pre f g) [] E0' (tVar k) ta) S (rvD rr) (S.set k (.ob (pinF v (ctr C (g a s))))) := fun O H0 H P σ r Q q =>
  meth_call a hm r hk ha hp hf fun u Hb H' P' R2 g2 e2 hr => q u H' P' (R2.ext e2) (g2.trans (fro_same e2)) (retF_d R2 hr)
theorem ds_call {β γ : Type} {ob : β → List Fam} {B : γ → List D} {preB : γ → β → Prop} {fB : γ → β → Ov} {gB : γ → β → β} {c : γ} {vo : List V} {rr : Rv} {E0' : XK} (h : EvY K ta S vo (B c)) (hc : CallO K ob B preB fB gB vo c rr S S') : EvDS K (tCall (PSpO K ob B preB fB gB) [] E0' ta) S (rvD rr) S' := fun O H0 H P σ r Q q =>
  h O H0 H P σ r _ fun ws H1 e1 r1 => by
    rw [List.append_nil]
    exact hc O H0 H1 P σ ws _ _ (r.ext e1) r1 fun u Hb H' P' R2 g2 e2 hr => q u H' P' (R2.ext e2) (((fro_same e1).trans g2).trans (fro_same e2)) (retF_d R2 hr)
theorem ds_of (h : EvD K te S d) : EvDS K te S d S := fun O H0 H P σ r Q q => h O H0 H P σ r _ fun x H1 e1 r1 => q x H1 P (r.ext e1) (fro_same e1) r1
theorem ds_eqD (h : EvDS K te S d S') (h2 : EvF K tb S' e) (sd : SeqAt.shaped (toPy d) = true) (se : SeqAt.shaped (toPy e) = true) : EvDS K (tOp (rEqD K) te tb) S (.bl (PyData.eqv (toPy d) (toPy e))) S' := fun O H0 H P σ r Q q =>
  h O H0 H P σ r _ fun x H1 P1 R1 g1 r1 => h2 O H0 H1 P1 σ R1 _ fun y H2 e2 r2 => ⟨_, _, (r1.mono (fro_le.trans e2)).dp, r2.dp, sd, se, q _ H2 P1 (R1.ext e2) (g1.trans (fro_same e2)) (.bl _)⟩
theorem ds_neD (h : EvDS K te S d S') (h2 : EvF K tb S' e) (sd : SeqAt.shaped (toPy d) = true) (se : SeqAt.shaped (toPy e) = true) : EvDS K (tOp (rNeD K) te tb) S (.bl (!PyData.eqv (toPy d) (toPy e))) S' := fun O H0 H P σ r Q q =>
  h O H0 H P σ r _ fun x H1 P1 R1 g1 r1 => h2 O H0 H1 P1 σ R1 _ fun y H2 e2 r2 => ⟨_, _, (r1.mono (fro_le.trans e2)).dp, r2.dp, sd, se, q _ H2 P1 (R1.ext e2) (g1.trans (fro_same e2)) (.bl _)⟩
theorem ds_eqG {γ : Type} [DecidableEq γ] {gg : γ → D} {n : Nat} {x y : γ} (En : Enc gg n) (hn : n ≤ 64) (h : EvDS K te S (gg x) S') (h2 : EvF K tb S' (gg y)) : EvDS K (tOp (rEqD K) te tb) S (.bl (decide (x = y))) S' := by
  have := ds_eqD h h2 ((En.shp x).ok hn) ((En.shp y).ok hn)
  rwa [En.eq] at this
theorem ds_neG {γ : Type} [DecidableEq γ] {gg : γ → D} {n : Nat} {x y : γ} (En : Enc gg n) (hn : n ≤ 64) (h : EvDS K te S (gg x) S') (h2 : EvF K tb S' (gg y)) : EvDS K (tOp (rNeD K) te tb) S (.bl (!decide (x = y))) S' := by
  have := ds_neD h h2 ((En.shp x).ok hn) ((En.shp y).ok hn)
  rwa [En.eq] at this
theorem ds_eqI {x y : Int} (h : EvDS K te S (.int x) S') (h2 : EvF K tb S' (.int y)) : EvDS K (tOp rEq te tb) S (.bl (decide (x = y))) S' := fun O H0 H P σ r Q q =>
  h O H0 H P σ r _ fun x H1 P1 R1 g1 r1 => h2 O H0 H1 P1 σ R1 _ fun y H2 e2 r2 => by
    cases r1
    cases r2
    refine ⟨rfl, q _ H2 P1 (R1.ext e2) (g1.trans (fro_same e2)) ?_⟩
    simp only [V.int.injEq]
    exact .bl _
theorem ds_neI {x y : Int} (h : EvDS K te S (.int x) S') (h2 : EvF K tb S' (.int y)) : EvDS K (tOp rNe te tb) S (.bl (!decide (x = y))) S' := fun O H0 H P σ r Q q =>
  h O H0 H P σ r _ fun x H1 P1 R1 g1 r1 => h2 O H0 H1 P1 σ R1 _ fun y H2 e2 r2 => by
    cases r1
    cases r2
    refine ⟨rfl, q _ H2 P1 (R1.ext e2) (g1.trans (fro_same e2)) ?_⟩
    simp only [V.int.injEq]
    exact .bl _
theorem ds_and {b : Bool} (h : EvDS K te S (.bl true) S') (h2 : EvDS K tb S' (.bl b) S'') : EvDS K (tAndV te tb) S (.bl b) S'' := fun O H0 H P σ r Q q =>
  h O H0 H P σ r _ fun x H1 P1 R1 g1 r1 => by
    cases r1
    refine ⟨true, rfl, ?_⟩
    rw [if_pos rfl]
    exact h2 O H0 H1 P1 σ R1 Q fun y H2 P2 R2 g2 r2 => q y H2 P2 R2 (g1.trans g2) r2
theorem EvDS.to (h : EvDS K te S d S') (q : d = e) : EvDS K te S e S' := q ▸ h
theorem es_ds (h : EvDS K te S (.bl b) S') : EvS K (tTest te) S b S' := fun O H0 H P σ r Q q => h O H0 H P σ r _ fun x H1 P1 R1 g1 r1 => by
  cases r1
  exact ⟨b, rfl, q H1 P1 R1 g1⟩
theorem es_and (h : EvS K tt S true S') (h2 : EvS K uu S' b S'') : EvS K (tAnd tt uu) S b S'' := fun O H0 H P σ r Q q => h O H0 H P σ r _ fun H' P' r' g => h2 O H0 H' P' σ r' _ fun H2 P2 r2 g2 => q H2 P2 r2 (g.trans g2)
theorem es_and0 (h : EvS K tt S false S') : EvS K (tAnd tt uu) S false S' := fun O H0 H P σ r Q q => h O H0 H P σ r _ fun H' P' r' g => q H' P' r' g
theorem sem_retDS (h : EvDS K te S d S') (q : R (.val d)) : Sm K (tRet te) N R S := fun O H0 H P σ r De kn kr =>
  h O H0 H P σ r _ fun x H1 P1 R1 g1 r1 => kr x H1 (.val d) ⟨R1.keep, r1.mono (hid_le (Same.refl _) fun x m => .inl (List.mem_append_left _ m))⟩ q
theorem sem_asgOb (h : EvOb K te S φ) (hi : i < S.length) (q : ∀ v, N (S.set i (.ob (pinF v φ)))) : Sm K (tAsg te (gName i)) N R S := fun O H0 H P σ r De kn kr =>
  h O H0 H P σ r _ fun v H1 fp e1 f1 m1 => by
    obtain ⟨R2, g2⟩ := r.step (i := i) (l := fp) (sl := .ob (pinF v φ)) (σ' := σ.set i (some v)) (H' := H1) hi (by rw [List.length_set]) (fun j hj => List.getElem?_set_ne (Ne.symm hj)) (fun a m => .inr (f1 a m).1) (fun a m => (f1 a m).2) (fun a o y _ => e1 a o y) fun g =>
      ⟨v, fp, List.getElem?_set_self (by rw [r.len]; exact hi), List.getElem?_set_self (by rw [r.lenP]; exact hi), fun H2 F2 k1 k2 => ⟨rfl, m1 H2 F2 k1 (Same.trans (hid_le (Same.refl _) fun x m => .inl (by
        rw [List.flatten_cons]
        rcases List.mem_append.mp m with m | m
        · exact List.mem_append_left _ m
        · rcases mem_set m with z | ⟨j, l, hj, hl, hx⟩
          · exact List.mem_append_right _ (List.mem_append_left _ z)
          · exact List.mem_append_right _ (List.mem_append_right _ (mem_flat hl hx)))) k2)⟩⟩
    exact kn H1 _ _ _ R2 g2 (q v)
/-- drop of a method call -/
theorem sem_dropMeth {rr : Rv} {E0' : XK} (a : α) (hk : S[k]? = some (.ob (pinF v (ctr C s)))) (hm : ∀ x y : V, List.lookup m [(("row" : Str), x), (("deeds" : Str), y)] = none) (ha : EvA K ta S (A a)) (hp : pre a s) (hf : f a s = .ret rr) (q : N (S.set k (.ob (pinF v (ctr C (g a s)))))) : Sm K (tDrop (tMeth C m (PSpO K (ctrs C) A pre f g) [] E0' (tVar k) ta)) N R S := fun O H0 H P σ r De kn kr =>
  meth_call a hm r hk ha hp hf fun u Hb H' P' R2 g2 e2 hr => kn H' P' σ _ (R2.ext e2) (g2.trans (fro_same e2)) q
end
end Dx

namespace Dx
open PySem PySem.Spec PyProof.Rows L2
section
variable {K : PySem.W.Frag} {S : List Sl} {te to : TE} {t : TS} {E : XK} {X : Value → Prop} {d : D}
theorem smg_pure {G : Rv → Prop} (h : Sm K t (fun _ => False) G S) : SmG K E t (fun _ r => G r) X S := fun O H0 H P σ r hE De kr =>
  h O H0 H P σ r De (fun _ _ _ _ _ _ z => z.elim) fun v H' rr hok hG => by
    have fz : ∀ G : Hp, fro G O [] = hidL G O := fun G => by unfold fro; rw [List.flatten_nil, List.append_nil]
    have r0 : Rep K O H0 H0 [] [] [] := ⟨rfl, rfl, r.olv, by rw [List.flatten_nil, hidL_nil]; exact Same.refl _, (fun i j l m x h1 _ _ _ => nomatch h1), (fun x m => nomatch m), fun i sl e => nomatch e⟩
    refine kr v H0 H' [] [] [] rr r0 ?_ ?_ hG
    · cases rr with
      | val d => exact hok.1
      | new ds => exact hok.1
    · cases rr with
      | val d =>
        show Rp K (fro H' O []) v d
        rw [fz]
        exact hok.2
      | new ds =>
        obtain ⟨_, p, us, z1, z2, z3, z4⟩ := hok
        refine ⟨p, us, z1, z2, z3, z4.mono (hid_le (Same.refl _) fun x m => .inl ?_)⟩
        rw [List.flatten_cons, List.flatten_nil, List.append_nil] at m
        rcases List.mem_append.mp m with m | m
        · exact List.mem_cons_of_mem _ m
        · rw [List.mem_singleton.mp m]; exact List.mem_cons_self
/-! texts -/
abbrev rStrI : List V → Hp → VK → Prop := fun xs H Q => ∃ i : Int, xs = [.int i] ∧ i.natAbs.log2 < 1920 ∧ Q (.str (toString i)) H
theorem evd_strI {i : Int} (h : EvF K te S (.int i)) (hi : i.natAbs.log2 < 1920) : EvD K (tCB rStrI (tCons te tNil)) S (.str (toString i)) := fun O H0 H P σ R Q q =>
  h O H0 H P σ R _ fun v H1 e1 r1 => by
    cases r1
    exact ⟨i, rfl, hi, q _ H1 e1 (.str _)⟩
theorem RpAll.of_strs {H : Hp} : ∀ {ns : List Str} {vs : List V}, RpAll K H vs (ns.map D.str) → vs = ns.map V.str
  | [], _, h => by cases h; rfl
  | n :: ns, _, h => by
    cases h with
    | cons h ha =>
      cases h
      rw [RpAll.of_strs ha]
      rfl
abbrev rJoin (K : PySem.W.Frag) : V → List V → Hp → VK → Prop := fun x xs H Q => ∃ a p, ∃ ys : List Str, x = .str a ∧ xs = [.ref p] ∧ (SqL K H p (ys.map V.str) ∨ SqT K H p (ys.map V.str)) ∧
    (ys.map (·.length)).sum + ys.length * a.length ≤ 16777216 ∧ Q (.str (Txt.join a ys)) H
theorem evd_join {sep : Str} {ys : List Str} (ho : EvF K to S (.str sep)) (he : EvF K te S (.lst (ys.map .str))) (hz : (ys.map (·.length)).sum + ys.length * sep.length ≤ 16777216) : EvD K (tM1 (rJoin K) to te) S (.str (Txt.join sep ys)) := fun O H0 H P σ R Q q =>
  ho O H0 H P σ R _ fun v H1 e1 r1 => by
    cases r1
    refine ⟨⟨_, rfl⟩, he O H0 H1 P σ (R.ext e1) _ fun w H2 e2 r2 => ?_⟩
    cases r2 with
    | lst hp rv =>
      have ev := rv.of_strs
      subst ev
      exact ⟨sep, _, ys, rfl, rfl, .inl (.of hp), hz, q _ H2 (e1.trans e2) (.str _)⟩
def signS (i : Int) : Str := if i = -1 then "-" else toString i
theorem signS_len {i : Int} (h : -1 ≤ i ∧ i ≤ 2) : (signS i).length = 1 := by
  have h4 : i = -1 ∨ i = 0 ∨ i = 1 ∨ i = 2 := by omega
  rcases h4 with rfl | rfl | rfl | rfl <;> decide +kernel
theorem sum_ones : ∀ {ns : List Int}, (∀ f, f ∈ ns → -1 ≤ f ∧ f ≤ 2) → ((ns.map signS).map (·.length)).sum = ns.length
  | [], _ => rfl
  | n :: ns, h => by
    rw [List.map_cons, List.map_cons, List.sum_cons, signS_len (h n List.mem_cons_self), sum_ones fun f m => h f (List.mem_cons_of_mem _ m), List.length_cons]
    omega
/-! places -/
def plD : D → Option Nat
  | .int i => if 0 ≤ i ∧ i ≤ 399 then some i.toNat else none
  | _ => none
theorem plD_some {d : D} {k : Nat} (h : plD d = some k) : d = .int (k : Int) ∧ k ≤ 399 := by
  cases d with
  | int i =>
    have e : plD (.int i) = if 0 ≤ i ∧ i ≤ 399 then some i.toNat else none := rfl
    rw [e] at h
    by_cases hi : 0 ≤ i ∧ i ≤ 399
    · rw [if_pos hi] at h
      have h2 := Option.some.inj h
      exact ⟨by rw [← h2, Int.toNat_of_nonneg hi.1], by omega⟩
    · rw [if_neg hi] at h
      cases h
  | _ => cases h
theorem plD_int {k : Nat} (h : k ≤ 399) : plD (.int (k : Int)) = some k := by
  have e : plD (.int (k : Int)) = if 0 ≤ (k : Int) ∧ (k : Int) ≤ 399 then some (k : Int).toNat else none := rfl
  rw [e, if_pos (by omega), Int.toNat_natCast]
/-- arguments of any kind, a new list of scalars comes -/
theorem evn_callSc {α : Type} {A : α → List D} {pre : α → Prop} {f : α → Rv} {ta : TA} {ds es : List D} {dvs : List V} {E' : XK} (a : α) (h : EvB K ta S ds) (hd : ∀ H, RpAll K H dvs es) (hA : A a = ds ++ es) (hp : pre a) {rs : List D} (hf : f a = .new rs) (hs : rs.all scD = true) : EvN K (tCall (PSp K A pre f) dvs E' ta) S rs := fun O H0 H P σ R Q q =>
  h O H0 H P σ R _ fun vs H1 e1 r1 => ⟨a, [], fun x m => (nomatch m), by rw [hA, hidL_nil]; exact r1.append (hd _), hp, fun v H2 hr => by
    rw [hf] at hr
    obtain ⟨e2, p, us, rfl, hn, hp2, r2⟩ := hr
    exact q p us H2 (e1.trans e2) (e1.free hn) hp2 (scD_all hs r2)⟩
theorem smg_freeze {F : List Sl → Rv → Prop} (k : Nat) {ds : List D} (hk : S[k]? = some (.ow ds)) (h : SmG K E t F X (S.set k (.sh (.lst ds)))) : SmG K E t F X S := fun O H0 H P σ r hE De kr => by
  obtain ⟨R2, g2⟩ := r.freeze hk
  exact h O H0 H _ σ R2 hE De kr
theorem bl_all (bs : List Bool) : (bs.map D.bl).all scD = true := by
  induction bs with
  | nil => rfl
  | cons b bs ih => rw [List.map_cons, List.all_cons, ih]; rfl
end
end Dx

namespace Dx
open PySem PySem.Spec PyProof.Rows L2
/-! ## reversed(text) -/
theorem str_norev : typeLookup (.type "str") "__reversed__" = pure none := by
  rw [typeLookup_type, builtinLookup_eq_fast]
  kernel_rfl
theorem str_notdict : isSubtype (.type "str") (.type "dict") = pure false := by
  rw [isSubtype_type]
  kernel_rfl
/-- an iterator over x from behind, place j next -/
def RsAt (h : Heap) (p : Addr) (x : Str) (tk : Tok) (j : Int) : Prop := ∃ o, h.get? p = some o ∧ o.cls = .type "reversed" ∧ o.data = .fields #[.str x tk, rawInt j]
section
variable {prog : Program} {w : World} {A : Around} {E : Value → Shared → Prop} {s : Shared} {x : Str} {tk : Tok} {p : Addr} {j : Int}
theorem RsAt.type (r : RsAt s.heap p x tk j) : s.TypeIs (.ref p) "reversed" := by
  obtain ⟨o, e1, e2, _⟩ := r
  exact ⟨o, e1, e2⟩
theorem RsAt.same {h h' : Heap} (r : RsAt h p x tk j) (e : ∀ o, h.get? p = some o → h'.get? p = some o) : RsAt h' p x tk j := by
  obtain ⟨o, e1, e2⟩ := r
  exact ⟨o, e o e1, e2⟩
def rsObj (x : Str) (tk : Tok) (j : Int) : Obj := { cls := .type "reversed", data := .fields #[.str x tk, rawInt j] }
theorem rs_code {Q : Value → Shared → Prop} (hl : x.length ≤ sizeLine) (q : Q (.ref s.heap.objs.size) { s with heap := s.heap.push (rsObj x tk ((x.length : Int) - 1)), toks := s.toks + 1 + 1 }) :
    codeAny (model prog w) A (.call (.builtin "reversed.__new__") ⟨[.type "reversed", .str x tk], []⟩) (wants Q E) s := by
  have ty := typeIs_str s x tk
  have hn := line63
  refine codeAny_of_tree ?_
  show wpAny _ A.in1 (checkBuiltinCall "reversed.__new__" ⟨[.type "reversed", .str x tk], []⟩ >>= fun _ => again (.builtin "reversed.__new__" ⟨[.type "reversed", .str x tk], []⟩)) _ _ s
  refine wpAny_bind (wpAny_of_eq (F.newCall_reversed_1 _) (wpAny_pure ⟨plainId_quiet F.plain_reversed_new _, codeAny_builtin F.entry_reversed_new ?_⟩))
  rw [Around.under_plainId F.plain_reversed_new _]
  unfold Builtin.«reversed.__new__»
  refine wpAny_bind (wpAny_of_eq (newClass_reversed _) (wpAny_bind (wpAny_of_eq (a := ()) (by kernel_rfl) (wpAny_bind (wpAny_of_eq (a := ()) (by kernel_rfl) (wpAny_bind (wpAny_specialOf ty str_norev ?_)))))))
  try dsimp only
  refine wpAny_bind ?_
  wp_delta
  refine wpAny_bind (wpAny_isInstance (T := "str") (U := "dict") (b := false) ty str_notdict ?_)
  rw [if_neg Bool.false_ne_true]
  refine wpAny_bind (wpAny_specialOf ty slot_str_getitem.lookup ?_)
  try dsimp only
  rw [if_pos (by decide +kernel)]
  refine wpAny_pure ?_
  try dsimp only
  rw [if_neg (by decide)]
  try dsimp only
  refine wpAny_bind (len_str (by omega) (wpAny_bind (wpAny_of_eq (a := some ((x.length : Nat) : Int)) rfl ?_)))
  try dsimp only
  refine wpAny_bind ?_
  show wpAny _ _ (newObj (.type "reversed") (.fields #[.str x tk, rawInt ((x.length : Int) - 1)])) _ _ _
  exact wpAny_newObj_type (wpAny_pure q)
theorem rs_call {Q : Value → Shared → Prop} (hl : x.length ≤ sizeLine) (q : Q (.ref s.heap.objs.size) { s with heap := s.heap.push (rsObj x tk ((x.length : Int) - 1)), toks := s.toks + 1 + 1 }) : wpAny (model prog w) A (call (.type "reversed") [.str x tk]) Q E s := by
  refine callType_codes (Q₁ := fun v s1 => s1.TypeIs v "reversed" ∧ Q v s1) RT.called_rt (F.typeCall_reversed_1 _) F.entry_object_init (rs_code (A := A.in1) hl ⟨⟨_, Heap.get?_push_size _ rfl, rfl⟩, q⟩) fun v s1 z => ?_
  obtain ⟨z1, z2⟩ := z
  exact ⟨z1, F.args_object_init_2 v _, object_init_meets RT.called_rt.init.lookup RT.called_rt.made (by decide) prog w A.in1 _ s1 ⟨z1, rfl, z2⟩⟩
theorem rs_item {i c : Nat} {Q : Option Value → Shared → Prop} (r : RsAt s.heap p x tk (i : Int)) (hc : x.cps.toList[i]? = some c) (hl : x.length ≤ sizeLine)
    (q : ∀ h' t, RsAt h' p x tk ((i : Int) - 1) → Heap.SameBut p s.heap h' → Q (some (.str ⟨#[c]⟩ t)) { s with heap := h', toks := s.toks + 1 + 1 }) : wpAny (model prog w) A (pyNext (.ref p)) Q E s := by
  obtain ⟨o, g1, g2, g3⟩ := id r
  have hi : i < x.length := by
    have := (List.getElem?_eq_some_iff.mp hc).1
    simpa [Str.length] using this
  have hn := line63
  have ty := typeIs_str s x tk
  unfold pyNext
  refine wpAny_bind (wpAny_attempt (wpAny_callSpecial?_slot (name := Str.ofString "__next__") r.type RT.slot_rt_next (wpAny_call_entry RT.slot_rt_next r.type RT.entry_rt_next ?_ (RT.args_rt_next _))))
  unfold Builtin.«reversed.__next__»
  refine wpAny_bind (wpAny_of_eq (a := (Value.ref p, [])) rfl (wpAny_bind (wpAny_field g1 g3 (x := .str x tk) rfl (wpAny_bind (wpAny_field g1 g3 (x := rawInt (i : Int)) rfl ?_)))))
  show wpAny _ _ (if (i : Int) < 0 then _ else _) _ _ s
  rw [if_neg (by omega)]
  try dsimp only
  refine wpAny_bind (wpAny_specialOf ty slot_str_getitem.lookup ?_)
  try dsimp only
  rw [if_neg (by decide)]
  try dsimp only
  refine wpAny_bind (wpAny_mkInt (wpAny_bind (wpAny_attempt ?_)))
  have hix : seqIndex? (i : Int) x.length = some i := seqIndex_of (by omega) (by omega)
  refine getItem_str (c := c) ?_ (by rw [hix]; simpa using hc) ?_
  · have e1 : decide ((i : Int) < -(2 ^ 63 : Int)) = false := decide_eq_false (by omega)
    have e2 : decide ((i : Int) ≥ 2 ^ 63) = false := decide_eq_false (by omega)
    rw [e1, e2]
    rfl
  try dsimp only
  refine wpAny_bind (wpAny_field (s := { s with toks := s.toks + 1 + 1 }) g1 g3 (x := rawInt (i : Int)) rfl ?_)
  try dsimp only
  refine wpAny_bind (wpAny_setField (s := { s with toks := s.toks + 1 + 1 }) g1 g3 (by simp) ?_)
  have back : RsAt (s.heap.update p (Obj.mapFields (·.setIfInBounds 1 (rawInt ((i : Int) - 1))))) p x tk ((i : Int) - 1) :=
    ⟨_, Heap.get?_update_self _ g1 (Obj.isFreed_of_fields (Obj.data_mapFields g3 _)), (Obj.cls_mapFields ..).trans g2, by rw [Obj.data_mapFields g3]; simp⟩
  first
    | exact wpAny_pure ⟨_, rfl, wpAny_pure (q _ _ back (Heap.SameBut.update ..))⟩
    | exact wpAny_bind (wpAny_pure (wpAny_pure ⟨_, rfl, wpAny_pure (q _ _ back (Heap.SameBut.update ..))⟩))
theorem rs_end {Q : Option Value → Shared → Prop} (hh : A.handled = none) (r : RsAt s.heap p x tk (-1)) (q : ∀ h', Heap.ExtBut p s.heap h' → Q none { s with heap := h' }) : wpAny (model prog w) A (pyNext (.ref p)) Q E s := by
  obtain ⟨o, g1, g2, g3⟩ := id r
  unfold pyNext
  refine wpAny_bind (wpAny_attempt (wpAny_callSpecial?_slot (name := Str.ofString "__next__") r.type RT.slot_rt_next (wpAny_call_entry RT.slot_rt_next r.type RT.entry_rt_next ?_ (RT.args_rt_next _))))
  unfold Builtin.«reversed.__next__»
  refine wpAny_bind (wpAny_of_eq (a := (Value.ref p, [])) rfl (wpAny_bind (wpAny_field g1 g3 (x := .str x tk) rfl (wpAny_bind (wpAny_field g1 g3 (x := rawInt (-1)) rfl ?_)))))
  show wpAny _ _ (if (-1 : Int) < 0 then _ else _) _ _ s
  rw [if_pos (by decide)]
  try dsimp only
  refine wpAny_bind (wpAny_rule (wpAny_bind ?_))
  wp_delta
  refine wpAny_bind (wpAny_setField g1 g3 (by simp) ?_)
  have g4 := Heap.get?_update_self (Obj.mapFields (·.setIfInBounds 1 (rawInt (-1)))) g1 (Obj.isFreed_of_fields (Obj.data_mapFields g3 _))
  refine wpAny_setField (s := { s with heap := s.heap.update p (Obj.mapFields (·.setIfInBounds 1 (rawInt (-1)))) }) g4 (Obj.data_mapFields g3 _) (by simp) ?_
  try dsimp only
  first
    | show wpAny _ _ (newExc (.type "StopIteration") [] >>= _) _ _ _
    | (refine wpAny_bind ?_; show wpAny _ _ (newExc (.type "StopIteration") [] >>= _) _ _ _)
    | (refine wpAny_bind ?_; wp_delta; show wpAny _ _ (newExc (.type "StopIteration") [] >>= _) _ _ _)
  refine wpAny_bind ?_
  simp only [newExc, newTuple]
  refine wpAny_bind (wpAny_newObj_type (wpAny_bind (m := firstArgMember _ _) (wpAny_of_eq (a := Value.none) (by first | rfl | (simp only [firstArgMember]; rfl)) (wpAny_newObj_type ?_ (by size_fits)))) (by size_fits))
  simp only [raiseNew]
  refine wpAny_bind (wpAny_handled ?_)
  first | rw [show A.in1.handled = none from hh] | rw [hh]
  refine wpAny_bind (wpAny_pure (wpAny_throw ?over))
  refine wpAny_bind (wpAny_isInstance (b := true) (T := "StopIteration") ⟨_, Heap.get?_push_size _ rfl, rfl⟩ isSubtype_stop (wpAny_pure (q _ ?_)))
  exact ((show Heap.ExtBut p s.heap _ from fun b ob hb e => (Heap.get?_update_other _ _ (Ne.symm hb)).trans ((Heap.get?_update_other _ _ (Ne.symm hb)).trans e)).push _).push _
theorem rs_iter {Q : Value → Shared → Prop} (r : RsAt s.heap p x tk j) (q : Q (.ref p) s) : wpAny (model prog w) A (pyIter (.ref p)) Q E s := by
  refine wpAny_pyIter_slot r.type RT.slot_rt_iter (wpAny_call_entry RT.slot_rt_iter r.type RT.entry_rt_iter ?_ (RT.args_rt_iter _))
  show wpAny _ _ (ret (.ref p)) _ _ s
  exact wpAny_pure ⟨_, rfl, "reversed", _, r.type, RT.slot_rt_next.lookup, q⟩
end
/-- the signs of x from behind -/
def ItS (x : Str) : It := ⟨fun i _ => i < x.length, fun i H v H' => H' = H ∧ ∃ c, x.cps.toList[x.length - 1 - i]? = some c ∧ v = .str ⟨#[c]⟩, fun i _ => x.length ≤ i⟩
theorem turn_rs {P : Program} {w : World} {K : PySem.W.Frag} {tg : Expr} (p : Addr) (x : Str) (tk : Tok) (hl : x.length ≤ sizeLine) : Turn P w K tg (ItS x) [p] p (fun i h => i ≤ x.length ∧ RsAt h p x tk ((x.length : Int) - 1 - (i : Nat))) where
  mem := List.mem_cons_self
  obj := fun i h st b hb => by
    obtain rfl := List.mem_singleton.mp hb
    obtain ⟨_, o, g1, g2, g3⟩ := st
    exact ⟨o, g1, fun v z => by rw [g3] at z; exact nomatch z⟩
  keep := fun i h h' st k => ⟨st.1, st.2.same fun o e => k p List.mem_cons_self o e⟩
  item := by
    intro X hP hw hK hc i pins s σ H E I hf st hg
    subst hP hw hK
    obtain ⟨f0, f1, f2, f3, f4, f5⟩ := hf p List.mem_cons_self
    have hlt : i < x.length := hg
    obtain ⟨c, hcx⟩ : ∃ c, x.cps.toList[x.length - 1 - i]? = some c := ⟨_, List.getElem?_eq_getElem (by simp [Str.length] at hlt ⊢; omega)⟩
    obtain ⟨hin, r⟩ := st
    rw [show (x.length : Int) - 1 - ((i : Nat) : Int) = ((x.length - 1 - i : Nat) : Int) by omega] at r
    refine rs_item r hcx hl fun h' t back sb => ?_
    rw [show ((x.length - 1 - i : Nat) : Int) - 1 = (x.length : Int) - 1 - ((i + 1 : Nat) : Int) by omega] at back
    have I1 : Inv X pins σ H { s with heap := h', toks := s.toks + 1 + 1 } := I.turned (t' := s.toks + 1 + 1) (fun b o hb e => (sb.2 b hb).trans e) f0 f1 f3 f4 f5
    obtain ⟨o, g1, g2, g3⟩ := id back
    exact ⟨_, rfl, go_of (s := { s with heap := h', toks := s.toks + 1 + 1 }) g1 g2 g3 (by decide) ⟨.str ⟨#[c]⟩, H, I1, ⟨t, rfl⟩, ⟨rfl, c, hcx, rfl⟩, ⟨hlt, back⟩, fun b hb => (hf b hb).1⟩⟩
  done := by
    intro X hP hw hK hc i pins s σ H E I hf st hg
    subst hP hw hK
    obtain ⟨f0, f1, f2, f3, f4, f5⟩ := hf p List.mem_cons_self
    obtain ⟨hin, r⟩ := st
    have hge : x.length ≤ i := hg
    rw [show (x.length : Int) - 1 - ((i : Nat) : Int) = -1 by omega] at r
    exact rs_end (I.ok.hd hc) r fun h' eb => ⟨rfl, I.turned (t' := s.toks) (fun b o hb e => eb b o hb e) f0 f1 f3 f4 f5⟩
  self := fun A i s Q E st h => rs_iter st.2 h
def iRevS (te : TE) : TI := fun σ H R => te σ H fun v H1 => ∃ x : Str, v = .str x ∧ x.length ≤ sizeLine ∧ R (ItS x) H1
theorem pi_revS {X : Cx} {tg e : Expr} {te : TE} {q pos : Pos} (hg : Gl X "reversed") (hm : X.mg "reversed" = none) (he : PE X e te) (hs : starEach [e] X.env = (false, eval e X.env) :: starEach [] X.env := by rfl) : PI X tg (.Call (.Name "reversed" q) [e] [] pos) (iRevS te) := by
  refine ⟨fun pins s σ H R I h => ?_⟩
  refine Call_ (ld_blt I hg hm PyProof.Rows.boot_reversed (PyProof.Rows.callWith_type1 (args_cons (thn (he.run pins s σ H _ I h) fun u s1 h1 => args_nil ?_) hs) hs rfl))
  obtain ⟨v, H1, I1, r1, x, ev, hl, q⟩ := h1
  subst ev
  obtain ⟨tk, rfl⟩ := r1
  refine rs_call hl (rs_iter (x := x) (tk := tk) (j := (x.length : Int) - 1) ⟨_, Heap.get?_push_size _ rfl, rfl, rfl⟩ ?_)
  refine pi_one (tk := s1.toks + 1 + 1) I1 _ (turn_rs _ x tk hl) ⟨Nat.zero_le _, ?_⟩ q
  rw [show (x.length : Int) - 1 - ((0 : Nat) : Int) = (x.length : Int) - 1 by omega]
  exact ⟨_, Heap.get?_push_size _ rfl, rfl, rfl⟩
end Dx

namespace Dx
open PySem PySem.Spec PyProof.Rows L2
/-! ## a comprehension whose element may raise -/
theorem hid_none {B : Heap} {C b : Addr} (h : B.get? b = none) : (PySem.W.hideAll B [C]).get? b = none := by
  cases q : (PySem.W.hideAll B [C]).get? b with
  | none => rfl
  | some o => have z := PySem.W.of_hideAll _ q; rw [h] at z; cases z
theorem hid_ne {B : Heap} {C b : Addr} {o : Obj} (h : (PySem.W.hideAll B [C]).get? b = some o) : b ≠ C ∧ B.get? b = some o :=
  ⟨fun e => (by rw [PySem.W.hideAll_none [C] (by rw [e]; exact List.mem_cons_self)] at h; cases h), PySem.W.of_hideAll _ h⟩
/-- the block's names are let go, the exception stays held -/
theorem held_drop {B h3 h4 : Heap} {l : List Env} {a C L : Addr} {Z : Obj → Prop} {m m4 : Str → Option Value} (hn : h3.Ns C m) (hn4 : h4.Ns C m4) (sb : Heap.SameBut C h3 h4) (x : HandSPX.HeldZ B l a Z L h3) : HandSPX.HeldZ (PySem.W.hideAll B [C]) l a Z L h4 := by
  obtain ⟨x1, x2, x3, oe, vs, T, oT, ts, y1, y2, y3, y4, y5, y6, y7, y8, y9⟩ := x
  have notC : ∀ {b : Addr} {o : Obj} {vs : Array Value}, h3.get? b = some o → o.data = .fields vs → b ≠ C := fun {b o vs} e d z => by
    obtain ⟨oL, es, ep, k1, k2, _⟩ := hn
    rw [z, k1] at e
    cases e
    rw [k2] at d
    cases d
  refine ⟨fun b o e => ?_, hid_none x2, Heap.FunFrames.sameBut sb hn4 (funFrames_none x3 fun b hb => hid_none (x3.mem hb).1), oe, vs, T, oT, ts, ?_, y2, y3, y4, hid_none y5, y6, ?_, y8, y9⟩
  · obtain ⟨hb, e'⟩ := hid_ne e
    exact (sb.2 b hb).trans (x1 b o e')
  · exact (sb.2 _ (notC y1 y3)).trans y1
  · exact (sb.2 _ (notC y7 y8)).trans y7
section
variable {X : Cx} {pins : List (Addr × Obj)} {σ : L2.St} {H : Hp} {s s' : Shared} {E : XK}
theorem air_of (I : Inv X pins σ H s) {u : Value} (c : L2.CX X.prog X.w X.stack H s E u s') : ∃ (a : Addr) (B : Heap) (sI : Shared) (qs : List (Addr × Obj)) (τ : L2.St) (G : Hp) (cls : Value) (d : Option Addr),
    u = .ref a ∧ Inv X qs τ G sI ∧ (∀ b o, sI.heap.get? b = some o → b ∉ frs X.stack → B.get? b = some o) ∧ sI.heap.UpToSlots s'.heap ∧ HandSPX.FlyingZ B X.stack a (Zc cls d) s'.heap ∧ G a = none ∧ s'.os = sI.os ∧ AllBare s'.gens ∧ E cls d G := by
  obtain ⟨a, B, sI, qs, τ, G, cls, d, e, J, nb, up, sky, na, os, ag, w⟩ := XE.of_call (W := fun cls d _ H => E cls d H) I (fun _ _ _ h => h) c
  refine ⟨a, B, sI, qs, τ, G, cls, d, e, J, nb, up, ?_, na, os, ag, w⟩
  obtain ⟨a2, _, _, _, _, e2, fl, _⟩ := c
  rw [e] at e2
  cases e2
  obtain ⟨_, _, _, oe, vs, T, oT, ts, y1, y2, y3, y4, y5, y6, y7, y8, y9⟩ := fl
  rcases sky with ⟨_, _, _, oe', vs', z1, _, z3, z4⟩ | z | ⟨_, _, _, oe', vs', T', oT', ts', z1, z2, z3, z4, z5, z6, z7, z8, z9⟩
  · rw [y1] at z1; cases z1
    rw [y3] at z3; cases z3
    rw [y4] at z4; cases z4
  · exact z
  · rw [y1] at z1; cases z1
    rw [y3] at z3; cases z3
    rw [y4] at z4; cases z4
    rw [y7] at z7; cases z7
    rw [y8] at z8; cases z8
    rw [y9] at z9
    exact absurd z9 (by simp [rawInt])
/-- a call in the block's element: what it raises goes through the block, to the def -/
theorem blk_air {scope : Scope} {ce : Env} {fp : List Addr} (hs : X.stack = X.env :: X.outer) (hfr : X.env.frame = some X.env.locals) (hcf : ce.frame = X.env.frame) (I3 : Inv X pins σ H s) (hcL : ce.locals = s.heap.objs.size) (f3 : ∀ b ∈ fp, FpOk X pins H b)
    (tk : Takes X (Wof E)) (ρ : L2.St) : PassesAt (L2.CX X.prog X.w) ((X.blk s H scope ce fp).tr [] (notedBy (model X.prog X.w) X.A ce (CompFails (model X.prog X.w) X.A X.xe ce))) ρ E := by
  intro pb Hb sb u s' J c
  obtain ⟨a, B, sI, qs, τ, G, cls, d, rfl, J', nb, up, fl, na, os, ag, hE⟩ := air_of J c
  have I7 : Inv X pins σ G sI := I3.call' (ch := fp) J'.os J'.base J'.hok J'.bare fun b hb => ⟨(f3 b hb).2.2.2.1, (f3 b hb).2.1, (f3 b hb).2.2.2.2.1, (f3 b hb).2.2.2.2.2⟩
  have nC : G ce.locals = none := J'.free
  obtain ⟨m, hn, _⟩ := J'.loc
  have hn : sI.heap.Ns ce.locals m := hn
  have fC : FpOk X pins G ce.locals := I3.fpOk (Nat.le_of_eq hcL.symm) nC
  have fl' : HandSPX.FlyingZ B (X.env :: X.outer) a (Zc cls d) s'.heap := by rw [← hs]; exact fl
  show wpAny (model X.prog X.w) X.A (noteFrame (.ref a) ce) _ _ s'
  rw [noteFrame_env _ hcf]
  refine HandSPX.looks_onZ (L := X.env.locals) Zc.steady (I3.ok.frames.trans (by rw [hs])) hfr fl' fun h3 hd3 up3 => ?_
  have hn3 : h3.Ns ce.locals m := hn.upToSlots (up.trans up3)
  refine ⟨m, hn3, fun h4 m4 hn4 sb4 => ?_⟩
  have hd4 := held_drop hn3 hn4 sb4 hd3
  obtain ⟨oe, vs, T, oT, ts, q1, q2, q3, q4, _⟩ := id hd4.2.2.2
  have fin : wpAny (model X.prog X.w) X.A (setFlight (.ref a) (some X.env.locals)) (fun _ s5 => wpAny (model X.prog X.w) X.A (throw (.ref a) : Sem Value) (fun _ _ => False) X.xe s5) X.xe { s' with heap := h4 } := by
    refine HandSPX.setFlight_onZ (s := { s' with heap := h4 }) hd4 fun h5 hd5 up5 => wpAny_throw (tk _ _ ?_)
    refine ⟨a, PySem.W.hideAll B [ce.locals], { sI with heap := PySem.W.hideAll sI.heap [ce.locals] }, pins, σ, G, cls, d, rfl, ?_, fun b o e hb => ?_, fun b o e nf => ?_, .inr (.inr (by rw [hs]; exact hd5)), na, os, ag, hE⟩
    · exact I7.turned (t' := sI.toks) (fun b o hb e => PySem.W.hideAll_get _ e (by simpa using hb)) nC fC.2.1 fC.2.2.2.1 fC.2.2.2.2.1 fC.2.2.2.2.2
    · obtain ⟨h1, h2⟩ := hid_ne e
      exact PySem.W.hideAll_get _ (nb b o h2 hb) (by simpa using h1)
    · obtain ⟨h1, h2⟩ := hid_ne e
      obtain ⟨sl, e3⟩ := (up.trans up3) b o h2 nf
      obtain ⟨sl5, e5⟩ := up5 b _ ((sb4.2 b h1).trans e3) nf
      exact ⟨sl5, e5⟩
  unfold PySem.passOn
  refine wpAny_bind (wpAny_field q1 q3 q4 ?_)
  rw [if_neg (by simp), hcf, hfr]
  first
    | exact wpAny_bind (wpAny_pure (wpAny_bind fin))
    | exact wpAny_bind fin

/-- the turn of such a comprehension, and what it leaves for the store behind it -/
theorem lcX_core {elt tg iter : Expr} {scope : Scope} {own : List (Str × Nat)} {pos pos' : Pos} {wi : TI} {g : TG} {te : TE} {Q : VK} {Qf : Value → Shared → Prop} {u0 : Value → Sem Unit}
    (hs : X.stack = X.env :: X.outer) (hfr : X.env.frame = some X.env.locals) (tk : Takes X (Wof E)) (hc : X.calm = true) (hN : X.N.Nodup) (I : Inv X pins σ H s) (hi : PI X tg iter wi) (ok : BlkOk X.N X.env.scope scope own)
    (hg : ∀ (s : Shared) (H : Hp) (C : Addr) (cl : List (Str × Addr)) (fp : List Addr) (xe : Value → Shared → Prop), PG ((X.blk s H scope (compEnvC scope cl C X.env) fp).tr [] xe) tg g)
    (he : ∀ (s : Shared) (H : Hp) (C : Addr) (cl : List (Str × Addr)) (fp : List Addr) (xe : Value → Shared → Prop), (∀ ρ, PassesAt (L2.CX X.prog X.w) ((X.blk s H scope (compEnvC scope cl C X.env) fp).tr [] xe) ρ E) → PE ((X.blk s H scope (compEnvC scope cl C X.env) fp).tr [] xe) elt te)
    (hfd : ∀ x, foldedSetIterable iter X.env x = pure x) (h : tLc wi g tYes te (own.map (·.2)) σ H Q)
    (last : ∀ (L : Addr) (ce : Env) (t : Shared) m G, Inv X pins σ G t → Q (.ref L) G → t.heap.Ns ce.locals m → FpOk X pins G ce.locals → wpAny (model X.prog X.w) X.A (u0 (.ref L)) (fun _ t2 => ∃ m, t2.heap.Ns ce.locals m ∧ ∀ h', Heap.SameBut ce.locals t2.heap h' → Qf .none { t2 with heap := h' }) X.xe t) :
    wpAny (model X.prog X.w) X.A (comprehension (.ListComp elt [⟨tg, iter, [], 0⟩] scope pos) scope X.env pos' (newList []) false (eval iter X.env) (some u0)) Qf X.xe s := by
  have hfree : ∀ y ∈ scope.names, y.2 = .free → ∃ c, X.env.cells.lookup y.1 = some c := fun y hy e =>
    (ok.free y hy e).elim (fun k => I.ok.has _ (.inl k)) (fun k => I.ok.has _ (.inr k))
  refine comprehension_at (use := some u0) rfl hfd (closure_ok hfree) ok.kind (fun y hy e => by rw [ok.uniq y hy, e]) ?_
  refine thn (hi.run pins s σ H _ I h) fun xv t1 hx => ?_
  refine thn hx fun itv t2 hx2 => ?_
  obtain ⟨it, fp, tn, J, H2, rfl, I2, T, st2, f2, q⟩ := hx2
  refine wpAny_newObj_type (newEnv_comp ?_) (Nat.zero_le _)
  generalize hD : t2.heap.objs.size = L
  have hLn : H2 L = none := I2.hok.fresh (Nat.le_of_eq hD)
  obtain ⟨W, ⟨m0, w0⟩, turn⟩ := q L hLn
  generalize ht3 : ({ t2 with heap := t2.heap.push { cls := .type "list", data := .seq ([] : List Value).toArray } } : Shared) = t3
  have h3 : t3.heap = t2.heap.push { cls := .type "list", data := .seq ([] : List Value).toArray } := by rw [← ht3]
  have I3 : Inv X pins σ (upd H2 L (.lst [])) t3 := by
    rw [← ht3]
    refine I2.laid (t' := t2.toks) (fun b o e => Heap.get?_push_of_some _ e) (Nat.le_of_eq hD) ⟨Nat.zero_le _, [], 0, .nil, ?_⟩
    rw [← hD]
    exact Heap.get?_push_size _ rfl
  have small : ∀ b ∈ fp, b < t2.heap.objs.size := fun b hb => let ⟨o, e, _⟩ := T.obj _ _ st2 b hb; Heap.lt_size e
  have f3 : ∀ b ∈ fp, FpOk X pins (upd H2 L (.lst [])) b ∧ b < t3.heap.objs.size := fun b hb => by
    have hlt := small b hb
    have hne : b ≠ L := fun e => Nat.ne_of_lt hlt (e.trans hD.symm)
    exact ⟨⟨by rw [upd_ne hne]; exact (f2 b hb).1, (f2 b hb).2⟩, by rw [h3, Heap.size_push]; exact Nat.lt_succ_of_lt hlt⟩
  have st3 : tn 0 t3.heap := T.keep _ _ _ st2 fun b _ o e => by rw [h3]; exact Heap.get?_push_of_some _ e
  have nofp : ∀ b ∈ fp, (upd H2 L (.lst [])) b = none := fun b hb => (f3 b hb).1.1
  have I4 := block_start I3 ok hN f3
  have pg := hg t3 (upd H2 L (.lst [])) t3.heap.objs.size (cellsFrom (t3.heap.objs.size + 1) scope.names (cloFrom X.env.cells scope.names [])) fp
  have pe := he t3 (upd H2 L (.lst [])) t3.heap.objs.size (cellsFrom (t3.heap.objs.size + 1) scope.names (cloFrom X.env.cells scope.names [])) fp
  show codeAny _ _ (.compStart (.ListComp elt [⟨tg, iter, [], 0⟩] scope pos) 0 (.ref it) (.ref L) (compEnvC scope (cellsFrom (t3.heap.objs.size + 1) scope.names (cloFrom X.env.cells scope.names [])) t3.heap.objs.size X.env))
    (compEnds (model X.prog X.w) X.A X.xe (some u0) Qf (.ref L) (compEnvC scope (cellsFrom (t3.heap.objs.size + 1) scope.names (cloFrom X.env.cells scope.names [])) t3.heap.objs.size X.env)) { t3 with heap := pushCells (t3.heap.push { cls := .type "dict", data := .dict #[] }) scope.names }
  generalize hce : compEnvC scope (cellsFrom (t3.heap.objs.size + 1) scope.names (cloFrom X.env.cells scope.names [])) t3.heap.objs.size X.env = ce at I4 pg pe ⊢
  have cL : ce.locals = t3.heap.objs.size := by rw [← hce]; rfl
  have cF : ce.frame = X.env.frame := by rw [← hce]; rfl
  generalize hH3 : upd H2 L (.lst []) = H3 at I3 I4 pg pe w0 nofp f3
  generalize ht4 : ({ t3 with heap := pushCells (t3.heap.push { cls := .type "dict", data := .dict #[] }) scope.names } : Shared) = t4 at I4 ⊢
  have st4 : tn 0 t4.heap := T.keep _ _ _ st3 fun b _ o e => by rw [← ht4]; exact pushCells_keeps _ _ _ _ (Heap.get?_push_of_some _ e)
  generalize hxe : notedBy (model X.prog X.w) X.A ce (CompFails (model X.prog X.w) X.A X.xe ce) = xb
  have air : ∀ ρ, PassesAt (L2.CX X.prog X.w) ((X.blk t3 H3 scope ce fp).tr [] xb) ρ E := by
    rw [← hxe]
    exact blk_air hs hfr cF I3 cL (fun b hb => (f3 b hb).1) tk
  have pe := pe xb air
  have pg := pg xb
  have I4 : Inv ((X.blk t3 H3 scope ce fp).tr [] xb) [] (wipe σ (own.map (·.2))) H3 t4 := I4.toTry xb
  have stat : ∀ {τ : L2.St} {G : Hp} {t : Shared}, Inv ((X.blk t3 H3 scope ce fp).tr [] xb) [] τ G t → (∀ b ∈ fp, G b = none) → ∀ b ∈ fp, FpOk ((X.blk t3 H3 scope ce fp).tr [] xb) [] G b := fun {τ G t} I' hn b hb =>
    ⟨hn b hb, (I'.ok.exf b hb).1, I'.ok.exfs b hb, .inl hb, (I'.ok.exf b hb).2, fun p hp => (nomatch (show p ∈ ([] : List (Addr × Obj)) from hp))⟩
  have loop : codeAny (model X.prog X.w) X.A (.compLoop (.ListComp elt [⟨tg, iter, [], 0⟩] scope pos) 0 (.ref it) (.ref L) ce) (compEnds (model X.prog X.w) X.A X.xe (some u0) Qf (.ref L) ce) t4 := by
    refine compLoop_any (fun n t => ∃ i G, Inv ((X.blk t3 H3 scope ce fp).tr [] xb) [] (wipe σ (own.map (·.2))) G t ∧ tn i t.heap ∧ (∀ b ∈ fp, G b = none) ∧ W i n G) ?_ m0 ⟨0, H3, I4, st4, nofp, w0⟩
    rintro n t5 ⟨i, H5, I5, st5, n5, w5⟩
    show wpAny _ _ _ _ (notedBy (model X.prog X.w) X.A ce (CompFails (model X.prog X.w) X.A X.xe ce)) _
    rw [hxe]
    rcases turn i n H5 w5 with ⟨stop, qq⟩ | ⟨go, Nx, hNx, step⟩
    · refine thnF (T.done ((X.blk t3 H3 scope ce fp).tr [] xb) rfl rfl rfl hc i [] t5 _ H5 (fun _ _ => False) I5 (stat I5 n5) st5 stop) fun r t6 hr6 => ?_
      obtain ⟨rfl, I6⟩ := hr6
      have I7 : Inv X pins σ H5 t6 := I3.call' (ch := fp) I6.os I6.base I6.hok I6.bare fun b hb => ⟨(f3 b hb).1.2.2.2.1, (f3 b hb).1.2.1, (f3 b hb).1.2.2.2.2.1, (f3 b hb).1.2.2.2.2.2⟩
      obtain ⟨m, hn, _⟩ := I6.loc
      exact last L ce t6 m H5 I7 qq hn (I3.fpOk (by rw [cL]; exact Nat.le_refl _) I6.free)
    · refine thnF (T.item ((X.blk t3 H3 scope ce fp).tr [] xb) rfl rfl rfl hc i [] t5 _ H5 (fun _ _ => False) I5 (stat I5 n5) st5 go) fun r t6 hr6 => ?_
      obtain ⟨v6, rfl, h6⟩ := hr6
      show wpAny _ _ _ _ (notedBy (model X.prog X.w) X.A ce (CompFails (model X.prog X.w) X.A X.xe ce)) _
      rw [hxe]
      refine thnF h6 fun _ t7 h7 => ?_
      obtain ⟨x, H7, I7, r7, y7, st7, n7⟩ := h7
      have P7 := I7.pinned (stat I7 n7) (T.obj _ _ st7)
      show wpAny _ _ _ _ (notedBy (model X.prog X.w) X.A ce (CompFails (model X.prog X.w) X.A X.xe ce)) _
      rw [hxe]
      refine thn (pg.run _ t7 _ H7 x v6 _ P7 r7 (step x H7 y7)) fun _ t8 h8 => ?_
      obtain ⟨σ8, H8, I8, hw8, q8⟩ := h8
      refine wpAny_tests_nil ?_
      show wpAny _ _ _ _ (notedBy (model X.prog X.w) X.A ce (CompFails (model X.prog X.w) X.A X.xe ce)) _
      rw [hxe]
      have q8 : te σ8 H8 fun y H4 => ∃ acc, H4 L = some (.lst acc) ∧ acc.length < sizeLine ∧ Nx (upd H4 L (.lst (acc ++ [y]))) := q8
      refine thn (pe.run _ t8 σ8 H8 _ I8 q8) fun z t9 h9 => ?_
      obtain ⟨yv, H9, I9, r9, acc, hL9, hz9, nx⟩ := h9
      refine app_ok (X := (X.blk t3 H3 scope ce fp).tr [] xb) I9 hL9 hz9 r9 fun ta Ia => ?_
      obtain ⟨m', hm, w'⟩ := hNx _ nx
      have pinned : ∀ b ∈ fp, ∀ o, t7.heap.get? b = some o → ta.heap.get? b = some o ∧ (upd H9 L (.lst (acc ++ [yv]))) b = none := fun b hb o e =>
        have z := Ia.pin (b, o) (List.mem_append_right _ (List.mem_append_right _ (mem_pinsAt hb e)))
        ⟨z.1, z.2.1⟩
      refine ⟨m', hm, i + 1, _, (Ia.unpinned (pins := [])).weak (by rw [← hw8, wipe_length]) (fun j v e => ?_), T.keep _ _ _ st7 fun b hb o e => (pinned b hb o e).1, fun b hb => ?_, w'⟩
      · rw [← hw8] at e
        exact (wipe_some e).1
      · obtain ⟨o, e, _⟩ := T.obj _ _ st7 b hb
        exact (pinned b hb o e).2
  exact codeAny_compStart_list loop (T.self X.A 0 _ _ _ st4 loop)
/-- name = [..] on one line, the element may raise -/
theorem ps_setLcX {i : Nat} {y : Str} {py : Pos} {elt tg iter : Expr} {scope : Scope} {own : List (Str × Nat)} {pos spos : Pos} {wi : TI} {g : TG} {te : TE} (hs : X.stack = X.env :: X.outer) (hfr : X.env.frame = some X.env.locals) (tk : Takes X (Wof E)) (hc : X.calm = true) (hN : X.N.Nodup) (hy : X.N[i]? = some y) (hyl : X.env.scope.names.lookup y = some .local)
    (hsw : swapsWith (.ListComp elt [⟨tg, iter, [], 0⟩] scope pos) (some (.Name y py)) spos.line X.env = pure true) (hi : PI X tg iter wi) (ok : BlkOk X.N X.env.scope scope own)
    (hg : ∀ (s : Shared) (H : Hp) (C : Addr) (cl : List (Str × Addr)) (fp : List Addr) (xe : Value → Shared → Prop), PG ((X.blk s H scope (compEnvC scope cl C X.env) fp).tr [] xe) tg g)
    (he : ∀ (s : Shared) (H : Hp) (C : Addr) (cl : List (Str × Addr)) (fp : List Addr) (xe : Value → Shared → Prop), (∀ ρ, PassesAt (L2.CX X.prog X.w) ((X.blk s H scope (compEnvC scope cl C X.env) fp).tr [] xe) ρ E) → PE ((X.blk s H scope (compEnvC scope cl C X.env) fp).tr [] xe) elt te)
    (hfd : ∀ x, foldedSetIterable iter X.env x = pure x := by intro _; rfl) : PS X (.Assign [.Name y py] (.ListComp elt [⟨tg, iter, [], 0⟩] scope pos) spos) (tAsg (tLc wi g tYes te (own.map (·.2))) (gName i)) := by
  refine ⟨fun pins s σ H D I h => ?_⟩
  rw [exec_Assign_Name_used _ _ _ _ hsw]
  refine wpAny_bind (wpAny_standAt (wpAny_bind ?_))
  have h : tLc wi g tYes te (own.map (·.2)) σ H (fun x H1 => gName i x σ H1 D.nx) := h
  refine wpAny_bind (thn (lcX_core (u0 := assign (.Name y py) X.env) (Qf := fun _ t => SP X pins D .next t) hs hfr tk hc hN I hi ok hg he hfd h fun L ce t m G I' q hn f => ?_) fun _ t hq => wpAny_pure (wpAny_pure hq))
  refine wpAny_assign_Name (store_ok2 (v := V.ref L) I' hN hy (.inl hyl) rfl (fun t2 I2 h2 => ?_) (.inr hyl))
  obtain ⟨a, sb, ha⟩ := h2
  obtain ⟨f0, f1, f2, f3, f4, f5⟩ := f
  have ne : ce.locals ≠ a := ha.elim (fun z => by rw [z]; exact f1) fun z => fun e => f4 y a z e.symm
  exact ⟨m, hn.sameBut sb ne, fun h3 sb3 => ⟨_, G, I2.turned (t' := t2.toks) (fun b o hb e => (sb3.2 b hb).trans e) f0 f1 f3 f4 f5, q⟩⟩
end
end Dx

namespace Dx
open PySem PySem.Spec PyProof.Rows L2
/-! ## texts as lists of signs -/
abbrev tx (cs : List Nat) : Str := ⟨cs.toArray⟩
theorem tx_len (cs : List Nat) : (tx cs).length = cs.length := List.size_toArray ..
theorem tx_inj {xs ys : List Nat} : tx xs = tx ys ↔ xs = ys :=
  ⟨fun h => by have h2 := congrArg (fun z : Str => z.cps.toList) h; simpa using h2, fun h => by rw [h]⟩
theorem tx_cat (xs ys : List Nat) : tx xs ++ tx ys = tx (xs ++ ys) := by
  show (⟨xs.toArray ++ ys.toArray⟩ : Str) = ⟨(xs ++ ys).toArray⟩
  rw [List.append_toArray]
theorem cutS_tx (cs : List Nat) (lo hi : Option Int) : cutS (tx cs) lo hi = tx (cutG cs lo hi) := by
  unfold cutS cutG
  rw [tx_len]
theorem join_tx (cs : List Nat) : Txt.join "" (cs.map fun c => (⟨#[c]⟩ : Str)) = tx cs := by
  show Builtin.Str.glued (Str.ofString "") _ = _
  rw [StrLaws.glued_eq_join, show Str.ofString "" = (⟨#[]⟩ : Str) by decide +kernel]
  exact PyProof.Rows.join_ones cs
def mapO {α β : Type} (h : α → Option β) : List α → Option (List β)
  | [] => some []
  | x :: r => match h x with
    | none => none
    | some y => (mapO h r).map (y :: ·)
theorem mapO_snoc {α β : Type} {h : α → Option β} {x : α} : ∀ {xs : List α} {ys : List β}, mapO h xs = some ys → mapO h (xs ++ [x]) = (h x).map fun y => ys ++ [y]
  | [], ys, e => by
    cases e
    show (match h x with | none => none | some y => (mapO h []).map (y :: ·)) = _
    cases h x <;> rfl
  | z :: xs, ys, e => by
    unfold mapO at e
    rw [List.cons_append]
    unfold mapO
    cases hz : h z with
    | none => rw [hz] at e; cases e
    | some w =>
      rw [hz] at e
      dsimp only at e ⊢
      cases hx : mapO h xs with
      | none => rw [hx] at e; cases e
      | some vs =>
        rw [hx] at e
        cases e
        rw [mapO_snoc hx]
        cases h x <;> rfl
theorem mapO_none {α β : Type} {h : α → Option β} : ∀ {xs : List α} {x : α}, x ∈ xs → h x = none → mapO h xs = none
  | z :: xs, x, m, e => by
    unfold mapO
    rcases List.mem_cons.mp m with rfl | m
    · rw [e]
    · cases h z with
      | none => rfl
      | some w => dsimp only; rw [mapO_none m e]; rfl
theorem mapO_len {α β : Type} {h : α → Option β} : ∀ {xs : List α} {ys : List β}, mapO h xs = some ys → ys.length = xs.length
  | [], ys, e => by cases e; rfl
  | z :: xs, ys, e => by
    unfold mapO at e
    cases hz : h z with
    | none => rw [hz] at e; cases e
    | some w =>
      rw [hz] at e
      dsimp only at e
      cases hx : mapO h xs with
      | none => rw [hx] at e; cases e
      | some vs => rw [hx] at e; cases e; rw [List.length_cons, List.length_cons, mapO_len hx]
/-- a value or a refusal -/
def optV {β : Type} (f : β → D) (c0 : Value) : Option β → Ov
  | some y => .ret (.val (f y))
  | none => .exc c0
def optN {β : Type} (f : β → D) (c0 : Value) : Option (List β) → Ov
  | some ys => .ret (.new (ys.map f))
  | none => .exc c0
section
variable {K : PySem.W.Frag} {S : List Sl} {te ta tb : TE} {E : XK} {x y : Str} {N : List Sl → Prop} {R : Rv → Prop} {t : TS}
/-! ## a comprehension whose element may raise c0 -/
theorem xo_lcG {α β : Type} {e : α → D} {f : β → D} {h : α → Option β} {c0 : Value} {xs : List α} {wi : TI} {j : Nat} (hit : ItD K wi S (xs.map e)) (hw : S[j]? = some .no) (hz : xs.length < sizeLine)
    (hs : ∀ z, z ∈ xs → EvXO K E te (S.set j (.sh (e z))) (optV f c0 (h z))) :
    EvXO K E (tLc wi (gName j) tYes te [j]) S (optN f c0 (mapO h xs)) := fun O H0 H P σ r Q qr qx => hit O H0 H P σ r _ fun J H1 e1 w l hn => by
  obtain ⟨w1, w2, w3⟩ := w
  have r1 := r.ext e1
  have hw' : ∀ v, v ∈ [j] → S[v]? = some .no := fun v m => by rw [List.mem_singleton.mp m]; exact hw
  rw [List.length_map] at w1 w2
  refine ⟨fun i m H' => m = xs.length - i ∧ i ≤ xs.length ∧ Same H1 H' ∧ ∃ acc ys, H' l = some (.lst acc) ∧ mapO h (xs.take i) = some ys ∧ RpAll K (fro H' (l :: O) P) acc (ys.map f), ⟨xs.length, rfl, Nat.zero_le _, same_new hn, [], [], upd_same, rfl, .nil⟩, ?_⟩
  rintro i m H' ⟨rfl, hi, s1, acc, ys, ha, hy, ra⟩
  by_cases hlt : i < xs.length
  · refine .inr ⟨w1 i H' (fro_le.trans s1) hlt, fun H2 => i + 1 ≤ xs.length ∧ Same H1 H2 ∧ ∃ acc ys, H2 l = some (.lst acc) ∧ mapO h (xs.take (i + 1)) = some ys ∧ RpAll K (fro H2 (l :: O) P) acc (ys.map f), fun H2 q => ⟨xs.length - (i + 1), by omega, rfl, q⟩, fun x H2 y => ?_⟩
    have hxi : xs[i]? = some xs[i] := List.getElem?_eq_getElem hlt
    obtain ⟨e2, rx⟩ := w3 i H' x H2 (e xs[i]) (fro_le.trans s1) (by rw [List.getElem?_map, hxi]; rfl) y
    have hl' : H' l ≠ none := by rw [ha]; simp
    have R1 := (r1.side s1 hn hl').wiped [j] hw'
    have R2 := R1.ext e2
    have g0 : Same (fro H1 O P) (fro H' (l :: O) P) := hid_le s1 fun a m => by
      rcases List.mem_append.mp m with z | z
      · exact (List.mem_cons.mp z).elim (fun z => .inr (by rw [z]; exact hn)) fun z => .inl (List.mem_append_left _ z)
      · exact .inl (List.mem_append_right _ z)
    have tg : TgD K (gName j) [j] (e xs[i]) S (S.set j (.sh (e xs[i]))) := tg_name (set_some hw)
    refine tg _ _ H2 P _ x R2 (rx.mono (jn_le g0 e2 (call_core R1))) _ fun P3 σ3 r3 g3 k3 l3 f3 => ⟨wipe_eq2 k3 l3 fun _ z => z, ?_⟩
    refine hs _ (List.getElem_mem hlt) _ _ H2 P3 σ3 r3 _ (fun rr v H3 ho e3 hr => ?_) fun c H3 ho e3 => ?_
    · cases hz2 : h xs[i] with
      | none => rw [hz2] at ho; cases ho
      | some u =>
        rw [hz2] at ho
        cases ho
        have rv : Rp K (fro H3 (l :: O) P3) v (f u) := hr
        refine ⟨acc, e3 _ _ (e2 _ _ ha), ?_, hlt, ?_, acc ++ [v], ys ++ [u], upd_same, ?_, ?_⟩
        · have z1 := ra.length
          have z2 := mapO_len hy
          rw [List.length_map] at z1
          rw [List.length_take] at z2
          omega
        · intro a o z
          by_cases hal : a = l
          · subst hal; rw [hn] at z; cases z
          · rw [upd_ne hal]
            exact e3 _ _ (e2 _ _ (s1 _ _ z))
        · rw [List.take_succ, hxi]
          show mapO h (xs.take i ++ [xs[i]]) = _
          rw [mapO_snoc hy, hz2]
          rfl
        · have eq : fro (upd H3 l (.lst (acc ++ [v]))) (l :: O) P = fro H3 (l :: O) P := by
            funext a
            unfold fro hidL
            by_cases hal : a = l
            · subst hal; simp
            · rw [upd_ne hal]
          rw [eq, List.map_append]
          refine (ra.mono (fro_same (e2.trans e3))).append (.cons (rv.mono (hid_le (fun _ _ z => z) fun a m => ?_)) .nil)
          rcases List.mem_append.mp m with z | z
          · exact .inl (List.mem_append_left _ z)
          · obtain ⟨m', hm', ha'⟩ := List.mem_flatten.mp z
            obtain ⟨k, hk'⟩ := List.mem_iff_getElem?.mp hm'
            by_cases hjs : k ∈ [j]
            · have z3 : P[k]? = some [] := R2.at_ k .no (hw' k hjs)
              rw [hk'] at z3
              cases z3
              cases ha'
            · exact .inl (List.mem_append_right _ (mem_flat ((f3 k hjs).trans hk') ha'))
    · cases hz2 : h xs[i] with
      | some u => rw [hz2] at ho; cases ho
      | none =>
        rw [hz2] at ho
        cases ho
        exact qx c0 H3 (by rw [mapO_none (List.getElem_mem hlt) hz2]; rfl) (((e1.trans s1).trans e2).trans e3)
  · have ei : i = xs.length := by omega
    subst ei
    rw [List.take_length] at hy
    refine .inl ⟨w2 _ H' (fro_le.trans s1) (Nat.le_refl _), qr (.new (ys.map f)) (.ref l) H' (by rw [hy]; rfl) (e1.trans s1) ⟨l, acc, rfl, e1.free hn, ha, ra.mono (hid_le (fun _ _ z => z) fun a m => .inl ?_)⟩⟩
    rcases List.mem_append.mp m with z | z
    · exact List.mem_append_left _ (List.mem_cons_of_mem _ z)
    · rw [List.flatten_cons] at z
      rcases List.mem_append.mp z with z | z
      · rw [List.mem_singleton.mp z]; exact List.mem_append_left _ List.mem_cons_self
      · exact List.mem_append_right _ z
/-! ## texts walked -/
abbrev sgD (c : Nat) : D := .str ⟨#[c]⟩
theorem it_str {cs : List Nat} (h : EvD K te S (.str (tx cs))) : ItD K (iStr te) S (cs.map sgD) := fun O H0 H P σ r Z q => h O H0 H P σ r _ fun v H1 e1 r1 => by
  cases r1
  refine ⟨_, rfl, q _ H1 e1 ⟨fun i G g hi => ?_, fun i G g hi => ?_, fun i G v G' d g hd y => ?_⟩⟩
  · rw [List.length_map] at hi
    show i < (tx cs).cps.size
    rw [List.size_toArray]; exact hi
  · rw [List.length_map] at hi
    show (tx cs).cps.size ≤ i
    rw [List.size_toArray]; exact hi
  · obtain ⟨e, c, hc, rfl⟩ := y
    rw [List.getElem?_map] at hd
    have hc : cs[i]? = some c := by simpa using hc
    rw [hc] at hd
    cases hd
    exact ⟨by rw [e]; exact Same.refl _, .str _⟩
theorem it_revS {cs : List Nat} (h : EvD K te S (.str (tx cs))) (hl : cs.length ≤ sizeLine) : ItD K (iRevS te) S (cs.reverse.map sgD) := fun O H0 H P σ r Z q => h O H0 H P σ r _ fun v H1 e1 r1 => by
  cases r1
  refine ⟨_, rfl, by rw [tx_len]; exact hl, q _ H1 e1 ⟨fun i G g hi => ?_, fun i G g hi => ?_, fun i G v G' d g hd y => ?_⟩⟩
  · rw [List.length_map, List.length_reverse] at hi
    show i < (tx cs).length
    rw [tx_len]; exact hi
  · rw [List.length_map, List.length_reverse] at hi
    show (tx cs).length ≤ i
    rw [tx_len]; exact hi
  · obtain ⟨e, c, hc, rfl⟩ := y
    have hi := (List.getElem?_eq_some_iff.mp hd).1
    rw [List.length_map, List.length_reverse] at hi
    rw [List.getElem?_map, List.getElem?_reverse hi] at hd
    rw [tx_len] at hc
    have hc : cs[cs.length - 1 - i]? = some c := by simpa using hc
    rw [hc] at hd
    cases hd
    exact ⟨by rw [e]; exact Same.refl _, .str _⟩
/-! ## texts in expressions -/
theorem evd_slT {cs : List Nat} {tl th : TO} {lo hi : Option Int} (h : EvF K te S (.str (tx cs))) (hl : EvO K tl S lo) (hh : EvO K th S hi) (hz : cs.length ≤ sizeLine) : EvD K (tSl rSlS te tl th) S (.str (tx (cutG cs lo hi))) := fun O H0 H P σ r Q q =>
  h O H0 H P σ r _ fun v H1 e1 r1 => by
    cases r1
    exact hl O H0 H1 P σ (r.ext e1) _ fun H2 e2 => hh O H0 H2 P σ (r.ext (e1.trans e2)) _ fun H3 e3 => ⟨_, rfl, by rw [tx_len]; exact hz, by rw [cutS_tx]; exact q _ H3 ((e1.trans e2).trans e3) (.str _)⟩
theorem evd_addT {xs ys : List Nat} (ha : EvF K ta S (.str (tx xs))) (hb : EvF K tb S (.str (tx ys))) (h : xs.length + ys.length ≤ sizeLine) : EvD K (tOp (fun x y H Q => ∃ i j, x = .str i ∧ y = .str j ∧ i.length + j.length ≤ sizeLine ∧ Q (.str (i ++ j)) H) ta tb) S (.str (tx (xs ++ ys))) := by
  rw [← tx_cat]
  exact evd_addS ha hb (by rw [tx_len, tx_len]; exact h)
theorem evd_eqT {xs ys : List Nat} (ha : EvF K ta S (.str (tx xs))) (hb : EvF K tb S (.str (tx ys))) : EvD K (tOp rEq ta tb) S (.bl (decide (xs = ys))) := by
  have h := evd_eqS ha hb
  rwa [show decide (tx xs = tx ys) = decide (xs = ys) from decide_eq_decide.mpr tx_inj] at h
theorem inV_strs {v : Str} : ∀ {ns : List Str}, inV (.str v) (ns.map V.str) = ns.any fun m => m == v
  | [] => rfl
  | n :: ns => by
    have ih := inV_strs (v := v) (ns := ns)
    unfold inV at *
    rw [List.map_cons, List.any_cons, List.any_cons, ih]
    rfl
theorem flat_strs : ∀ {ns : List Str}, (ns.map V.str).all flatV = true
  | [] => rfl
  | n :: ns => by rw [List.map_cons, List.all_cons, flat_strs]; rfl
theorem evd_notInS {v : Str} {ns : List Str} {tu : TA} (ha : EvF K te S (.str v)) (hb : EvA K tu S (ns.map D.str)) (hl : ns.length ≤ sizeLine) : EvD K (tOp (rIn K true) te (tTup tu)) S (.bl (!ns.any fun m => m == v)) := fun O H0 H P σ r Q q =>
  ha O H0 H P σ r _ fun x H1 e1 r1 => hb O H0 H1 P σ (r.ext e1) _ fun vs H2 e2 r2 => by
    cases r1
    have ev := r2.of_strs
    subst ev
    refine ⟨by rw [List.length_map]; exact hl, fun p hp => ⟨p, _, rfl, .inr (.of upd_same), rfl, flat_strs, ?_⟩⟩
    show Q (.bl (!inV (.str v) (ns.map V.str))) _
    rw [inV_strs]
    exact q _ _ ((e1.trans e2).trans (same_new hp)) (.bl _)
theorem evd_intS {n : Int} (h : EvF K te S (.str x)) (hn : PySem.intText? x = some n) (hl : x.length ≤ 640) : EvD K (tCB (fun xs H Q => ∃ a n, xs = [.str a] ∧ PySem.intText? a = some n ∧ a.length ≤ 640 ∧ Q (.int n) H) (tCons te tNil)) S (.int n) := fun O H0 H P σ r Q q =>
  h O H0 H P σ r _ fun v H1 e1 r1 => by
    cases r1
    exact ⟨x, n, rfl, hn, hl, q _ H1 e1 (.int _)⟩
theorem evd_findS (ha : EvF K ta S (.str x)) (hb : EvF K tb S (.str y)) : EvD K (tM1 (fun x xs H Q => ∃ a b, x = .str a ∧ xs = [.str b] ∧ Q (.int (Txt.find a b)) H) ta tb) S (.int (Txt.find x y)) := fun O H0 H P σ r Q q =>
  ha O H0 H P σ r _ fun v H1 e1 r1 => by
    cases r1
    refine ⟨⟨_, rfl⟩, hb O H0 H1 P σ (r.ext e1) _ fun w H2 e2 r2 => ?_⟩
    cases r2
    exact ⟨x, y, rfl, rfl, q _ H2 (e1.trans e2) (.int _)⟩
theorem find_no {x : Str} {c : Nat} (h : c ∉ x.cps.toList) : Txt.find x ⟨#[c]⟩ = -1 := by
  have z := StrLaws.found_one x c
  rw [decide_eq_false h] at z
  unfold Txt.find
  cases q : Builtin.Str.occurrences x ⟨#[c]⟩ 0 x.length 1 with
  | nil => rfl
  | cons a r => rw [q] at z; cases z
/-! ## try .. except X: without a name -/
theorem sem_tryOnly {tb : WX → TS} {ts : Addr → Value → Option Addr → TS} {c : Value} {Wout : WX} {X : Value → List Sl → Prop} (hb : SmT K tb N R X S) (hx : ∀ cls S', X cls S' → PySem.W.exmOne K cls c = some true ∧ ∀ a, Sm K (ts a cls none) N R S') :
    Sm K (fun D σ H => tb (wOnly K c ts Wout D) D σ H) N R S := fun O H0 H P σ r De kn kr =>
  hb O H0 H P σ r De _ kn kr fun cls H' P' σ' S' r' g hX => by
    obtain ⟨he, hs⟩ := hx cls S' hX
    exact ⟨true, he, fun _ a ha => hs a O H0 H' _ _ r' _ (fun H3 P3 σ3 S3 r3 g3 n3 => kn H3 P3 σ3 S3 r3 (g.trans g3) n3) kr, fun z => nomatch z⟩
end
end Dx

namespace Dx
open PySem PySem.Spec PyProof.Rows L2
/-! ## text[::-1] -/
theorem range_pick {α : Type} : ∀ l : List α, (List.range l.length).filterMap (fun k => l[k]?) = l
  | [] => rfl
  | a :: l => by
    rw [List.length_cons, List.range_succ_eq_map, List.filterMap_cons, List.filterMap_map]
    show a :: (List.range l.length).filterMap ((fun k => (a :: l)[k]?) ∘ Nat.succ) = a :: l
    rw [show ((fun k => (a :: l)[k]?) ∘ Nat.succ) = fun k => l[k]? from funext fun k => List.getElem?_cons_succ, range_pick l]
theorem fm_congr {α β : Type} {f g : α → Option β} : ∀ {l : List α}, (∀ x, x ∈ l → f x = g x) → l.filterMap f = l.filterMap g
  | [], _ => rfl
  | x :: l, h => by
    rw [List.filterMap_cons, List.filterMap_cons, h x List.mem_cons_self, fm_congr fun y m => h y (List.mem_cons_of_mem _ m)]
theorem back_pick {α : Type} (l : List α) : ((List.range l.length).map fun (k : Nat) => l.length - 1 - k).filterMap (fun k => l[k]?) = l.reverse := by
  have h := range_pick l.reverse
  rw [List.length_reverse] at h
  refine Eq.trans ?_ h
  rw [List.filterMap_map]
  refine fm_congr fun k m => ?_
  show l[l.length - 1 - k]? = _
  rw [List.getElem?_reverse (List.mem_range.mp m)]
theorem back_ix (n : Nat) : Builtin.Str.strSliceIndices none none (-1) n = (List.range n).map fun (k : Nat) => n - 1 - k := by
  unfold Builtin.Str.strSliceIndices sliceRange
  simp only [show ¬ ((-1 : Int) > 0) by decide, if_false]
  by_cases hn : (n : Int) - 1 > -1
  · rw [if_pos hn, show (((n : Int) - 1 - -1 - -1 - 1) / -(-1 : Int)).toNat = n by rw [show -(-1 : Int) = 1 by decide, Int.ediv_one]; omega]
    exact List.map_congr_left fun k m => by omega
  · have e : n = 0 := by omega
    subst e
    rfl
def tRevT (te : TE) : TE := fun σ H Q => te σ H fun x H1 => ∃ z : Str, x = .str z ∧ z.length ≤ sizeLine ∧ Q (.str (tx z.cps.toList.reverse)) H1
theorem pe_revS {X : Cx} {e : Expr} {te : TE} {k : Nat} {p1 p2 p3 pos : Pos} (he : PE X e te) : PE X (.Subscript e (.Slice none none (some (.UnaryOp .USub (.Constant (.int 1) k p1) p2)) p3) pos) (tRevT te) := by
  refine ⟨fun pins s σ H Q I h => ?_⟩
  refine Subscript_ (thn (he.run pins s σ H _ I h) fun v s1 h1 => ?_)
  obtain ⟨x, H1, I1, r1, z, rfl, hz, q⟩ := h1
  obtain ⟨t, rfl⟩ := r1
  have hst : PO X (some (.UnaryOp .USub (.Constant (.int 1) k p1) p2)) (tPart (tUn (rU fun i => .int (-i)) (tC (.int 1)))) := po_some (pe_un un_neg pe_int)
  refine wpAny_Slice (thn (po_none.run pins s1 σ H1 (fun o G => o = none ∧ G = H1) I1 ⟨rfl, rfl⟩) fun vl s2 h2 => ?_)
  obtain ⟨l, G2, I2, pl, rfl, rfl⟩ := h2
  refine thn (po_none.run pins s2 σ G2 (fun o G => o = none ∧ G = G2) I2 ⟨rfl, rfl⟩) fun vu s3 h3 => ?_
  obtain ⟨u, G3, I3, pu, rfl, rfl⟩ := h3
  refine thn (hst.run pins s3 σ G3 (fun o G => o = some (-1) ∧ G = G3) I3 ⟨1, rfl, -1, rfl, rfl, rfl⟩) fun vs s4 h4 => ?_
  obtain ⟨o, G4, I4, ps, rfl, rfl⟩ := h4
  have I5 : Inv X pins σ G4 { s4 with heap := s4.heap.push { cls := .type "slice", data := .fields #[vl, vu, vs] } } := I4.kept (t' := s4.toks) fun b ob q => Heap.get?_push_of_some _ q
  show wpAny (model X.prog X.w) X.A (subscriptTail e (.Slice none none (some (.UnaryOp .USub (.Constant (.int 1) k p1) p2)) p3) (.str z t) (.ref s4.heap.objs.size)) _ _ _
  refine PyProof.Rows.tail_any (ops := [.ref s4.heap.objs.size]) (typeIs_str _ z t) F.slot_str_getitem.lookup ?_ (by with_unfolding_all rfl)
  obtain ⟨l', rfl, el⟩ := IsPart.raw pl
  obtain ⟨u', rfl, eu⟩ := IsPart.raw pu
  obtain ⟨w', rfl, ew⟩ := IsPart.raw ps
  refine wpAny_getItem_str_slice (l := l') (u := u') (st := w') ⟨_, Heap.get?_push_size _ rfl, rfl, rfl⟩ (by rw [ew]; rfl) ?_
  have e : sliceMade z t l' u' w' = Made.str (tx z.cps.toList.reverse) := by
    unfold sliceMade slicePicked
    rw [el, eu, ew]
    show (if ((-1 : Int) == 1 && _) = true then _ else _) = _
    rw [if_neg (by simp)]
    show Made.str ⟨((Builtin.Str.strSliceIndices none none (-1) z.length).filterMap (z.cps[·]?)).toArray⟩ = _
    rw [back_ix]
    have hb := back_pick z.cps.toList
    rw [Array.length_toList] at hb
    have e2 : (fun k => z.cps[k]?) = fun k => z.cps.toList[k]? := funext fun k => (Array.getElem?_toList).symm
    rw [e2]
    exact congrArg (fun w : List Nat => Made.str ⟨w.toArray⟩) hb
  rw [e]
  exact ⟨by rw [tx_len, List.length_reverse]; exact hz, .str _, G4, I5.tok _, ⟨_, rfl⟩, q⟩
theorem evd_revT {K : PySem.W.Frag} {S : List Sl} {te : TE} {cs : List Nat} (h : EvF K te S (.str (tx cs))) (hz : cs.length ≤ sizeLine) : EvD K (tRevT te) S (.str (tx cs.reverse)) := fun O H0 H P σ r Q q =>
  h O H0 H P σ r _ fun v H1 e1 r1 => by
    cases r1
    exact ⟨_, rfl, by rw [tx_len]; exact hz, q _ H1 e1 (.str _)⟩
end Dx

namespace Kg
open PySem PySem.Spec PyProof.Rows L2 Dx
local macro_rules | `(tactic| walk_at "isEv") => `(tactic| first
  | with_reducible show EvF _ _ _ _
  | with_reducible show EvD _ _ _ _
  | with_reducible show EvL _ _ _ _
  | with_reducible show EvM _ _ _ _
  | with_reducible show EvN _ _ _ _
  | with_reducible show EvT _ _ _ _
  | with_reducible show EvA _ _ _ _
  | with_reducible show EvB _ _ _ _
  | with_reducible show EvO _ _ _ _
  | with_reducible show ItD _ _ _ _
  | with_reducible show TgD _ _ _ _ _ _)
local macro_rules | `(tactic| walk_at "hyp") => `(tactic| fail)
local macro_rules | `(tactic| walk_at "side") => `(tactic| first
  | ((with_reducible show _ ≤ sizeLine); simp only [List.length_map, List.length_append, List.length_singleton, List.length_replicate, List.length_cons, List.length_nil, sizeLine_eq]; done)
  | ((with_reducible show _ ≤ sizeLine); simp only [List.length_map, List.length_append, List.length_singleton, List.length_replicate, List.length_cons, List.length_nil, sizeLine_eq]; omega)
  | ((with_reducible show _ < sizeLine); simp only [List.length_map, List.length_append, List.length_singleton, List.length_replicate, List.length_cons, List.length_nil, sizeLine_eq]; done)
  | ((with_reducible show _ < sizeLine); simp only [List.length_map, List.length_append, List.length_singleton, List.length_replicate, List.length_cons, List.length_nil, sizeLine_eq]; omega)
  | assumption
  | with_reducible exact kit_ii
  | with_reducible exact kit_ib
  | with_reducible exact kit_bi
  | with_reducible exact kit_bb
  | with_reducible exact kit_ll
  | with_reducible exact kit_tt
  | with_reducible exact kit_ss
  | ((with_reducible show _ ∧ _); omega)
  | ((with_reducible show (_ : Int) ≤ _); omega)
  | ((with_reducible show (_ : Nat) ≤ _); omega)
  | ((with_reducible show (_ : Int) < _); omega)
  | ((with_reducible show (_ : Nat) < _); omega)
  | rfl
  | decide
  | omega
  | exact Or.inl (by decide)
  | exact Or.inr (by decide)
  | exact And.intro (by decide) (by decide)
  | exact List.length_pos_iff.mpr (by assumption)
  | (simp only [List.length_map, List.length_append, List.length_singleton, List.length_replicate, List.length_cons, List.length_nil, sizeLine_eq]; omega)
  | walk_at "hyp"
  | skip)
local macro_rules | `(tactic| walk_at "sub") => `(tactic| first
  | ((with_reducible show EvF _ _ _ _); walk_at "evf")
  | ((with_reducible show EvD _ _ _ _); walk_at "evd")
  | ((with_reducible show EvL _ _ _ _); walk_at "evl")
  | ((with_reducible show EvM _ _ _ _); walk_at "evm")
  | ((with_reducible show EvN _ _ _ _); walk_at "evn")
  | ((with_reducible show EvT _ _ _ _); walk_at "evt")
  | ((with_reducible show EvA _ _ _ _); walk_at "eva")
  | ((with_reducible show EvB _ _ _ _); walk_at "evb")
  | ((with_reducible show EvO _ _ _ _); walk_at "evo")
  | ((with_reducible show ItD _ _ _ _); walk_at "itd")
  | ((with_reducible show ((_ : Bool) = _) → _); intro hc; simp only [decide_eq_true_eq, decide_eq_false_iff_not, Bool.not_eq_true', Bool.not_eq_false', Bool.not_eq_true, Bool.not_eq_false, Bool.and_eq_true, Bool.or_eq_true, Bool.and_eq_false_iff, Bool.or_eq_false_iff, not_true_eq_false, not_false_eq_true, Bool.true_eq_false, Bool.false_eq_true, or_false, false_or, or_true, true_or, and_true, true_and, and_false, false_and, or_self, and_self, eq_self, ne_eq, Classical.not_not, not_and, not_or] at hc; walk_at "sub")
  | ((with_reducible show ((_ : Bool) = _) → _); intro hc; walk_at "sub")
  | ((fail_if_success walk_at "isEv"); walk_at "side"))
local macro_rules | `(tactic| walk_at "evf") => `(tactic| first
  | ((with_reducible apply evf_own); rfl)
  | ((with_reducible apply evf); walk_at "evd")
  | walk_at "callF")
local macro_rules | `(tactic| walk_at "evm") => `(tactic| first
  | ((with_reducible apply evm_own); rfl)
  | ((with_reducible apply evm_new); walk_at "evn")
  | ((with_reducible apply evm_d); walk_at "evd"))
local macro_rules | `(tactic| walk_at "evl") => `(tactic| first
  | ((with_reducible apply evl_m); (with_reducible apply evm_own); rfl)
  | ((with_reducible apply evl_scr); (with_reducible apply evf); (with_reducible apply evd_var); rfl)
  | ((with_reducible apply evl_m); (with_reducible apply evm_new); walk_at "evn")
  | ((with_reducible apply evl_m); (with_reducible apply evm_d); walk_at "evd"))
local macro_rules | `(tactic| walk_at "eva") => `(tactic| first
  | with_reducible exact ea_nil
  | ((with_reducible apply ea_cons) <;> walk_at "sub"))
local macro_rules | `(tactic| walk_at "evb") => `(tactic| first
  | with_reducible exact eb_nil
  | ((with_reducible apply eb_cons) <;> walk_at "sub"))
local macro_rules | `(tactic| walk_at "evo") => `(tactic| first
  | with_reducible exact eo_none
  | ((with_reducible apply eo_some) <;> walk_at "sub"))
local macro_rules | `(tactic| walk_at "evt") => `(tactic| first
  | ((with_reducible apply et_test) <;> walk_at "sub")
  | ((with_reducible apply et_B) <;> walk_at "sub")
  | ((with_reducible apply et_not) <;> walk_at "sub")
  | ((with_reducible apply et_and) <;> walk_at "sub")
  | ((with_reducible apply et_or) <;> walk_at "sub"))
local macro_rules | `(tactic| walk_at "callN") => `(tactic| fail)
local macro_rules | `(tactic| walk_at "callE") => `(tactic| fail)
local macro_rules | `(tactic| walk_at "callX") => `(tactic| fail)
local macro_rules | `(tactic| walk_at "callApp") => `(tactic| fail)
local macro_rules | `(tactic| walk_at "callD") => `(tactic| fail)
local macro_rules | `(tactic| walk_at "callF") => `(tactic| fail)
local macro_rules | `(tactic| walk_at "lsti") => `(tactic| first
  | with_reducible exact eai_nil
  | ((with_reducible apply eai_cons) <;> walk_at "lsti")
  | ((with_reducible show EvF _ _ _ _); walk_at "evf")
  | ((fail_if_success walk_at "isEv"); walk_at "side"))
local macro_rules | `(tactic| walk_at "evn") => `(tactic| first
  | ((with_reducible apply evn_lstI) <;> walk_at "lsti")
  | ((with_reducible apply evn_lst) <;> walk_at "sub")
  | ((with_reducible apply evn_catI1) <;> walk_at "sub")
  | ((with_reducible apply evn_catI) <;> walk_at "sub")
  | ((with_reducible apply evn_cat) <;> walk_at "sub")
  | ((with_reducible apply evn_rep1) <;> walk_at "sub")
  | ((with_reducible apply evn_sliceI) <;> walk_at "sub")
  | ((with_reducible apply evn_slice) <;> walk_at "sub")
  | ((with_reducible apply evn_revI) <;> walk_at "sub")
  | ((with_reducible apply evn_rev) <;> walk_at "sub")
  | ((with_reducible apply evn_list) <;> walk_at "sub")
  | ((with_reducible apply evn_listT) <;> walk_at "sub")
  | walk_at "callN")
local macro_rules | `(tactic| walk_at "evd") => `(tactic| first
  | ((with_reducible apply evd_var); rfl)
  | with_reducible exact evd_cint
  | with_reducible exact evd_cbl
  | with_reducible exact evd_cstr
  | with_reducible exact evd_cnon
  | ((with_reducible apply evd_add) <;> walk_at "sub")
  | ((with_reducible apply evd_sub) <;> walk_at "sub")
  | ((with_reducible apply evd_mul) <;> walk_at "sub")
  | ((with_reducible apply evd_mod) <;> walk_at "sub")
  | ((with_reducible apply evd_div) <;> walk_at "sub")
  | ((with_reducible apply evd_lt) <;> walk_at "sub")
  | ((with_reducible apply evd_le) <;> walk_at "sub")
  | ((with_reducible apply evd_gt) <;> walk_at "sub")
  | ((with_reducible apply evd_ge) <;> walk_at "sub")
  | ((with_reducible apply evd_eqI) <;> walk_at "sub")
  | ((with_reducible apply evd_neI) <;> walk_at "sub")
  | ((with_reducible apply evd_eqB) <;> walk_at "sub")
  | ((with_reducible apply evd_neB) <;> walk_at "sub")
  | ((with_reducible apply evd_eqS) <;> walk_at "sub")
  | ((with_reducible apply evd_neS) <;> walk_at "sub")
  | ((with_reducible apply evd_eqLI) <;> walk_at "sub")
  | ((with_reducible apply evd_neLI) <;> walk_at "sub")
  | ((with_reducible apply evd_eqLN) <;> walk_at "sub")
  | ((with_reducible apply evd_neLN) <;> walk_at "sub")
  | ((with_reducible apply evd_inT) <;> walk_at "lsti")
  | walk_at "callE"
  | ((with_reducible apply evd_eqD) <;> walk_at "sub")
  | ((with_reducible apply evd_neD) <;> walk_at "sub")
  | ((with_reducible apply evd_isN) <;> walk_at "sub")
  | ((with_reducible apply evd_notB) <;> walk_at "sub")
  | ((with_reducible apply evd_and) <;> walk_at "sub")
  | ((with_reducible apply evd_or) <;> walk_at "sub")
  | ((with_reducible apply evd_not) <;> walk_at "sub")
  | ((with_reducible apply evd_ixI1) <;> walk_at "sub")
  | with_reducible exact evd_neg (evf evd_cint)
  | ((with_reducible apply evd_neg) <;> walk_at "sub")
  | ((with_reducible apply evd_ixI) <;> walk_at "sub")
  | ((with_reducible apply evd_ixLI) <;> walk_at "sub")
  | walk_at "callX"
  | ((with_reducible apply evd_ix) <;> walk_at "sub")
  | ((with_reducible apply evd_ixT) <;> walk_at "sub")
  | ((with_reducible apply evd_lenI) <;> walk_at "sub")
  | ((with_reducible apply evd_len) <;> walk_at "sub")
  | ((with_reducible apply evd_lenT) <;> walk_at "sub")
  | ((with_reducible apply evd_min2) <;> walk_at "sub")
  | ((with_reducible apply evd_abs) <;> walk_at "sub")
  | ((with_reducible apply evd_intB) <;> walk_at "sub")
  | ((with_reducible apply evd_isi) <;> walk_at "sub")
  | ((with_reducible apply evd_if) <;> walk_at "sub")
  | ((with_reducible apply evd_pow) <;> walk_at "sub")
  | ((with_reducible apply evd_mulW) <;> walk_at "sub")
  | ((with_reducible apply evd_tup) <;> walk_at "sub")
  | walk_at "callD"
  | ((with_reducible apply evd_new); walk_at "evn"))
local macro_rules | `(tactic| walk_at "itd") => `(tactic| first
  | ((with_reducible apply it_scr); (with_reducible apply evd_var); rfl)
  | ((with_reducible apply it_new) ; walk_at "evn")
  | ((with_reducible apply it_list) ; walk_at "evd")
  | ((with_reducible apply it_tup) ; walk_at "evd")
  | ((with_reducible apply it_rangeN) <;> walk_at "sub")
  | ((with_reducible apply it_range1) <;> walk_at "sub")
  | ((with_reducible apply it_range2) <;> walk_at "sub")
  | ((with_reducible apply it_rev) <;> walk_at "sub"))
local macro_rules | `(tactic| walk_at "nx") => `(tactic| first
  | ((with_reducible show Sm _ _ _ _ _); (try simp only [List.set_cons_zero, List.set_cons_succ]); walk_at "st")
  | (try simp only [List.set_cons_zero, List.set_cons_succ]))
local macro_rules | `(tactic| walk_at "fin") => `(tactic| first
  | exact ⟨⟨_, rfl⟩, trivial⟩
  | (refine ⟨⟨_, rfl⟩, ?_⟩; (try dsimp only); walk_at "side"))
local macro_rules | `(tactic| walk_at "st2") => `(tactic| first
  | ((with_reducible show Nat.blt _ _ = true); rfl)
  | ((with_reducible show Nat.beq _ _ = false); rfl)
  | ((with_reducible show _ = some (Sl.ow _)); rfl)
  | ((fail_if_success walk_at "isEv"); (fail_if_success (with_reducible show _ = some (Sl.ow _))); (try dsimp only); first | (with_reducible show Sm _ _ _ _ _); walk_at "nx" | ((try simp only [List.set_cons_zero, List.set_cons_succ]); first | with_reducible rfl | walk_at "fin" | walk_at "side"))
  | (walk_at "isEv"; walk_at "sub"))
local macro_rules | `(tactic| walk_at "clean") => `(tactic| fail)
local macro_rules | `(tactic| walk_at "br") => `(tactic| (intro hc; first
  | (simp only [decide_eq_true_eq, decide_eq_false_iff_not, Bool.not_eq_true', Bool.not_eq_false', Bool.not_eq_true, Bool.not_eq_false, Bool.and_eq_true, Bool.or_eq_true, Bool.and_eq_false_iff, Bool.or_eq_false_iff, not_true_eq_false, not_false_eq_true, Bool.true_eq_false, Bool.false_eq_true, or_false, false_or, or_true, true_or, and_true, true_and, and_false, false_and, or_self, and_self, eq_self, ne_eq, Classical.not_not, not_and, not_or] at hc; done)
  | ((try simp only [decide_eq_true_eq, decide_eq_false_iff_not, Bool.not_eq_true', Bool.not_eq_false', Bool.not_eq_true, Bool.not_eq_false, Bool.and_eq_true, Bool.or_eq_true, Bool.and_eq_false_iff, Bool.or_eq_false_iff, not_true_eq_false, not_false_eq_true, Bool.true_eq_false, Bool.false_eq_true, or_false, false_or, or_true, true_or, and_true, true_and, and_false, false_and, or_self, and_self, eq_self, ne_eq, Classical.not_not, not_and, not_or] at hc); walk_at "st")))
local macro_rules | `(tactic| walk_at "bo") => `(tactic| first
  | ((with_reducible show ((_ : Bool) = _) → Sm _ _ _ _ _); walk_at "br")
  | walk_at "sub")
local macro_rules | `(tactic| walk_at "st") => `(tactic| first
  | ((with_reducible apply sem_seq); walk_at "st")
  | ((with_reducible apply sem_next); walk_at "st2")
  | ((with_reducible apply sem_if) <;> walk_at "bo")
  | ((with_reducible apply sem_retNon); (try dsimp only))
  | ((with_reducible apply sem_retO) <;> walk_at "st2")
  | ((with_reducible apply sem_retN) <;> walk_at "st2")
  | ((with_reducible apply sem_ret) <;> walk_at "st2")
  | ((with_reducible apply sem_asgN) <;> walk_at "st2")
  | ((with_reducible apply sem_asg) <;> walk_at "st2")
  | ((with_reducible apply sem_appI) <;> walk_at "st2")
  | ((with_reducible apply sem_appOwnI) <;> walk_at "st2")
  | ((with_reducible apply sem_appOwn) <;> walk_at "st2")
  | walk_at "callApp"
  | ((with_reducible apply sem_append) <;> walk_at "st2")
  | ((with_reducible apply sem_setI) <;> walk_at "st2")
  | ((with_reducible apply sem_popI) <;> walk_at "st2")
  | ((with_reducible apply sem_pop) <;> walk_at "st2")
  | ((with_reducible apply sem_clearI) <;> walk_at "st2")
  | ((with_reducible apply sem_clear) <;> walk_at "st2")
  | ((with_reducible apply sem_extI) <;> walk_at "st2")
  | ((with_reducible apply sem_extend) <;> walk_at "st2")
  | skip)
/- the same, stopping at an if too -/
local macro_rules | `(tactic| walk_at "linx") => `(tactic| first
  | ((with_reducible show Sm _ _ _ _ _); (try simp only [List.set_cons_zero, List.set_cons_succ]); walk_at "lin")
  | (try simp only [List.set_cons_zero, List.set_cons_succ]))
local macro_rules | `(tactic| walk_at "lin2") => `(tactic| first
  | ((with_reducible show Nat.blt _ _ = true); rfl)
  | ((with_reducible show Nat.beq _ _ = false); rfl)
  | ((with_reducible show _ = some (Sl.ow _)); rfl)
  | ((fail_if_success walk_at "isEv"); (fail_if_success (with_reducible show _ = some (Sl.ow _))); (try dsimp only); first | (with_reducible show Sm _ _ _ _ _); walk_at "linx" | ((try simp only [List.set_cons_zero, List.set_cons_succ]); first | with_reducible rfl | walk_at "fin" | walk_at "side"))
  | (walk_at "isEv"; walk_at "sub"))
local macro_rules | `(tactic| walk_at "lin") => `(tactic| first
  | ((with_reducible apply sem_seq); walk_at "lin")
  | ((with_reducible apply sem_next); walk_at "lin2")
  | ((with_reducible apply sem_retNon); (try dsimp only))
  | ((with_reducible apply sem_retO) <;> walk_at "lin2")
  | ((with_reducible apply sem_retN) <;> walk_at "lin2")
  | ((with_reducible apply sem_ret) <;> walk_at "lin2")
  | ((with_reducible apply sem_asgN) <;> walk_at "lin2")
  | ((with_reducible apply sem_asg) <;> walk_at "lin2")
  | ((with_reducible apply sem_appI) <;> walk_at "lin2")
  | ((with_reducible apply sem_appOwnI) <;> walk_at "lin2")
  | ((with_reducible apply sem_appOwn) <;> walk_at "lin2")
  | ((with_reducible apply sem_append) <;> walk_at "lin2")
  | ((with_reducible apply sem_setI) <;> walk_at "lin2")
  | ((with_reducible apply sem_popI) <;> walk_at "lin2")
  | ((with_reducible apply sem_pop) <;> walk_at "lin2")
  | ((with_reducible apply sem_clearI) <;> walk_at "lin2")
  | ((with_reducible apply sem_clear) <;> walk_at "lin2")
  | ((with_reducible apply sem_extI) <;> walk_at "lin2")
  | ((with_reducible apply sem_extend) <;> walk_at "lin2")
  | skip)
local macro_rules | `(tactic| walk_at "init") => `(tactic| ((try dsimp only [cxOf]); simp only [List.map_cons, List.map_nil, List.length_cons, List.length_nil, Nat.reduceAdd, Nat.reduceSub, Nat.zero_add, Nat.sub_self, List.reduceReplicate, List.replicate_zero, List.cons_append, List.nil_append, List.append_nil]))

local macro_rules | `(tactic| walk_at "callE") => `(tactic| ((with_reducible apply evd_subB) <;> walk_at "sub"))
local macro_rules | `(tactic| walk_at "itd") => `(tactic| ((with_reducible apply it_enum) <;> walk_at "sub"))
local macro_rules | `(tactic| walk_at "st") => `(tactic| ((with_reducible apply sem_never); first | contradiction | (simp_all; done) | skip))
local macro_rules | `(tactic| walk_at "lin") => `(tactic| ((with_reducible apply sem_never); first | contradiction | (simp_all; done) | skip))

local macro_rules | `(tactic| walk_at "isEv") => `(tactic| with_reducible show EvC _ _ _ _)
local macro_rules | `(tactic| walk_at "evc") => `(tactic| first
  | with_reducible exact ec_nil
  | ((with_reducible apply ec_own); rfl; walk_at "sub")
  | ((with_reducible apply ec_d) <;> walk_at "sub"))
local macro_rules | `(tactic| walk_at "sub") => `(tactic| ((with_reducible show EvC _ _ _ _); walk_at "evc"))
local macro_rules | `(tactic| walk_at "callE") => `(tactic| ((with_reducible apply ev_chain) <;> walk_at "sub"))
local macro_rules | `(tactic| walk_at "itd") => `(tactic| ((with_reducible apply it_rangeDn) <;> walk_at "sub"))
local macro_rules | `(tactic| walk_at "callApp") => `(tactic| ((with_reducible apply sem_appTri) <;> walk_at "st2"))

local macro_rules | `(tactic| walk_at "lstL") => `(tactic| first
  | with_reducible exact eaL_nil
  | ((with_reducible apply eaL_cons) <;> walk_at "lstL")
  | ((with_reducible show EvD _ _ _ _); walk_at "evd")
  | ((fail_if_success walk_at "isEv"); walk_at "side"))
local macro_rules | `(tactic| walk_at "callN") => `(tactic| ((with_reducible apply evn_lstL) <;> walk_at "lstL"))

def topS (i : Nat) : Stmt := PySem.Challenge.pw_calmcount_k07_written_and_read.main.body.getD i (.Pass ⟨0, 0, 0, 0⟩)
abbrev s_is_calm : Stmt := topS 7
theorem sc_is_calm : FnScope ["row", "two", "less", "figure"] ["row"] (defScope s_is_calm) := ⟨rfl, rfl, rfl, by decide +kernel, rfl, by decide +kernel, by decide +kernel⟩
abbrev s_sign_of : Stmt := topS 9
theorem sc_sign_of : FnScope ["figure"] ["figure"] (defScope s_sign_of) := ⟨rfl, rfl, rfl, by decide +kernel, rfl, by decide +kernel, by decide +kernel⟩
abbrev s_shown : Stmt := topS 10
theorem sc_shown : FnScope ["row", "figure"] ["row"] (defScope s_shown) := ⟨rfl, rfl, rfl, by decide +kernel, rfl, by decide +kernel, by decide +kernel⟩
abbrev s_figure_of : Stmt := topS 11
theorem sc_figure_of : FnScope ["sign"] ["sign"] (defScope s_figure_of) := ⟨rfl, rfl, rfl, by decide +kernel, rfl, by decide +kernel, by decide +kernel⟩
abbrev s_read : Stmt := topS 12
theorem sc_read : FnScope ["text", "row", "sign"] ["text"] (defScope s_read) := ⟨rfl, rfl, rfl, by decide +kernel, rfl, by decide +kernel, by decide +kernel⟩
abbrev s_l_cell_at : Stmt := topS 14
theorem sc_l_cell_at : FnScope ["_law_script", "_law_k"] ["_law_script", "_law_k"] (defScope s_l_cell_at) := ⟨rfl, rfl, rfl, by decide +kernel, rfl, by decide +kernel, by decide +kernel⟩
abbrev s_l_whole : Stmt := topS 15
theorem sc_l_whole : FnScope ["_law_found"] ["_law_found"] (defScope s_l_whole) := ⟨rfl, rfl, rfl, by decide +kernel, rfl, by decide +kernel, by decide +kernel⟩
abbrev s_l_calm : Stmt := topS 16
theorem sc_l_calm : FnScope ["_law_row_here", "_law_twos", "_law_lows", "_law_figure"] ["_law_row_here"] (defScope s_l_calm) := ⟨rfl, rfl, rfl, by decide +kernel, rfl, by decide +kernel, by decide +kernel⟩
abbrev s_l_made_calm : Stmt := topS 17
theorem sc_l_made_calm : FnScope ["_law_figures", "_law_row_here", "_law_two", "_law_low", "_law_figure"] ["_law_figures"] (defScope s_l_made_calm) := ⟨rfl, rfl, rfl, by decide +kernel, rfl, by decide +kernel, by decide +kernel⟩
abbrev s_l_row : Stmt := topS 18
theorem sc_l_row : FnScope ["_law_script", "_law_first", "_law_some", "_law_figures", "_law_second", "_law_at", "_law_cell"] ["_law_script"] (defScope s_l_row) := ⟨rfl, rfl, rfl, by decide +kernel, rfl, by decide +kernel, by decide +kernel⟩
abbrev s_l_text : Stmt := topS 19
theorem sc_l_text : FnScope ["_law_row_here", "_law_figure"] ["_law_row_here"] (defScope s_l_text) := ⟨rfl, rfl, rfl, by decide +kernel, rfl, by decide +kernel, by decide +kernel⟩
abbrev s_l_due : Stmt := topS 20
theorem sc_l_due : FnScope ["_law_line", "_law_row_here", "_law_sign", "_law_figure"] ["_law_line"] (defScope s_l_due) := ⟨rfl, rfl, rfl, by decide +kernel, rfl, by decide +kernel, by decide +kernel⟩
abbrev s_l_sign_by : Stmt := topS 21
theorem sc_l_sign_by : FnScope ["_law_cell", "_law_some"] ["_law_cell"] (defScope s_l_sign_by) := ⟨rfl, rfl, rfl, by decide +kernel, rfl, by decide +kernel, by decide +kernel⟩
abbrev s_l_spoiled : Stmt := topS 22
theorem sc_l_spoiled : FnScope ["_law_line", "_law_way", "_law_sign", "_law_cell", "_law_at", "_law_after", "_law_some"] ["_law_line", "_law_way", "_law_sign", "_law_cell"] (defScope s_l_spoiled) := ⟨rfl, rfl, rfl, by decide +kernel, rfl, by decide +kernel, by decide +kernel⟩
abbrev s_l_is_row : Stmt := topS 23
theorem sc_l_is_row : FnScope ["_law_found", "_law_due_here", "_law_figure"] ["_law_found", "_law_due_here"] (defScope s_l_is_row) := ⟨rfl, rfl, rfl, by decide +kernel, rfl, by decide +kernel, by decide +kernel⟩
abbrev s_l_refused : Stmt := topS 24
theorem sc_l_refused : FnScope ["_law_line", "_law_refused_here", "_law_told", "e"] ["_law_line"] (defScope s_l_refused) := ⟨rfl, rfl, rfl, by decide +kernel, rfl, by decide +kernel, by decide +kernel⟩
abbrev s_law : Stmt := topS 25
theorem sc_law : FnScope ["_law_script", "_law_row_here", "_law_line", "_law_handed", "_law_found", "_law_third", "_law_sign", "_law_due_here", "_law_again"] ["_law_script"] (defScope s_law) := ⟨rfl, rfl, rfl, by decide +kernel, rfl, by decide +kernel, by decide +kernel⟩
structure Ad where
  is_calm : Addr
  sign_of : Addr
  shown : Addr
  figure_of : Addr
  read : Addr
  l_cell_at : Addr
  l_whole : Addr
  l_calm : Addr
  l_made_calm : Addr
  l_row : Addr
  l_text : Addr
  l_due : Addr
  l_sign_by : Addr
  l_spoiled : Addr
  l_is_row : Addr
  l_refused : Addr
  law : Addr
  C_CountError : Addr
  C_NotCalm : Addr
  C_NoPlace : Addr
  C_NothingDone : Addr
  C_NoText : Addr
structure Fd where
  is_calm : FuncData
  sign_of : FuncData
  shown : FuncData
  figure_of : FuncData
  read : FuncData
  l_cell_at : FuncData
  l_whole : FuncData
  l_calm : FuncData
  l_made_calm : FuncData
  l_row : FuncData
  l_text : FuncData
  l_due : FuncData
  l_sign_by : FuncData
  l_spoiled : FuncData
  l_is_row : FuncData
  l_refused : FuncData
  law : FuncData
structure Tx (K : PySem.W.Frag) (mg : Str → Option Value) (A : Ad) (F : Fd) : Prop where
  F_is_calm : Fun K "is_calm" "is_calm" s_is_calm A.is_calm F.is_calm
  b_is_calm : Binds K F.is_calm ["row"] []
  g_is_calm : mg "is_calm" = some (.ref A.is_calm)
  F_sign_of : Fun K "sign_of" "sign_of" s_sign_of A.sign_of F.sign_of
  b_sign_of : Binds K F.sign_of ["figure"] []
  g_sign_of : mg "sign_of" = some (.ref A.sign_of)
  F_shown : Fun K "shown" "shown" s_shown A.shown F.shown
  b_shown : Binds K F.shown ["row"] []
  g_shown : mg "shown" = some (.ref A.shown)
  F_figure_of : Fun K "figure_of" "figure_of" s_figure_of A.figure_of F.figure_of
  b_figure_of : Binds K F.figure_of ["sign"] []
  g_figure_of : mg "figure_of" = some (.ref A.figure_of)
  F_read : Fun K "read" "read" s_read A.read F.read
  b_read : Binds K F.read ["text"] []
  g_read : mg "read" = some (.ref A.read)
  F_l_cell_at : Fun K "_law_cell_at" "_law_cell_at" s_l_cell_at A.l_cell_at F.l_cell_at
  b_l_cell_at : Binds K F.l_cell_at ["_law_script", "_law_k"] []
  g_l_cell_at : mg "_law_cell_at" = some (.ref A.l_cell_at)
  F_l_whole : Fun K "_law_whole" "_law_whole" s_l_whole A.l_whole F.l_whole
  b_l_whole : Binds K F.l_whole ["_law_found"] []
  g_l_whole : mg "_law_whole" = some (.ref A.l_whole)
  F_l_calm : Fun K "_law_calm" "_law_calm" s_l_calm A.l_calm F.l_calm
  b_l_calm : Binds K F.l_calm ["_law_row_here"] []
  g_l_calm : mg "_law_calm" = some (.ref A.l_calm)
  F_l_made_calm : Fun K "_law_made_calm" "_law_made_calm" s_l_made_calm A.l_made_calm F.l_made_calm
  b_l_made_calm : Binds K F.l_made_calm ["_law_figures"] []
  g_l_made_calm : mg "_law_made_calm" = some (.ref A.l_made_calm)
  F_l_row : Fun K "_law_row" "_law_row" s_l_row A.l_row F.l_row
  b_l_row : Binds K F.l_row ["_law_script"] []
  g_l_row : mg "_law_row" = some (.ref A.l_row)
  F_l_text : Fun K "_law_text" "_law_text" s_l_text A.l_text F.l_text
  b_l_text : Binds K F.l_text ["_law_row_here"] []
  g_l_text : mg "_law_text" = some (.ref A.l_text)
  F_l_due : Fun K "_law_due" "_law_due" s_l_due A.l_due F.l_due
  b_l_due : Binds K F.l_due ["_law_line"] []
  g_l_due : mg "_law_due" = some (.ref A.l_due)
  F_l_sign_by : Fun K "_law_sign_by" "_law_sign_by" s_l_sign_by A.l_sign_by F.l_sign_by
  b_l_sign_by : Binds K F.l_sign_by ["_law_cell"] []
  g_l_sign_by : mg "_law_sign_by" = some (.ref A.l_sign_by)
  F_l_spoiled : Fun K "_law_spoiled" "_law_spoiled" s_l_spoiled A.l_spoiled F.l_spoiled
  b_l_spoiled : Binds K F.l_spoiled ["_law_line", "_law_way", "_law_sign", "_law_cell"] []
  g_l_spoiled : mg "_law_spoiled" = some (.ref A.l_spoiled)
  F_l_is_row : Fun K "_law_is_row" "_law_is_row" s_l_is_row A.l_is_row F.l_is_row
  b_l_is_row : Binds K F.l_is_row ["_law_found", "_law_due_here"] []
  g_l_is_row : mg "_law_is_row" = some (.ref A.l_is_row)
  F_l_refused : Fun K "_law_refused" "_law_refused" s_l_refused A.l_refused F.l_refused
  b_l_refused : Binds K F.l_refused ["_law_line"] []
  g_l_refused : mg "_law_refused" = some (.ref A.l_refused)
  F_law : Fun K "law" "law" s_law A.law F.law
  b_law : Binds K F.law ["_law_script"] []
  g_law : mg "law" = some (.ref A.law)
  g_CountError : mg "CountError" = some (.ref A.C_CountError)
  g_NotCalm : mg "NotCalm" = some (.ref A.C_NotCalm)
  g_NoPlace : mg "NoPlace" = some (.ref A.C_NoPlace)
  g_NothingDone : mg "NothingDone" = some (.ref A.C_NothingDone)
  g_NoText : mg "NoText" = some (.ref A.C_NoText)
  xc_NotCalm : PySem.W.excIn K A.C_NotCalm [.type "ValueError", .type "Exception", .type "BaseException", .type "object"] "ValueError.__new__" = true
  kc_NotCalm : PySem.W.keepIn K (.ref A.C_NotCalm) = true
  sx_NotCalm : PySem.W.subIn K (.ref A.C_NotCalm) (.type "BaseException") = some true
  tx_NotCalm : PySem.W.typeIn K (.ref A.C_NotCalm) = some (.type "type")
  ga_NotCalm : PySem.W.findIn K (.ref A.C_NotCalm) "__getattribute__" = some (some (.builtin "BaseException.__getattribute__"))
  gt_NotCalm : PySem.W.findIn K (.ref A.C_NotCalm) "__getattr__" = some none
  hx_NotCalm : PySem.W.hasDictIn K A.C_NotCalm = true
  cx_NotCalm : PySem.W.findIn K (.ref A.C_NotCalm) "__class__" = some (some (.builtin "object.__class__"))
  mx_NotCalm : PySem.W.mroIn K A.C_NotCalm (.type "object") = some true
  su_NotCalm_CountError : PySem.W.subIn K (.ref A.C_NotCalm) (.ref A.C_CountError) = some true
  su_NotCalm_NoText : PySem.W.subIn K (.ref A.C_NotCalm) (.ref A.C_NoText) = some false
  ne_NotCalm_NoText : A.C_NotCalm ≠ A.C_NoText
  su_NotCalm_NothingDone : PySem.W.subIn K (.ref A.C_NotCalm) (.ref A.C_NothingDone) = some false
  ne_NotCalm_NothingDone : A.C_NotCalm ≠ A.C_NothingDone
  su_NotCalm_NoPlace : PySem.W.subIn K (.ref A.C_NotCalm) (.ref A.C_NoPlace) = some false
  ne_NotCalm_NoPlace : A.C_NotCalm ≠ A.C_NoPlace
  su_NotCalm_ValueError : PySem.W.subIn K (.ref A.C_NotCalm) (.type "ValueError") = some true
  xc_NoText : PySem.W.excIn K A.C_NoText [.type "ValueError", .type "Exception", .type "BaseException", .type "object"] "ValueError.__new__" = true
  kc_NoText : PySem.W.keepIn K (.ref A.C_NoText) = true
  sx_NoText : PySem.W.subIn K (.ref A.C_NoText) (.type "BaseException") = some true
  tx_NoText : PySem.W.typeIn K (.ref A.C_NoText) = some (.type "type")
  ga_NoText : PySem.W.findIn K (.ref A.C_NoText) "__getattribute__" = some (some (.builtin "BaseException.__getattribute__"))
  gt_NoText : PySem.W.findIn K (.ref A.C_NoText) "__getattr__" = some none
  hx_NoText : PySem.W.hasDictIn K A.C_NoText = true
  cx_NoText : PySem.W.findIn K (.ref A.C_NoText) "__class__" = some (some (.builtin "object.__class__"))
  mx_NoText : PySem.W.mroIn K A.C_NoText (.type "object") = some true
  su_NoText_CountError : PySem.W.subIn K (.ref A.C_NoText) (.ref A.C_CountError) = some true
  su_NoText_NoText : PySem.W.subIn K (.ref A.C_NoText) (.ref A.C_NoText) = some true
  su_NoText_NothingDone : PySem.W.subIn K (.ref A.C_NoText) (.ref A.C_NothingDone) = some false
  ne_NoText_NothingDone : A.C_NoText ≠ A.C_NothingDone
  su_NoText_NotCalm : PySem.W.subIn K (.ref A.C_NoText) (.ref A.C_NotCalm) = some false
  ne_NoText_NotCalm : A.C_NoText ≠ A.C_NotCalm
  su_NoText_NoPlace : PySem.W.subIn K (.ref A.C_NoText) (.ref A.C_NoPlace) = some false
  ne_NoText_NoPlace : A.C_NoText ≠ A.C_NoPlace
  su_NoText_ValueError : PySem.W.subIn K (.ref A.C_NoText) (.type "ValueError") = some true
  hc_CountError : PySem.W.hasDictIn K A.C_CountError = true
  ty_CountError : PySem.W.typeIn K (.ref A.C_CountError) = some (.type "type")
  hc_NoText : PySem.W.hasDictIn K A.C_NoText = true
  ty_NoText : PySem.W.typeIn K (.ref A.C_NoText) = some (.type "type")
  hc_NothingDone : PySem.W.hasDictIn K A.C_NothingDone = true
  ty_NothingDone : PySem.W.typeIn K (.ref A.C_NothingDone) = some (.type "type")
  hc_NotCalm : PySem.W.hasDictIn K A.C_NotCalm = true
  ty_NotCalm : PySem.W.typeIn K (.ref A.C_NotCalm) = some (.type "type")
  hc_NoPlace : PySem.W.hasDictIn K A.C_NoPlace = true
  ty_NoPlace : PySem.W.typeIn K (.ref A.C_NoPlace) = some (.type "type")
  bs_CountError : PySem.W.subIn K (.ref A.C_CountError) (.type "BaseException") = some true
  bs_NoText : PySem.W.subIn K (.ref A.C_NoText) (.type "BaseException") = some true
  sp_class : PySem.W.specialIn K (.builtin "object.__class__") "__get__" = some (some (.builtin "getset_descriptor.__get__"))
  tk_class : PySem.W.takesIn K (.builtin "object.__class__") = some true
  em_NotCalm_CountError : PySem.W.exmOne K (.ref A.C_NotCalm) (.ref A.C_CountError) = some true
  em_NotCalm_NoText : PySem.W.exmOne K (.ref A.C_NotCalm) (.ref A.C_NoText) = some false
  is_NotCalm_NothingDone : PySem.W.kitOne K (.ref A.C_NotCalm) (.ref A.C_NothingDone) = some false
  is_NotCalm_ValueError : PySem.W.kitOne K (.ref A.C_NotCalm) (.type "ValueError") = some true
  is_NotCalm_NotCalm : PySem.W.kitOne K (.ref A.C_NotCalm) (.ref A.C_NotCalm) = some true
  is_NotCalm_NoPlace : PySem.W.kitOne K (.ref A.C_NotCalm) (.ref A.C_NoPlace) = some false
  is_NotCalm_NoText : PySem.W.kitOne K (.ref A.C_NotCalm) (.ref A.C_NoText) = some false
  em_NoText_CountError : PySem.W.exmOne K (.ref A.C_NoText) (.ref A.C_CountError) = some true
  em_NoText_NoText : PySem.W.exmOne K (.ref A.C_NoText) (.ref A.C_NoText) = some true
  is_NoText_NothingDone : PySem.W.kitOne K (.ref A.C_NoText) (.ref A.C_NothingDone) = some false
  is_NoText_ValueError : PySem.W.kitOne K (.ref A.C_NoText) (.type "ValueError") = some true
  is_NoText_NotCalm : PySem.W.kitOne K (.ref A.C_NoText) (.ref A.C_NotCalm) = some false
  is_NoText_NoPlace : PySem.W.kitOne K (.ref A.C_NoText) (.ref A.C_NoPlace) = some false
  is_NoText_NoText : PySem.W.kitOne K (.ref A.C_NoText) (.ref A.C_NoText) = some true
  m_ValueError : mg "ValueError" = none
  m_str : mg "str" = none
  m_int : mg "int" = none
  m_list : mg "list" = none
  m_len : mg "len" = none
  m_isinstance : mg "isinstance" = none
  m_reversed : mg "reversed" = none
  m_bool : mg "bool" = none
def sp_is_calm (K : PySem.W.Frag) : Sp := PSp K (fun ns : List Int => [.lst (ns.map .int)]) (fun _ => True) (fun ns => .val (.bl (isCalm ns)))
theorem ok_is_calm {P : Program} {w : World} {K : PySem.W.Frag} {mg : Str → Option Value} {base : Heap} {A : Ad} {F : Fd} (T : Tx K mg A F) : FnOk P w K mg base CX0 1 A.is_calm F.is_calm ["row"] (sp_is_calm K) := by
  refine fn_pure T.F_is_calm sc_is_calm (fun _ => rfl) (by decide) fun cdv A0 outer s H E hr => ⟨_, (pss_cons (ps_set (i := 1) sc_is_calm.nd rfl (by first | exact Or.inl rfl | exact Or.inr rfl) pe_bl)
      (pss_cons (ps_set (i := 2) sc_is_calm.nd rfl (by first | exact Or.inl rfl | exact Or.inr rfl) pe_bl)
      (pss_cons (ps_for PassesOwn.never rfl (pi_list (pv 0)) (pg_name (i := 3) sc_is_calm.nd rfl (by first | exact Or.inl rfl | exact Or.inr rfl)) (pss_cons (ps_if (PW.pt (pw_or (pt_cmpR op_lt (pv 3) (pe_un un_neg pe_int) (nomark _)) (pw_or1 (pt_cmpR op_gt (pv 3) pe_int (nomark _))))) (pss_one (ps_ret pe_bl)) pss_nil)
      (pss_cons (ps_if (PW.pt (pw_or (PW.pt (pw_and (pt_cmpR op_eq (pv 3) pe_int (nomark _)) (pw_and1 (pt_val (pv 1))))) (pw_or1 (PW.pt (pw_and (pt_cmpR op_eq (pv 3) (pe_un un_neg pe_int) (nomark _)) (pw_and1 (pt_val (pv 2)))))))) (pss_one (ps_ret pe_bl)) pss_nil)
      (pss_cons (ps_set (i := 1) sc_is_calm.nd rfl (by first | exact Or.inl rfl | exact Or.inr rfl) (pe_or (pe_cmpR op_eq (pv 3) pe_int (nomark _)) (pe_one (pe_and (pe_cmpR op_eq (pv 3) pe_int (nomark _)) (pe_one (pv 1))))))
      (pss_one (ps_set (i := 2) sc_is_calm.nd rfl (by first | exact Or.inl rfl | exact Or.inr rfl) (pe_or (pe_cmpR op_eq (pv 3) (pe_un un_neg pe_int) (nomark _)) (pe_one (pe_and (pe_cmpR op_eq (pv 3) pe_int (nomark _)) (pe_one (pv 2)))))))))))
      (pss_one (ps_ret (pe_or (pe_cmpR (op_eqD hr.units) (pv 0) (pe_lst pa_nil) (nomark _)) (pe_one (pe_cmpR op_ne (pe_ix ix_list (pv 0) (pe_un un_neg pe_int) (fun _ _ => rfl)) pe_int (nomark _))))))))), fun a hp => ?_⟩
  walk_at "init"
  walk_at "st"
  refine sem_foldI (fun (b : Bool × Bool) f => (decide (f = 2) || (decide (f = 1) && b.1), decide (f = -1) || (decide (f = 0) && b.2))) (false, false) (fun b x => [.sh (.lst (a.map .int)), .sh (.bl b.1), .sh (.bl b.2), x])
    (fun i b => isCalm a = (calmGo (a.drop i) b.1 b.2 && (decide (a = []) || !decide (a.getD (a.length - 1) 0 = 0)))) (xs := a) (by walk_at "sub") .no rfl rfl (fun _ _ => Nat.le_of_ble_eq_true rfl) (fun _ _ _ => rfl) (fun i b f hf _ hI => ?_) (fun x hI => ?_)
  · rw [drop_cons hf, calmGo] at hI
    walk_at "st"
    · rename_i h
      rw [if_pos h] at hI
      rw [hI]
      rfl
    · rename_i h1 h
      rw [if_neg (by omega), if_pos h] at hI
      rw [hI]
      rfl
    · rename_i h1 h
      rw [if_neg (by omega), if_neg (fun z => by rcases z with ⟨z1, z2⟩ | ⟨z1, z2⟩ <;> simp [z1, z2] at h)] at hI
      exact hI
  · rw [List.drop_length, calmGo, Bool.true_and] at hI
    generalize List.foldl _ _ _ = b
    rw [hI]
    walk_at "st"
theorem c_is_calm {K : PySem.W.Frag} {S : List Sl} {ta : TE} {E : XK} {ns : List Int} (h : EvF K ta S (.lst (ns.map .int))) : EvD K (tCall (sp_is_calm K) [] E (tCons ta tNil)) S (.bl (isCalm ns)) :=
  sc_bl (evf_call ns (eb_cons h eb_nil) (fun _ => .nil) rfl trivial rfl)
local macro_rules | `(tactic| walk_at "callD") => `(tactic| ((with_reducible apply c_is_calm) <;> walk_at "sub"))

def sp_sign_of (K : PySem.W.Frag) : Sp := PSp K (fun i : Int => [.int i]) (fun i => -1 ≤ i ∧ i ≤ 2) (fun i => .val (.str (signS i)))
theorem ok_sign_of {P : Program} {w : World} {K : PySem.W.Frag} {mg : Str → Option Value} {base : Heap} {A : Ad} {F : Fd} (T : Tx K mg A F) : FnOk P w K mg base CX0 1 A.sign_of F.sign_of ["figure"] (sp_sign_of K) := by
  refine fn_pure T.F_sign_of sc_sign_of (fun _ => rfl) (by decide) fun cdv A0 outer s H E hr => ⟨_, (pss_cons (ps_if (pt_cmpR op_eq (pv 0) (pe_un un_neg pe_int) (nomark _)) (pss_one (ps_ret pe_str)) pss_nil)
      (pss_one (ps_ret (pe_callTy call_str_int (by rfl) T.m_str boot_str (pa_cons (pv 0) pa_nil))))), fun a hp => ?_⟩
  walk_at "init"
  refine sem_seq (sem_if (b := decide (a = -1)) (by walk_at "sub") (fun h => ?_) (fun h => sem_next ?_))
  · exact sem_ret evd_cstr (by rw [signS, if_pos (of_decide_eq_true h)])
  · refine sem_ret (evd_strI (evf (evd_var rfl)) ?_) (by rw [signS, if_neg (of_decide_eq_false h)])
    have h4 : a = -1 ∨ a = 0 ∨ a = 1 ∨ a = 2 := by omega
    rcases h4 with rfl | rfl | rfl | rfl <;> decide +kernel
theorem c_sign_of {K : PySem.W.Frag} {S : List Sl} {ta : TE} {E : XK} {i : Int} (h : EvF K ta S (.int i)) (hi : -1 ≤ i ∧ i ≤ 2) : EvD K (tCall (sp_sign_of K) [] E (tCons ta tNil)) S (.str (signS i)) :=
  sc_str (evf_call i (eb_cons h eb_nil) (fun _ => .nil) rfl hi rfl)
def calmO (A : Ad) (ns : List Int) (r : Rv) : Ov := if isCalm ns = true then .ret r else .exc (.ref A.C_NotCalm)
def sgc (f : Int) : Nat := if f = -1 then 45 else 48 + f.toNat
theorem sgc_one {f : Int} (h : -1 ≤ f ∧ f ≤ 2) : signS f = ⟨#[sgc f]⟩ := by
  have h4 : f = -1 ∨ f = 0 ∨ f = 1 ∨ f = 2 := by omega
  rcases h4 with rfl | rfl | rfl | rfl <;> decide +kernel
/-- the text of a row -/
def lineL (ns : List Int) : List Nat := if ns = [] then [48] else ns.reverse.map sgc
theorem lit0 : ("0" : Str) = tx [48] := by decide +kernel
theorem ones_map {ns : List Int} (h : ∀ f, f ∈ ns → -1 ≤ f ∧ f ≤ 2) : ns.map signS = (ns.map sgc).map fun c => (⟨#[c]⟩ : Str) := by
  rw [List.map_map]
  exact List.map_congr_left fun f m => sgc_one (h f m)
theorem ones_sum (cs : List Nat) : ((cs.map fun c => (⟨#[c]⟩ : Str)).map (·.length)).sum = cs.length := by
  induction cs with
  | nil => rfl
  | cons c cs ih =>
    rw [List.map_cons, List.map_cons, List.sum_cons, ih, List.length_cons]
    show 1 + _ = _
    omega
def sp_shown (K : PySem.W.Frag) (A : Ad) : Sp := PSpX K (fun ns : List Int => [.lst (ns.map .int)]) (fun ns => ns.length ≤ 10000) (fun ns => calmO A ns (.val (.str (tx (lineL ns)))))
theorem ok_shown {P : Program} {w : World} {K : PySem.W.Frag} {mg : Str → Option Value} {base : Heap} {A : Ad} {F : Fd} (T : Tx K mg A F) : FnOk P w K mg base (L2.CX P w) 2 A.shown F.shown ["row"] (sp_shown K A) := by
  refine fn_pureX T.F_shown sc_shown (fun _ => rfl) (by decide) fun cdv A0 outer s H E hr => ⟨_, (pss_cons (ps_if (pt_not (pt_val (pe_call (ok_is_calm T) (hr.mono (by decide)) (by rfl) T.g_is_calm T.F_is_calm.kp T.b_is_calm .nil pass0 (pa_cons (pv 0) pa_nil)))) (pss_one (ps_raise rfl (takes_of rfl rfl rfl rfl) (pmk_own PySem.F.excBase_ValueError T.xc_NotCalm T.g_NotCalm T.kc_NotCalm (raises_own T.sx_NotCalm T.tx_NotCalm) (by exact rfl)))) pss_nil)
      (PSs.nox (pss_cons (ps_if (pt_cmpR (op_eqD hr.units) (pv 0) (pe_lst pa_nil) (nomark _)) (pss_one (ps_ret pe_str)) pss_nil)
      (pss_one (ps_ret (pe_join pe_str (pe_lc (own := [("figure", 1)]) (g := (gName 1)) (tt := tYes) (by rfl) sc_shown.nd (pi_reversed (by rfl) T.m_reversed (pa_cons (pv 0) pa_nil)) (blkOk_by (own := [("figure", 1)]) (N := ["row", "figure"]) (sc := defScope s_shown) (by decide +kernel)) (fun _ _ _ _ _ => (pg_name (i := 1) sc_shown.nd rfl (by first | exact Or.inl rfl | exact Or.inr rfl))) (fun _ _ _ _ _ => pts_nil) (fun _ _ _ _ _ => (pe_call (ok_sign_of T) (hr.mono (by decide)) (by rfl) T.g_sign_of T.F_sign_of.kp T.b_sign_of .nil pass0 (pa_cons (pv 1) pa_nil)))))))))), fun a hp => ?_⟩
  walk_at "init"
  refine smg_seqIf (b := !isCalm a) (et_not (et_B (evf (c_is_calm (evf (evd_var rfl)))))) (fun hb => smg_raise (if_neg (by simpa using hb))) (fun hb => smg_next (smg_pure ?_))
  have hc : isCalm a = true := by simpa using hb
  have hO : calmO A a (.val (.str (tx (lineL a)))) = .ret (.val (.str (tx (lineL a)))) := if_pos hc
  rw [hO]
  have hf := calm_fig hc
  refine sem_imp (N := fun _ => False) (R := fun r => r = .val (.str (tx (lineL a)))) ?_ (fun _ z => z) (fun r h => by rw [h])
  refine sem_seq (sem_if (b := decide (a = [])) (by walk_at "sub") (fun h => ?_) (fun h => sem_next ?_))
  · exact sem_ret evd_cstr (by rw [lineL, if_pos (of_decide_eq_true h), lit0])
  · have he : lineL a = (a.reverse).map sgc := by rw [lineL, if_neg (of_decide_eq_false h)]
    have hj : Txt.join "" (a.reverse.map signS) = tx (lineL a) := by
      rw [he, ones_map fun f m => hf f (List.mem_reverse.mp m), join_tx]
    rw [← hj]
    refine sem_ret (evd_join (evf evd_cstr) (evf (evd_new (evn_lcG (g := D.int) (f := D.str) signS (xs := a.reverse) (by rw [List.map_reverse]; exact it_rev (ea_cons (evd_var rfl) ea_nil)) rfl (by rw [List.length_reverse, sizeLine_eq]; omega) fun x m => ?_))) ?_) rfl
    · simp only [List.set_cons_zero, List.set_cons_succ]
      exact c_sign_of (evf (evd_var rfl)) (hf x (List.mem_reverse.mp m))
    · rw [sum_ones fun f m => hf f (List.mem_reverse.mp m), List.length_reverse]
      show a.length + _ * 0 ≤ _
      omega
/-- the figure that a sign writes -/
def figO (c : Nat) : Option Int := if c = 45 then some (-1) else if c = 48 then some 0 else if c = 49 then some 1 else if c = 50 then some 2 else none
theorem sg_iff {c k : Nat} : ((⟨#[c]⟩ : Str) = ⟨#[k]⟩) ↔ c = k := ⟨fun h => by have h2 := congrArg (fun z : Str => z.cps.toList) h; simpa using h2, fun h => by rw [h]⟩
theorem fig_sgc {f : Int} (h : -1 ≤ f ∧ f ≤ 2) : figO (sgc f) = some f := by
  have h4 : f = -1 ∨ f = 0 ∨ f = 1 ∨ f = 2 := by omega
  rcases h4 with rfl | rfl | rfl | rfl <;> decide +kernel
theorem three (c : Nat) : ((["0", "1", "2"] : List Str).any fun m => m == (⟨#[c]⟩ : Str)) = decide (c = 48 ∨ c = 49 ∨ c = 50) := by
  have l0 : ("0" : Str) = ⟨#[48]⟩ := by decide +kernel
  have l1 : ("1" : Str) = ⟨#[49]⟩ := by decide +kernel
  have l2 : ("2" : Str) = ⟨#[50]⟩ := by decide +kernel
  rw [Bool.eq_iff_iff, decide_eq_true_eq]
  simp only [List.any_cons, List.any_nil, Bool.or_eq_true, beq_iff_eq, Bool.false_eq_true, or_false, l0, l1, l2, sg_iff]
  omega
def figV (A : Ad) (c : Nat) : Ov := optV D.int (.ref A.C_NoText) (figO c)
def sp_figure_of (K : PySem.W.Frag) (A : Ad) : Sp := PSpX K (fun c : Nat => [sgD c]) (fun _ => True) (figV A)
theorem ok_figure_of {P : Program} {w : World} {K : PySem.W.Frag} {mg : Str → Option Value} {base : Heap} {A : Ad} {F : Fd} (T : Tx K mg A F) : FnOk P w K mg base (L2.CX P w) 1 A.figure_of F.figure_of ["sign"] (sp_figure_of K A) := by
  refine fn_pureX T.F_figure_of sc_figure_of (fun _ => rfl) (by decide) fun cdv A0 outer s H E hr => ⟨_, (pss_cons (ps_if (pt_cmpR op_eq (pv 0) pe_str (nomark _)) (PSs.nox (pss_one (ps_ret (pe_un un_neg pe_int)))) pss_nil)
      (pss_cons (ps_if (pt_cmpR op_notIn_seq (pv 0) (pe_tup (pa_cons pe_str (pa_cons pe_str (pa_cons pe_str pa_nil)))) (by rfl)) (pss_one (ps_raise rfl (takes_of rfl rfl rfl rfl) (pmk_own PySem.F.excBase_ValueError T.xc_NoText T.g_NoText T.kc_NoText (raises_own T.sx_NoText T.tx_NoText) (by exact rfl)))) pss_nil)
      (PSs.nox (pss_one (ps_ret (pe_callTy call_int_str (by rfl) T.m_int boot_int (pa_cons (pv 0) pa_nil))))))), fun a hp => ?_⟩
  walk_at "init"
  have lm : ("-" : Str) = ⟨#[45]⟩ := by decide +kernel
  refine smg_seqIf (b := decide ((⟨#[a]⟩ : Str) = "-")) (by walk_at "sub") (fun h => ?_) (fun h => smg_next ?_)
  · have e : a = 45 := sg_iff.mp ((of_decide_eq_true h).trans lm)
    subst e
    exact smg_seqR (smg_ret (evd_neg (evf evd_cint)) rfl)
  have hne : a ≠ 45 := fun e => of_decide_eq_false h (by rw [e, lm])
  refine smg_seqIf (b := !((["0", "1", "2"] : List Str).any fun m => m == (⟨#[a]⟩ : Str))) (et_test (evf (evd_notInS (ns := ["0", "1", "2"]) (evf (evd_var rfl)) (ea_cons evd_cstr (ea_cons evd_cstr (ea_cons evd_cstr ea_nil))) (by show 3 ≤ sizeLine; rw [sizeLine_eq]; decide)))) (fun h2 => smg_raise ?_) (fun h2 => smg_next ?_)
  · rw [three] at h2
    have h3 : ¬(a = 48 ∨ a = 49 ∨ a = 50) := by simpa using h2
    unfold figV figO
    rw [if_neg hne, if_neg (by omega), if_neg (by omega), if_neg (by omega)]
    rfl
  · rw [three] at h2
    have h3 : a = 48 ∨ a = 49 ∨ a = 50 := Classical.byContradiction fun z => by rw [decide_eq_false z] at h2; cases h2
    rcases h3 with rfl | rfl | rfl
    · exact smg_ret (evd_intS (n := 0) (evf (evd_var rfl)) (by decide +kernel) (by decide)) rfl
    · exact smg_ret (evd_intS (n := 1) (evf (evd_var rfl)) (by decide +kernel) (by decide)) rfl
    · exact smg_ret (evd_intS (n := 2) (evf (evd_var rfl)) (by decide +kernel) (by decide)) rfl
/-- the row that a text writes -/
def readO (cs : List Nat) : Option (List Int) := if cs = [48] then some [] else match mapO figO cs.reverse with
  | none => none
  | some row => if row ≠ [] ∧ isCalm row = true then some row else none
def readV (A : Ad) (cs : List Nat) : Ov := optN D.int (.ref A.C_NoText) (readO cs)
def sp_read (K : PySem.W.Frag) (A : Ad) : Sp := PSpX K (fun cs : List Nat => [.str (tx cs)]) (fun cs => cs.length ≤ 10000) (readV A)
theorem ok_read {P : Program} {w : World} {K : PySem.W.Frag} {mg : Str → Option Value} {base : Heap} {A : Ad} {F : Fd} (T : Tx K mg A F) : FnOk P w K mg base (L2.CX P w) 2 A.read F.read ["text"] (sp_read K A) := by
  refine fn_pureX T.F_read sc_read (fun _ => rfl) (by decide) fun cdv A0 outer s H E hr => ⟨_, (pss_cons (ps_if (pt_cmpR op_eq (pv 0) pe_str (nomark _)) (pss_one (ps_ret (pe_lst pa_nil))) pss_nil)
      (pss_cons (ps_setLcX (i := 1) (own := [("sign", 2)]) (g := (gName 2)) rfl rfl (takes_of rfl rfl rfl rfl) rfl sc_read.nd rfl rfl (sw_true rfl rfl rfl (by decide +kernel)) (pi_revS (by rfl) T.m_reversed (pv 0)) (blkOk_by (own := [("sign", 2)]) (N := ["text", "row", "sign"]) (sc := defScope s_read) (by decide +kernel)) (fun _ _ _ _ _ _ => (pg_name (i := 2) sc_read.nd rfl (by first | exact Or.inl rfl | exact Or.inr rfl))) (fun _ _ _ _ _ _ air => (pe_callS (ok_figure_of T) (hr.mono (by decide)) (by rfl) T.g_figure_of T.F_figure_of.kp T.b_figure_of air (pa_cons (pv 2) pa_nil))))
      (pss_cons (ps_if (PW.pt (pw_or (pt_cmpR (op_eqD hr.units) (pv 1) (pe_lst pa_nil) (nomark _)) (pw_or1 (pt_not (pt_val (pe_call (ok_is_calm T) (hr.mono (by decide)) (by rfl) T.g_is_calm T.F_is_calm.kp T.b_is_calm .nil pass0 (pa_cons (pv 1) pa_nil))))))) (pss_one (ps_raise rfl (takes_of rfl rfl rfl rfl) (pmk_own PySem.F.excBase_ValueError T.xc_NoText T.g_NoText T.kc_NoText (raises_own T.sx_NoText T.tx_NoText) (by exact rfl)))) pss_nil)
      (pss_one (ps_ret (pv 1)))))), fun a hp => ?_⟩
  walk_at "init"
  have hp : a.length ≤ 10000 := hp
  have hx := xo_lcG (K := K) (E := E) (wi := iRevS (tVar 0)) (te := tCallS (sp_figure_of K A) (WE (Wof E)) (tCons (tVar 2) tNil)) (e := sgD) (f := D.int) (h := figO) (c0 := .ref A.C_NoText) (xs := a.reverse) (S := [.sh (.str (tx a)), .no, .no]) (j := 2) (it_revS (evd_var rfl) (by rw [sizeLine_eq]; omega)) rfl (by rw [List.length_reverse, sizeLine_eq]; omega) (fun c m => xo_call1 (A := fun c : Nat => [sgD c]) (f := figV A) c (ea_cons (evd_var (d := sgD c) rfl) ea_nil) trivial)
  refine smg_seqIf (b := decide (a = [48])) (et_test (evf (evd_eqT (ys := [48]) (evf (evd_var rfl)) (evf (by rw [← lit0]; exact evd_cstr))))) (fun h => ?_) (fun h => smg_next ?_)
  · have e : a = [48] := of_decide_eq_true h
    subst e
    exact smg_seqR (smg_retN (evn_lst ea_nil (by decide)) rfl)
  have hne : a ≠ [48] := of_decide_eq_false h
  have hO : readO a = match mapO figO a.reverse with | none => none | some row => if row ≠ [] ∧ isCalm row = true then some row else none := if_neg hne
  unfold readV
  rw [hO]
  clear hO
  cases hm : mapO figO a.reverse with
  | none =>
    rw [hm] at hx
    exact smg_asgX hx (Nat.le_of_ble_eq_true rfl) (fun rs z => nomatch z) (fun d z => nomatch z) (fun c z => z)
  | some row =>
    rw [hm] at hx
    refine smg_asgX hx (Nat.le_of_ble_eq_true rfl) (fun rs z => ?_) (fun d z => nomatch z) (fun c z => nomatch z)
    cases z
    simp only [List.set_cons_zero, List.set_cons_succ]
    refine smg_seqIf (b := decide (row = []) || !isCalm row) (by walk_at "sub") (fun h => smg_raise ?_) (fun h => smg_next (smg_pure (sem_retO (k := 1) rfl ?_)))
    · have hn : ¬(row ≠ [] ∧ isCalm row = true) := fun z => by simp [z.1, z.2] at h
      rw [if_neg hn]
      rfl
    · have hn : row ≠ [] ∧ isCalm row = true := by
        simp only [Bool.or_eq_false_iff, decide_eq_false_iff_not, Bool.not_eq_false'] at h
        exact h
      rw [if_pos hn]
      rfl

def sp_l_cell_at (K : PySem.W.Frag) : Sp := PSp K (fun p : List Int × Int => [.scr p.1, .int p.2]) (fun p => 0 ≤ p.2) (fun p => .val (.int (p.1.getD p.2.toNat 0)))
theorem ok_l_cell_at {P : Program} {w : World} {K : PySem.W.Frag} {mg : Str → Option Value} {base : Heap} {A : Ad} {F : Fd} (T : Tx K mg A F) : FnOk P w K mg base CX0 1 A.l_cell_at F.l_cell_at ["_law_script", "_law_k"] (sp_l_cell_at K) := by
  refine fn_pure T.F_l_cell_at sc_l_cell_at (fun _ => rfl) (by decide) fun cdv A0 outer s H E hr => ⟨_, (pss_cons (ps_if (pt_cmpR op_lt (pv 1) (pe_callB call_len_seq (by rfl) T.m_len PySem.boot_len (pa_cons (pv 0) pa_nil)) (nomark _)) (pss_one (ps_ret (pe_ix ix_list (pv 0) (pv 1) (fun _ _ => rfl)))) pss_nil)
      (pss_one (ps_ret pe_int))), fun a hp => ?_⟩
  obtain ⟨ns, k⟩ := a
  dsimp only at hp ⊢
  walk_at "init"
  walk_at "st"
  rw [List.getD_eq_getElem?_getD, List.getElem?_eq_none (by omega)]
  rfl
theorem c_l_cell_at {K : PySem.W.Frag} {S : List Sl} {ta tb : TE} {E : XK} {ns : List Int} {k : Int} (h : EvF K ta S (.scr ns)) (h2 : EvF K tb S (.int k)) (hk : 0 ≤ k) : EvD K (tCall (sp_l_cell_at K) [] E (tCons ta (tCons tb tNil))) S (.int (ns.getD k.toNat 0)) :=
  sc_int (evf_call (ns, k) (eb_cons h (eb_cons h2 eb_nil)) (fun _ => .nil) rfl hk rfl)
local macro_rules | `(tactic| walk_at "callD") => `(tactic| ((with_reducible apply c_l_cell_at) <;> walk_at "sub"))

def sp_l_whole (K : PySem.W.Frag) : Sp := PSp K (fun i : Int => [.int i]) (fun _ => True) (fun _ => .val (.bl true))
theorem ok_l_whole {P : Program} {w : World} {K : PySem.W.Frag} {mg : Str → Option Value} {base : Heap} {A : Ad} {F : Fd} (T : Tx K mg A F) : FnOk P w K mg base CX0 1 A.l_whole F.l_whole ["_law_found"] (sp_l_whole K) := by
  refine fn_pure T.F_l_whole sc_l_whole (fun _ => rfl) (by decide) fun cdv A0 outer s H E hr => ⟨_, (pss_one (ps_ret (pe_and (pe_callB call_isi (by rfl) T.m_isinstance boot_isinstance (pa_cons (pv 0) (pa_cons (pe_bltn (v := .ty "int") (by rfl) T.m_int boot_int rfl) pa_nil))) (pe_one (pe_not (pe_callB call_isi (by rfl) T.m_isinstance boot_isinstance (pa_cons (pv 0) (pa_cons (pe_bltn (v := .ty "bool") (by rfl) T.m_bool boot_bool rfl) pa_nil)))))))), fun a hp => ?_⟩
  walk_at "init"
  walk_at "st"
theorem c_l_whole {K : PySem.W.Frag} {S : List Sl} {ta : TE} {E : XK} {i : Int} (h : EvF K ta S (.int i)) : EvD K (tCall (sp_l_whole K) [] E (tCons ta tNil)) S (.bl true) :=
  sc_bl (evf_call i (eb_cons h eb_nil) (fun _ => .nil) rfl trivial rfl)
local macro_rules | `(tactic| walk_at "callD") => `(tactic| ((with_reducible apply c_l_whole) <;> walk_at "sub"))

def sp_l_calm (K : PySem.W.Frag) : Sp := PSp K (fun ns : List Int => [.lst (ns.map .int)]) (fun ns => True) (fun ns => .val (.bl (isCalm ns)))
theorem ok_l_calm {P : Program} {w : World} {K : PySem.W.Frag} {mg : Str → Option Value} {base : Heap} {A : Ad} {F : Fd} (T : Tx K mg A F) : FnOk P w K mg base CX0 1 A.l_calm F.l_calm ["_law_row_here"] (sp_l_calm K) := by
  refine fn_pure T.F_l_calm sc_l_calm (fun _ => rfl) (by decide) fun cdv A0 outer s H E hr => ⟨_, (pss_cons (ps_set (i := 1) sc_l_calm.nd rfl (by first | exact Or.inl rfl | exact Or.inr rfl) pe_int)
      (pss_cons (ps_set (i := 2) sc_l_calm.nd rfl (by first | exact Or.inl rfl | exact Or.inr rfl) pe_int)
      (pss_cons (ps_for PassesOwn.never rfl (pi_list (pv 0)) (pg_name (i := 3) sc_l_calm.nd rfl (by first | exact Or.inl rfl | exact Or.inr rfl)) (pss_cons (ps_if (PW.pt (pw_or (pt_cmpR op_lt (pv 3) (pe_un un_neg pe_int) (nomark _)) (pw_or1 (pt_cmpR op_gt (pv 3) pe_int (nomark _))))) (pss_one (ps_ret pe_bl)) pss_nil)
      (pss_cons (ps_if (pt_cmpR op_eq (pv 3) pe_int (nomark _)) (pss_one (ps_set (i := 1) sc_l_calm.nd rfl (by first | exact Or.inl rfl | exact Or.inr rfl) (pe_op op_add (pv 1) pe_int))) pss_nil)
      (pss_cons (ps_if (pt_cmpR op_lt (pv 3) pe_int (nomark _)) (pss_one (ps_set (i := 1) sc_l_calm.nd rfl (by first | exact Or.inl rfl | exact Or.inr rfl) pe_int)) pss_nil)
      (pss_cons (ps_if (pt_cmpR op_eq (pv 3) (pe_un un_neg pe_int) (nomark _)) (pss_one (ps_set (i := 2) sc_l_calm.nd rfl (by first | exact Or.inl rfl | exact Or.inr rfl) (pe_op op_add (pv 2) pe_int))) pss_nil)
      (pss_cons (ps_if (pt_cmpR op_gt (pv 3) pe_int (nomark _)) (pss_one (ps_set (i := 2) sc_l_calm.nd rfl (by first | exact Or.inl rfl | exact Or.inr rfl) pe_int)) pss_nil)
      (pss_one (ps_if (PW.pt (pw_or (pt_cmpR op_gt (pv 1) pe_int (nomark _)) (pw_or1 (pt_cmpR op_gt (pv 2) pe_int (nomark _))))) (pss_one (ps_ret pe_bl)) pss_nil))))))))
      (pss_one (ps_ret (pe_or (pe_cmpR (op_eqD hr.units) (pv 0) (pe_lst pa_nil) (nomark _)) (pe_one (pe_cmpR op_ne (pe_ix ix_list (pv 0) (pe_un un_neg pe_int) (fun _ _ => rfl)) pe_int (nomark _))))))))), fun a hp => ?_⟩
  walk_at "init"
  walk_at "st"
  refine sem_foldI (fun (b : Int × Int) f => (if f < 1 then 0 else if f = 2 then b.1 + 1 else b.1, if 0 < f then 0 else if f = -1 then b.2 + 1 else b.2)) (0, 0) (fun b x => [.sh (.lst (a.map .int)), .sh (.int b.1), .sh (.int b.2), x])
    (fun i b => (b.1 = 0 ∨ b.1 = 1) ∧ (b.2 = 0 ∨ b.2 = 1) ∧ isCalm a = (calmGo (a.drop i) (decide (b.1 = 1)) (decide (b.2 = 1)) && (decide (a = []) || !decide (a.getD (a.length - 1) 0 = 0)))) (xs := a) (by walk_at "sub") .no rfl ⟨.inl rfl, .inl rfl, rfl⟩ (fun _ _ => Nat.le_of_ble_eq_true rfl) (fun _ _ _ => rfl) (fun i b f hf _ hI => ?_) (fun x hI => ?_)
  · obtain ⟨t, l⟩ := b
    obtain ⟨ht, hl, hI⟩ := hI
    dsimp only at ht hl hI ⊢
    rw [drop_cons hf, calmGo] at hI
    simp only [decide_eq_true_eq] at hI
    walk_at "st"
    all_goals first
      | (exfalso; omega)
      | (rw [if_pos (by omega), Bool.false_and] at hI; rw [hI])
      | (rcases (by omega : f = -1 ∨ f = 0 ∨ f = 1 ∨ f = 2) with h | h | h | h <;> first
          | (exfalso; omega)
          | (subst h; rcases ht with ht | ht <;> rcases hl with hl | hl <;> first
              | (exfalso; omega)
              | (subst ht; subst hl; simp at hI ⊢; first | done | exact hI)))
  · obtain ⟨ht, hl, hI⟩ := hI
    rw [List.drop_length, calmGo, Bool.true_and] at hI
    generalize List.foldl _ _ _ = b
    rw [hI]
    walk_at "st"
theorem c_l_calm {K : PySem.W.Frag} {S : List Sl} {ta : TE} {E : XK} {ns : List Int} (h : EvF K ta S (.lst (ns.map .int))) : EvD K (tCall (sp_l_calm K) [] E (tCons ta tNil)) S (.bl (isCalm ns)) :=
  sc_bl (evf_call ns (eb_cons h eb_nil) (fun _ => .nil) rfl trivial rfl)
local macro_rules | `(tactic| walk_at "callD") => `(tactic| ((with_reducible apply c_l_calm) <;> walk_at "sub"))

/-- one figure made calm: the row, whether a 2, a -1 may stand -/
def mbFig (b : List Int × Bool × Bool) (f : Int) : Int :=
  if (if f = 2 ∧ b.2.1 = false then (1 : Int) else f) = -1 ∧ b.2.2 = false then 0 else (if f = 2 ∧ b.2.1 = false then (1 : Int) else f)
def mbPut (b : List Int × Bool × Bool) (v : Int) : List Int × Bool × Bool :=
  (b.1 ++ [v], !decide (v = 2) && (b.2.1 || decide (v < 1)), !decide (v = -1) && (b.2.2 || decide (0 < v)))
def mbStep (b : List Int × Bool × Bool) (f : Int) : List Int × Bool × Bool := mbPut b (mbFig b f)
def madeCalmB (ns : List Int) : List Int := trim (ns.foldl mbStep ([], true, true)).1
theorem mb_len : ∀ (ns : List Int) (b : List Int × Bool × Bool), (ns.foldl mbStep b).1.length = b.1.length + ns.length
  | [], b => rfl
  | n :: ns, b => by
    rw [List.foldl_cons, mb_len ns, List.length_cons]
    unfold mbStep mbPut
    simp
    omega
theorem madeCalmB_len (ns : List Int) : (madeCalmB ns).length ≤ ns.length := by
  have h := trim_len (ns.foldl mbStep ([], true, true)).1
  have h2 := mb_len ns ([], true, true)
  rw [List.length_nil] at h2
  unfold madeCalmB
  omega
theorem mb_step {b : List Int × Bool × Bool} {f : Int} (hf : -1 ≤ f ∧ f ≤ 2) (h : ∀ r, calmGo (b.1 ++ r) false false = calmGo r (!b.2.1) (!b.2.2)) (r : List Int) : calmGo ((mbStep b f).1 ++ r) false false = calmGo r (!(mbStep b f).2.1) (!(mbStep b f).2.2) := by
  obtain ⟨row, two, low⟩ := b
  have hf' : f = -1 ∨ f = 0 ∨ f = 1 ∨ f = 2 := by omega
  dsimp only at h
  rcases hf' with rfl | rfl | rfl | rfl <;> cases two <;> cases low <;> simp [mbStep, mbPut, mbFig, h, calmGo]
theorem mb_calm : ∀ (ns : List Int) (b : List Int × Bool × Bool), (∀ f, f ∈ ns → -1 ≤ f ∧ f ≤ 2) → (∀ r, calmGo (b.1 ++ r) false false = calmGo r (!b.2.1) (!b.2.2)) → calmGo (ns.foldl mbStep b).1 false false = true
  | [], b, _, h => by
    have := h []
    rw [List.append_nil] at this
    exact this
  | n :: ns, b, hf, h => by
    rw [List.foldl_cons]
    exact mb_calm ns _ (fun f m => hf f (List.mem_cons_of_mem _ m)) (mb_step (hf n List.mem_cons_self) h)
theorem madeCalmB_calm {ns : List Int} (hf : ∀ f, f ∈ ns → -1 ≤ f ∧ f ≤ 2) : isCalm (madeCalmB ns) = true :=
  trim_calm (mb_calm ns ([], true, true) hf fun _ => rfl)
def sp_l_made_calm (K : PySem.W.Frag) : Sp := PSp K (fun ns : List Int => [.lst (ns.map .int)]) (fun ns => ns.length ≤ 10000) (fun ns => .new ((madeCalmB ns).map .int))
theorem ok_l_made_calm {P : Program} {w : World} {K : PySem.W.Frag} {mg : Str → Option Value} {base : Heap} {A : Ad} {F : Fd} (T : Tx K mg A F) : FnOk P w K mg base CX0 1 A.l_made_calm F.l_made_calm ["_law_figures"] (sp_l_made_calm K) := by
  refine fn_pure T.F_l_made_calm sc_l_made_calm (fun _ => rfl) (by decide) fun cdv A0 outer s H E hr => ⟨_, (pss_cons (ps_set (i := 1) sc_l_made_calm.nd rfl (by first | exact Or.inl rfl | exact Or.inr rfl) (pe_lst pa_nil))
      (pss_cons (ps_set (i := 2) sc_l_made_calm.nd rfl (by first | exact Or.inl rfl | exact Or.inr rfl) pe_bl)
      (pss_cons (ps_set (i := 3) sc_l_made_calm.nd rfl (by first | exact Or.inl rfl | exact Or.inr rfl) pe_bl)
      (pss_cons (ps_for PassesOwn.never rfl (pi_list (pv 0)) (pg_name (i := 4) sc_l_made_calm.nd rfl (by first | exact Or.inl rfl | exact Or.inr rfl)) (pss_cons (ps_if (PW.pt (pw_and (pt_cmpR op_eq (pv 4) pe_int (nomark _)) (pw_and1 (pt_not (pt_val (pv 2)))))) (pss_one (ps_set (i := 4) sc_l_made_calm.nd rfl (by first | exact Or.inl rfl | exact Or.inr rfl) pe_int)) pss_nil)
      (pss_cons (ps_if (PW.pt (pw_and (pt_cmpR op_eq (pv 4) (pe_un un_neg pe_int) (nomark _)) (pw_and1 (pt_not (pt_val (pv 3)))))) (pss_one (ps_set (i := 4) sc_l_made_calm.nd rfl (by first | exact Or.inl rfl | exact Or.inr rfl) pe_int)) pss_nil)
      (pss_cons (ps_set (i := 2) sc_l_made_calm.nd rfl (by first | exact Or.inl rfl | exact Or.inr rfl) (pe_and (pe_cmpR op_ne (pv 4) pe_int (nomark _)) (pe_one (pe_or (pv 2) (pe_one (pe_cmpR op_lt (pv 4) pe_int (nomark _)))))))
      (pss_cons (ps_set (i := 3) sc_l_made_calm.nd rfl (by first | exact Or.inl rfl | exact Or.inr rfl) (pe_and (pe_cmpR op_ne (pv 4) (pe_un un_neg pe_int) (nomark _)) (pe_one (pe_or (pv 3) (pe_one (pe_cmpR op_gt (pv 4) pe_int (nomark _)))))))
      (pss_one (ps_expr (pe_bm PySem.F.plainAttrs_list PySem.F.slot_list_append PySem.F.type_list_append mt_append (pv 1) (pa_cons (pv 4) pa_nil)))))))))
      (pss_cons (ps_while PassesOwn.never (PW.pt (pw_and (pt_cmpR (op_neD hr.units) (pv 1) (pe_lst pa_nil) (nomark _)) (pw_and1 (pt_cmpR op_eq (pe_ix ix_list (pv 1) (pe_un un_neg pe_int) (fun _ _ => rfl)) pe_int (nomark _))))) (pss_one (ps_expr (pe_bm0 PySem.F.plainAttrs_list PySem.F.slot_list_pop PySem.F.type_list_pop mt_pop (pv 1)))))
      (pss_one (ps_ret (pv 1)))))))), fun a hp => ?_⟩
  walk_at "init"
  walk_at "st"
  refine sem_cut (fun S' => ∃ x2 x3 x4, S' = [.sh (.lst (a.map .int)), .ow ((a.foldl mbStep ([], true, true)).1.map .int), x2, x3, x4]) ?_ ?_
  · refine sem_foldI mbStep ([], true, true) (fun b x => [.sh (.lst (a.map .int)), .ow (b.1.map .int), .sh (.bl b.2.1), .sh (.bl b.2.2), x])
      (fun i b => b.1.length = i) (xs := a) (by walk_at "sub") .no rfl rfl (fun _ _ => Nat.le_of_ble_eq_true rfl) (fun _ _ _ => rfl) (fun i b f hf hb hI => ?_) (fun x hI => ?_)
    · have hi : i < a.length := (List.getElem?_eq_some_iff.mp hf).1
      obtain ⟨r, two, low⟩ := b
      dsimp only at hI ⊢
      clear hb
      refine sem_seq (sem_cut (fun S' => S' = [.sh (.lst (a.map .int)), .ow (r.map .int), .sh (.bl two), .sh (.bl low), .sh (.int (if f = 2 ∧ two = false then 1 else f))]) ?_ ?_)
      · walk_at "st"
        · rename_i h
          rw [if_pos h]
        · rename_i h
          rw [if_neg (fun z => by rcases h with h | h; exact h z.1; rw [h] at z; cases z.2)]
      · rintro S' rfl
        generalize hg : (if f = 2 ∧ two = false then (1 : Int) else f) = g
        refine sem_seq (sem_cut (fun S' => S' = [.sh (.lst (a.map .int)), .ow (r.map .int), .sh (.bl two), .sh (.bl low), .sh (.int (mbFig (r, two, low) f))]) ?_ ?_)
        · unfold mbFig
          dsimp only
          rw [hg]
          walk_at "st"
          · rename_i h
            rw [if_pos h]
          · rename_i h
            rw [if_neg (fun z => by rcases h with h | h; exact h z.1; rw [h] at z; cases z.2)]
        · rintro S' rfl
          rw [show mbStep (r, two, low) f = mbPut (r, two, low) (mbFig (r, two, low) f) from rfl]
          generalize mbFig (r, two, low) f = v
          unfold mbPut
          dsimp only
          walk_at "st"
          first | done | exact ⟨⟨_, rfl⟩, by simp [hI]⟩
    · exact ⟨_, _, _, rfl⟩
  · rintro S' ⟨x2, x3, x4, rfl⟩
    refine sem_seq (sem_trim 1 (fun r => [.sh (.lst (a.map .int)), .ow (r.map .int), x2, x3, x4]) _ rfl (fun _ => rfl) (fun _ _ => rfl) (fun r => ?_) ?_)
    · refine EvT.to (b := _) (a := _) (et_and (a := !decide (r = [])) (b := decide (r.getD (r.length - 1) 0 = 0)) ?_ ?_) ?_
      · walk_at "sub"
      · walk_at "sub"
        first | done | (rename_i h; exact List.length_pos_iff.mpr (by simpa using h))
      · congr 1
        rw [← decide_not]
        exact decide_eq_decide.mpr List.length_pos_iff.symm
    · walk_at "st"
theorem c_l_made_calm {K : PySem.W.Frag} {S : List Sl} {ta : TE} {E : XK} {ns : List Int} (h : EvF K ta S (.lst (ns.map .int))) (hl : ns.length ≤ 10000) : EvN K (tCall (sp_l_made_calm K) [] E (tCons ta tNil)) S ((madeCalmB ns).map .int) :=
  evn_callI ns (eb_cons h eb_nil) (fun _ => .nil) rfl hl rfl
local macro_rules | `(tactic| walk_at "callN") => `(tactic| ((with_reducible apply c_l_made_calm) <;> walk_at "sub"))

def menus2 : List (List Int) := [[-1, 0, 1, 2], [1, 1, 2, 1, 0, 1, 1, -1], [0, 0, -1, 0, 1, 0, 0, 2]]
theorem menus2_at {i : Nat} (h : i < 3) : (0 < (menus2.getD i []).length ∧ (menus2.getD i []).length ≤ 8) ∧ ∀ f, f ∈ menus2.getD i [] → -1 ≤ f ∧ f ≤ 2 := by
  match i, h with
  | 0, _ => exact ⟨by decide, by decide⟩
  | 1, _ => exact ⟨by decide, by decide⟩
  | 2, _ => exact ⟨by decide, by decide⟩
def menuOf (ns : List Int) : List Int := menus2.getD (ns.getD (Int.toNat 0) 0 % 3).toNat []
theorem menuOf_ok (ns : List Int) : (0 < (menuOf ns).length ∧ (menuOf ns).length ≤ 8) ∧ ∀ f, f ∈ menuOf ns → -1 ≤ f ∧ f ≤ 2 := menus2_at (by omega)
def figs7 (ns : List Int) : List Int := (cutG ns (some 4) (some 63)).map fun c => (menuOf ns).getD (c % ((menuOf ns).length : Int)).toNat 0
theorem figs7_len (ns : List Int) : (figs7 ns).length ≤ ns.length := by
  unfold figs7
  rw [List.length_map]
  exact cutG_len _ _ _
theorem figs7_fig (ns : List Int) : ∀ f, f ∈ figs7 ns → -1 ≤ f ∧ f ≤ 2 := by
  intro f m
  obtain ⟨c, _, rfl⟩ := List.mem_map.mp m
  obtain ⟨⟨h1, _⟩, h2⟩ := menuOf_ok ns
  have hp : (0 : Int) < (menuOf ns).length := by omega
  have h3 := Int.emod_nonneg c (Int.ne_of_gt hp)
  have h4 := Int.emod_lt_of_pos c hp
  exact h2 _ (getD_in (by omega))
theorem cut_sub {α : Type} {xs : List α} {lo hi : Option Int} : ∀ x, x ∈ cutG xs lo hi → x ∈ xs := fun x m => by
  unfold cutG at m
  exact List.mem_of_mem_drop (List.mem_of_mem_take m)
def at7 (ns : List Int) : Int := ns.getD (Int.toNat 1) 0 / 600 % (((figs7 ns).length : Int) + 1)
def more7 (ns : List Int) : List Int := if ns.getD (Int.toNat 0) 0 / 3 % 3 = 1 then
  (cutG (figs7 ns) none (some (at7 ns)) ++ List.replicate (ns.getD (Int.toNat 1) 0 / 2 % 300).toNat (ns.getD (Int.toNat 1) 0 % 2)) ++ cutG (figs7 ns) (some (at7 ns)) none else figs7 ns
theorem more7_ok {ns : List Int} (h : ns.length ≤ 63) : (∀ f, f ∈ more7 ns → -1 ≤ f ∧ f ≤ 2) ∧ (more7 ns).length ≤ 430 := by
  have h1 := figs7_len ns
  have h2 := cutG_len (figs7 ns) none (some (at7 ns))
  have h3 := cutG_len (figs7 ns) (some (at7 ns)) none
  unfold more7
  split
  · refine ⟨fun f m => ?_, by rw [List.length_append, List.length_append, List.length_replicate]; omega⟩
    rcases List.mem_append.mp m with m | m
    · rcases List.mem_append.mp m with m | m
      · exact figs7_fig ns f (cut_sub f m)
      · rw [(List.mem_replicate.mp m).2]; omega
    · exact figs7_fig ns f (cut_sub f m)
  · exact ⟨figs7_fig ns, by omega⟩
def rowL (ns : List Int) : List Int := madeCalmB (more7 ns)
def sp_l_row (K : PySem.W.Frag) : Sp := PSp K (fun ns : List Int => [.scr ns]) (fun ns => ns.length ≤ 63) (fun ns => .new ((rowL ns).map .int))
theorem ok_l_row {P : Program} {w : World} {K : PySem.W.Frag} {mg : Str → Option Value} {base : Heap} {A : Ad} {F : Fd} (T : Tx K mg A F) : FnOk P w K mg base CX0 2 A.l_row F.l_row ["_law_script"] (sp_l_row K) := by
  refine fn_pure T.F_l_row sc_l_row (fun _ => rfl) (by decide) fun cdv A0 outer s H E hr => ⟨_, (pss_cons (ps_set (i := 1) sc_l_row.nd rfl (by first | exact Or.inl rfl | exact Or.inr rfl) (pe_call (ok_l_cell_at T) (hr.mono (by decide)) (by rfl) T.g_l_cell_at T.F_l_cell_at.kp T.b_l_cell_at .nil pass0 (pa_cons (pv 0) (pa_cons pe_int pa_nil))))
      (pss_cons (ps_set (i := 2) sc_l_row.nd rfl (by first | exact Or.inl rfl | exact Or.inr rfl) (pe_ix ix_list (pe_lst (pa_cons (pe_lst (pa_cons (pe_un un_neg pe_int) (pa_cons pe_int (pa_cons pe_int (pa_cons pe_int pa_nil))))) (pa_cons (pe_lst (pa_cons pe_int (pa_cons pe_int (pa_cons pe_int (pa_cons pe_int (pa_cons pe_int (pa_cons pe_int (pa_cons pe_int (pa_cons (pe_un un_neg pe_int) pa_nil))))))))) (pa_cons (pe_lst (pa_cons pe_int (pa_cons pe_int (pa_cons (pe_un un_neg pe_int) (pa_cons pe_int (pa_cons pe_int (pa_cons pe_int (pa_cons pe_int (pa_cons pe_int pa_nil))))))))) pa_nil)))) (pe_op op_mod (pv 1) pe_int) (fun _ _ => rfl)))
      (pss_cons (ps_setLc (i := 3) (own := [("_law_cell", 6)]) (g := (gName 6)) (tt := tYes) rfl sc_l_row.nd rfl rfl (sw_true rfl rfl rfl (by decide +kernel)) (pi_list (pe_slice sl_list (pv 0) (po_some pe_int) (po_some pe_int))) (blkOk_by (own := [("_law_cell", 6)]) (N := ["_law_script", "_law_first", "_law_some", "_law_figures", "_law_second", "_law_at", "_law_cell"]) (sc := defScope s_l_row) (by decide +kernel)) (fun _ _ _ _ _ => (pg_name (i := 6) sc_l_row.nd rfl (by first | exact Or.inl rfl | exact Or.inr rfl))) (fun _ _ _ _ _ => pts_nil) (fun _ _ _ _ _ => (pe_ix (r := rIxL K) ix_list (pv 2) (pe_op op_mod (pv 6) (pe_callB (r := rLenA K) call_len_seq (by rfl) T.m_len PySem.boot_len (pa_cons (pv 2) pa_nil))) (fun _ _ => rfl))))
      (pss_cons (ps_if (pt_cmpR op_eq (pe_op op_mod (pe_op op_fdiv (pv 1) pe_int) pe_int) pe_int (nomark _)) (pss_cons (ps_set (i := 4) sc_l_row.nd rfl (by first | exact Or.inl rfl | exact Or.inr rfl) (pe_call (ok_l_cell_at T) (hr.mono (by decide)) (by rfl) T.g_l_cell_at T.F_l_cell_at.kp T.b_l_cell_at .nil pass0 (pa_cons (pv 0) (pa_cons pe_int pa_nil))))
      (pss_cons (ps_set (i := 5) sc_l_row.nd rfl (by first | exact Or.inl rfl | exact Or.inr rfl) (pe_op op_mod (pe_op op_fdiv (pv 4) pe_int) (pe_op op_add (pe_callB call_len_seq (by rfl) T.m_len PySem.boot_len (pa_cons (pv 3) pa_nil)) pe_int)))
      (pss_one (ps_set (i := 3) sc_l_row.nd rfl (by first | exact Or.inl rfl | exact Or.inr rfl) (pe_op op_cat (pe_op op_cat (pe_slice sl_list (pv 3) po_none (po_some (pv 5))) (pe_op op_rep (pe_lst (pa_cons (pe_op op_mod (pv 4) pe_int) pa_nil)) (pe_op op_mod (pe_op op_fdiv (pv 4) pe_int) pe_int))) (pe_slice sl_list (pv 3) (po_some (pv 5)) po_none)))))) pss_nil)
      (pss_one (ps_ret (pe_call (ok_l_made_calm T) (hr.mono (by decide)) (by rfl) T.g_l_made_calm T.F_l_made_calm.kp T.b_l_made_calm .nil pass0 (pa_cons (pv 3) pa_nil)))))))), fun a hp => ?_⟩
  walk_at "init"
  have hz : (sizeLine : Nat) = 16777216 := sizeLine_eq
  have hp : a.length ≤ 63 := hp
  have hm3 : menus2.length = 3 := rfl
  have hm := (menuOf_ok a).1
  have hfl := figs7_len a
  have hc1 := cutG_len (figs7 a) none (some (at7 a))
  have hc2 := cutG_len (figs7 a) (some (at7 a)) none
  have hmo := (more7_ok hp).2
  refine sem_seq (sem_asg (d := .int (a.getD (Int.toNat 0) 0)) (by walk_at "sub") rfl ?_)
  simp only [List.set_cons_zero, List.set_cons_succ]
  refine sem_seq (sem_asg (d := .lst ((menuOf a).map .int)) ?_ rfl ?_)
  · refine evd_ixLI (xs := menus2) ?_ ?_ ?_
    · exact evl_m (evm_new (show EvN K _ _ (menus2.map lstI) by unfold menus2; walk_at "evn"))
    · walk_at "sub"
    · omega
  simp only [List.set_cons_zero, List.set_cons_succ]
  refine sem_seq (sem_asgN (ds := (figs7 a).map .int) ?_ rfl ?_)
  · unfold figs7
    refine evn_lcG (fun c => (menuOf a).getD (c % ((menuOf a).length : Int)).toNat 0) (g := D.int) (f := D.int) (xs := cutG a (some 4) (some 63)) (by walk_at "sub") (by rfl) ?_ (fun c hcm => ?_)
    · have := cutG_len a (some 4) (some 63)
      omega
    · have hp' : (0 : Int) < (menuOf a).length := by omega
      have h3 := Int.emod_nonneg c (Int.ne_of_gt hp')
      have h4 := Int.emod_lt_of_pos c hp'
      simp only [List.set_cons_zero, List.set_cons_succ]
      walk_at "sub"
  simp only [List.set_cons_zero, List.set_cons_succ]
  refine sem_seq (sem_cut (fun S' => ∃ x4 x5 x6, S' = [.sh (.scr a), .sh (.int (a.getD (Int.toNat 0) 0)), .sh (.lst ((menuOf a).map .int)), .ow ((more7 a).map .int), x4, x5, x6]) ?_ ?_)
  · refine sem_if (b := decide (a.getD (Int.toNat 0) 0 / 3 % 3 = 1)) (by walk_at "sub") (fun h => ?_) (fun h => sem_next ⟨_, _, _, by rw [more7, if_neg (of_decide_eq_false h)]⟩)
    refine sem_seq (sem_asg (d := .int (a.getD (Int.toNat 1) 0)) (by walk_at "sub") rfl ?_)
    simp only [List.set_cons_zero, List.set_cons_succ]
    refine sem_seq (sem_asg (d := .int (at7 a)) (by unfold at7; walk_at "sub") rfl ?_)
    simp only [List.set_cons_zero, List.set_cons_succ]
    have hr : 0 ≤ a.getD (Int.toNat 1) 0 / 2 % 300 ∧ a.getD (Int.toNat 1) 0 / 2 % 300 < 300 := ⟨Int.emod_nonneg _ (by decide), Int.emod_lt_of_pos _ (by decide)⟩
    refine sem_asgN (ds := ((cutG (figs7 a) none (some (at7 a)) ++ List.replicate (a.getD (Int.toNat 1) 0 / 2 % 300).toNat (a.getD (Int.toNat 1) 0 % 2)) ++ cutG (figs7 a) (some (at7 a)) none).map .int) (evn_catI (evm_new (evn_catI (evm_new (evn_sliceI (evl_m (evm_own rfl)) eo_none (eo_some (evf (evd_var rfl))))) (evm_new (evn_rep1 (evm_new (evn_lst (ea_cons (by walk_at "sub") ea_nil) (by show 1 ≤ sizeLine; omega))) (by walk_at "sub") ⟨by omega, by omega⟩)) ?_)) (evm_new (evn_sliceI (evl_m (evm_own rfl)) (eo_some (evf (evd_var rfl))) eo_none)) ?_) rfl ⟨.sh (.int (a.getD (Int.toNat 1) 0)), .sh (.int (at7 a)), .no, ?_⟩
    · rw [List.length_replicate]; omega
    · rw [List.length_append, List.length_replicate]; omega
    · rw [more7, if_pos (of_decide_eq_true h)]
      rfl
  · rintro S' ⟨x4, x5, x6, rfl⟩
    exact sem_retN (c_l_made_calm (evf_own rfl) (by omega)) rfl
theorem c_l_row {K : PySem.W.Frag} {S : List Sl} {ta : TE} {E : XK} {ns : List Int} (h : EvD K ta S (.scr ns)) (hl : ns.length ≤ 63) : EvN K (tCall (sp_l_row K) [] E (tCons ta tNil)) S ((rowL ns).map .int) :=
  evn_call ns (ea_cons h ea_nil) (fun _ => .nil) rfl hl rfl
theorem atS {f : Int} (h : -1 ≤ f ∧ f ≤ 2) : atI ("-012" : Str).cps.toList (f + 1) = some (sgc f) := by
  have h4 : f = -1 ∨ f = 0 ∨ f = 1 ∨ f = 2 := by omega
  rcases h4 with rfl | rfl | rfl | rfl <;> decide +kernel
def sp_l_text (K : PySem.W.Frag) : Sp := PSp K (fun ns : List Int => [.lst (ns.map .int)]) (fun ns => (∀ f, f ∈ ns → -1 ≤ f ∧ f ≤ 2) ∧ ns.length ≤ 10000) (fun ns => .val (.str (tx (lineL ns))))
theorem ok_l_text {P : Program} {w : World} {K : PySem.W.Frag} {mg : Str → Option Value} {base : Heap} {A : Ad} {F : Fd} (T : Tx K mg A F) : FnOk P w K mg base CX0 1 A.l_text F.l_text ["_law_row_here"] (sp_l_text K) := by
  refine fn_pure T.F_l_text sc_l_text (fun _ => rfl) (by decide) fun cdv A0 outer s H E hr => ⟨_, (pss_cons (ps_if (pt_cmpR (op_eqD hr.units) (pv 0) (pe_lst pa_nil) (nomark _)) (pss_one (ps_ret pe_str)) pss_nil)
      (pss_one (ps_ret (pe_join pe_str (pe_lc (own := [("_law_figure", 1)]) (g := (gName 1)) (tt := tYes) (by rfl) sc_l_text.nd (pi_list (pe_revL (pv 0))) (blkOk_by (own := [("_law_figure", 1)]) (N := ["_law_row_here", "_law_figure"]) (sc := defScope s_l_text) (by decide +kernel)) (fun _ _ _ _ _ => (pg_name (i := 1) sc_l_text.nd rfl (by first | exact Or.inl rfl | exact Or.inr rfl))) (fun _ _ _ _ _ => pts_nil) (fun _ _ _ _ _ => (pe_ix ix_str pe_str (pe_op op_add (pv 1) pe_int) (fun _ _ => rfl)))))))), fun a hp => ?_⟩
  walk_at "init"
  obtain ⟨hf, hl⟩ := hp
  have hz : (sizeLine : Nat) = 16777216 := sizeLine_eq
  refine sem_seq (sem_if (b := decide (a = [])) (by walk_at "sub") (fun h => sem_ret evd_cstr (by rw [lineL, if_pos (of_decide_eq_true h), lit0])) (fun h => sem_next ?_))
  refine sem_ret (EvD.to (evd_join (ys := (a.reverse.map sgc).map fun c => (⟨#[c]⟩ : Str)) (evf evd_cstr) (evf (evd_new ?_)) ?_) (by rw [join_tx])) (by rw [lineL, if_neg (of_decide_eq_false h)])
  · rw [List.map_map]
    refine evn_lcG sgc (g := D.int) (f := sgD) (xs := a.reverse) (it_new (evn_revI (evl_m (evm_d (evd_var rfl))))) rfl (by rw [List.length_reverse]; omega) (fun x m => ?_)
    simp only [List.set_cons_zero, List.set_cons_succ]
    exact evd_ixS (evf evd_cstr) (evf (evd_add (evf (evd_var rfl)) (evf evd_cint))) (by rw [hz]; decide +kernel) (atS (hf x (List.mem_reverse.mp m)))
  · rw [ones_sum, List.length_map, List.length_map, List.length_reverse]
    show a.length + _ * 0 ≤ _
    omega
theorem find_fig (c : Nat) : Txt.find "-012" ⟨#[c]⟩ - 1 = (figO c).getD (-2) := by
  by_cases h : c = 45 ∨ c = 48 ∨ c = 49 ∨ c = 50
  · rcases h with rfl | rfl | rfl | rfl <;> decide +kernel
  · have e : ("-012" : Str).cps.toList = [45, 48, 49, 50] := by decide +kernel
    rw [find_no (by rw [e]; simp; omega), figO, if_neg (by omega), if_neg (by omega), if_neg (by omega), if_neg (by omega)]
    rfl
theorem figO_ge {c : Nat} {f : Int} (h : figO c = some f) : -1 ≤ f ∧ f ≤ 2 := by
  unfold figO at h
  repeat' split at h
  all_goals first | (cases h; decide) | cases h
def dueR : Option (List Int) → Rv
  | some r => .new (r.map .int)
  | none => .val .non
def sp_l_due (K : PySem.W.Frag) : Sp := PSp K (fun cs : List Nat => [.str (tx cs)]) (fun cs => cs.length ≤ 10000) (fun cs => dueR (readO cs))
theorem ok_l_due {P : Program} {w : World} {K : PySem.W.Frag} {mg : Str → Option Value} {base : Heap} {A : Ad} {F : Fd} (T : Tx K mg A F) : FnOk P w K mg base CX0 2 A.l_due F.l_due ["_law_line"] (sp_l_due K) := by
  refine fn_pure T.F_l_due sc_l_due (fun _ => rfl) (by decide) fun cdv A0 outer s H E hr => ⟨_, (pss_cons (ps_if (pt_cmpR op_eq (pv 0) pe_str (nomark _)) (pss_one (ps_ret (pe_lst pa_nil))) pss_nil)
      (pss_cons (ps_set (i := 1) sc_l_due.nd rfl (by first | exact Or.inl rfl | exact Or.inr rfl) (pe_lst pa_nil))
      (pss_cons (ps_for PassesOwn.never rfl (pi_str (pe_revS (pv 0))) (pg_name (i := 2) sc_l_due.nd rfl (by first | exact Or.inl rfl | exact Or.inr rfl)) (pss_cons (ps_set (i := 3) sc_l_due.nd rfl (by first | exact Or.inl rfl | exact Or.inr rfl) (pe_op op_sub (pe_m1 PySem.F.slot_str_find PySem.F.type_str_find mt_find pe_str (pv 2)) pe_int))
      (pss_cons (ps_if (pt_cmpR op_eq (pv 3) (pe_un un_neg pe_int) (nomark _)) (pss_one (ps_ret pe_non)) pss_nil)
      (pss_one (ps_expr (pe_bm PySem.F.plainAttrs_list PySem.F.slot_list_append PySem.F.type_list_append mt_append (pv 1) (pa_cons (pv 3) pa_nil)))))))
      (pss_cons (ps_if (PW.pt (pw_or (pt_cmpR (op_eqD hr.units) (pv 1) (pe_lst pa_nil) (nomark _)) (pw_or1 (pt_not (pt_val (pe_call (ok_l_calm T) (hr.mono (by decide)) (by rfl) T.g_l_calm T.F_l_calm.kp T.b_l_calm .nil pass0 (pa_cons (pv 1) pa_nil))))))) (pss_one (ps_ret pe_non)) pss_nil)
      (pss_one (ps_ret (pv 1))))))), fun a hp => ?_⟩
  walk_at "init"
  have hp : a.length ≤ 10000 := hp
  have hz : (sizeLine : Nat) = 16777216 := sizeLine_eq
  refine sem_seq (sem_if (b := decide (a = [48])) (et_test (evf (evd_eqT (ys := [48]) (evf (evd_var rfl)) (evf (by rw [← lit0]; exact evd_cstr))))) (fun h => ?_) (fun h => sem_next ?_))
  · have e : a = [48] := of_decide_eq_true h
    subst e
    exact sem_retN (evn_lst ea_nil (by decide)) rfl
  have hne : a ≠ [48] := of_decide_eq_false h
  have hO : readO a = match mapO figO a.reverse with | none => none | some row => if row ≠ [] ∧ isCalm row = true then some row else none := if_neg hne
  refine sem_seq (sem_asgN (ds := ([] : List Int).map .int) (evn_lst ea_nil (by decide)) rfl ?_)
  simp only [List.set_cons_zero, List.set_cons_succ]
  refine sem_seq (sem_for (wi := iStr (tRevT (tVar 0))) (it_str (evd_revT (evf (evd_var (d := .str (tx a)) rfl)) (by omega))) (fun i S' => ∃ ys x2 x3, mapO figO (a.reverse.take i) = some ys ∧ S' = [.sh (.str (tx a)), .ow (ys.map .int), x2, x3]) ⟨[], _, _, rfl, rfl⟩ (fun i d S' hd P => ?_) (fun S' P => ?_))
  · obtain ⟨ys, x2, x3, hy, rfl⟩ := P
    rw [List.getElem?_map] at hd
    cases hc : a.reverse[i]? with
    | none => rw [hc] at hd; cases hd
    | some c =>
      rw [hc] at hd
      cases hd
      refine ⟨_, _, tg_name (Nat.le_of_ble_eq_true rfl), ?_⟩
      simp only [List.set_cons_zero, List.set_cons_succ]
      have hyl := mapO_len hy
      rw [List.length_take, List.length_reverse] at hyl
      refine sem_seq (sem_asg (d := .int ((figO c).getD (-2))) (EvD.to (evd_sub (evf (evd_findS (evf evd_cstr) (evf (evd_var (d := sgD c) rfl)))) (evf evd_cint)) (by rw [find_fig])) rfl ?_)
      simp only [List.set_cons_zero, List.set_cons_succ]
      refine sem_seq (sem_if (b := decide ((figO c).getD (-2) = -2)) (by walk_at "sub") (fun h2 => sem_ret evd_cnon ?_) (fun h2 => sem_next ?_))
      · have hn : figO c = none := by
          cases hfc : figO c with
          | none => rfl
          | some f =>
            have h3 := of_decide_eq_true h2
            have h4 := figO_ge hfc
            rw [hfc] at h3
            have h3 : f = -2 := h3
            omega
        rw [hO, mapO_none (List.mem_of_getElem? hc) hn]
        rfl
      · cases hfc : figO c with
        | none => rw [hfc] at h2; exact absurd h2 (by decide)
        | some f =>
          refine sem_appI (k := 1) rfl (evf (evd_var rfl)) (by omega) ⟨ys ++ [f], _, _, ?_, rfl⟩
          rw [List.take_succ, hc]
          show mapO figO (a.reverse.take i ++ [c]) = _
          rw [mapO_snoc hy, hfc]
          rfl
  · obtain ⟨ys, x2, x3, hy, rfl⟩ := P
    rw [List.length_map, List.take_length] at hy
    rw [hO, hy]
    refine sem_seq (sem_if (b := decide (ys = []) || !isCalm ys) (by walk_at "sub") (fun h2 => sem_ret evd_cnon ?_) (fun h2 => sem_next (sem_retO (k := 1) rfl ?_)))
    · have hn : ¬(ys ≠ [] ∧ isCalm ys = true) := fun z => by simp [z.1, z.2] at h2
      dsimp only
      rw [if_neg hn]
      rfl
    · have hn : ys ≠ [] ∧ isCalm ys = true := by
        simp only [Bool.or_eq_false_iff, decide_eq_false_iff_not, Bool.not_eq_false'] at h2
        exact h2
      dsimp only
      rw [if_pos hn]
      rfl
def someL : List Nat := [32, 33, 34, 35, 36, 38, 39, 40, 41, 42, 43, 44, 45, 46, 47, 48, 49, 50, 51, 52, 53, 54, 55, 56, 57, 58, 59, 60, 61, 62, 63, 64, 65, 66, 67, 68, 69, 70, 71, 72, 73, 74, 75, 76, 77, 78, 79, 80, 81, 82, 83, 84, 85, 86, 87, 88, 89, 90, 91, 92, 93, 94, 95, 96, 97, 98, 99, 100, 101, 102, 103, 104, 105, 106, 107, 108, 109, 110, 111, 112, 113, 114, 115, 116, 117, 118, 119, 120, 121, 122, 123, 124, 125, 126, 10, 9]
def sbyC (c : Int) : Nat := if c % 2 = 0 then ([45, 48, 49, 50] : List Nat).getD (c / 2 % 4).toNat 0 else someL.getD (c / 2 % 96).toNat 0
theorem atN {xs : List Nat} {i : Int} (h0 : 0 ≤ i) (h : i < xs.length) : atI xs i = some (xs.getD i.toNat 0) := atI_ge h0 (by
  rw [List.getD_eq_getElem?_getD, List.getElem?_eq_getElem (by omega)]
  rfl)
def sp_l_sign_by (K : PySem.W.Frag) : Sp := PSp K (fun c : Int => [.int c]) (fun _ => True) (fun c => .val (sgD (sbyC c)))
theorem ok_l_sign_by {P : Program} {w : World} {K : PySem.W.Frag} {mg : Str → Option Value} {base : Heap} {A : Ad} {F : Fd} (T : Tx K mg A F) : FnOk P w K mg base CX0 1 A.l_sign_by F.l_sign_by ["_law_cell"] (sp_l_sign_by K) := by
  refine fn_pure T.F_l_sign_by sc_l_sign_by (fun _ => rfl) (by decide) fun cdv A0 outer s H E hr => ⟨_, (pss_cons (ps_set (i := 1) sc_l_sign_by.nd rfl (by first | exact Or.inl rfl | exact Or.inr rfl) pe_str)
      (pss_cons (ps_set (i := 1) sc_l_sign_by.nd rfl (by first | exact Or.inl rfl | exact Or.inr rfl) (pe_op op_add_str (pv 1) pe_str))
      (pss_cons (ps_if (pt_cmpR op_eq (pe_op op_mod (pv 0) pe_int) pe_int (nomark _)) (pss_one (ps_ret (pe_ix ix_str pe_str (pe_op op_mod (pe_op op_fdiv (pv 0) pe_int) pe_int) (fun _ _ => rfl)))) pss_nil)
      (pss_one (ps_ret (pe_ix ix_str (pv 1) (pe_op op_mod (pe_op op_fdiv (pv 0) pe_int) pe_int) (fun _ _ => rfl))))))), fun a hp => ?_⟩
  walk_at "init"
  have hz : (sizeLine : Nat) = 16777216 := sizeLine_eq
  refine sem_seq (sem_asg evd_cstr rfl ?_)
  simp only [List.set_cons_zero, List.set_cons_succ]
  refine sem_seq (sem_asg (evd_addS (evf (evd_var rfl)) (evf evd_cstr) (by rw [hz]; decide +kernel)) rfl ?_)
  simp only [List.set_cons_zero, List.set_cons_succ]
  have h4 : 0 ≤ a / 2 % 4 ∧ a / 2 % 4 < 4 := ⟨Int.emod_nonneg _ (by decide), Int.emod_lt_of_pos _ (by decide)⟩
  have h96 : 0 ≤ a / 2 % 96 ∧ a / 2 % 96 < 96 := ⟨Int.emod_nonneg _ (by decide), Int.emod_lt_of_pos _ (by decide)⟩
  refine sem_seq (sem_if (b := decide (a % 2 = 0)) (by walk_at "sub") (fun h => ?_) (fun h => sem_next ?_))
  · refine sem_ret (evd_ixS (x := "-012") (i := a / 2 % 4) (evf evd_cstr) (by walk_at "sub") (by rw [hz]; decide +kernel) ?_) (by rw [sbyC, if_pos (of_decide_eq_true h)])
    rw [show ("-012" : Str).cps.toList = [45, 48, 49, 50] by decide +kernel]
    exact atN h4.1 h4.2
  · refine sem_ret (evd_ixS (i := a / 2 % 96) (evf (evd_var rfl)) (by walk_at "sub") (by rw [hz]; decide +kernel) (c := someL.getD (a / 2 % 96).toNat 0) ?_) (by rw [sbyC, if_neg (of_decide_eq_false h)])
    refine Eq.trans (congrArg (fun l => atI l (a / 2 % 96)) (show _ = someL by decide +kernel)) (atN h96.1 ?_)
    rw [show someL.length = 96 by decide +kernel]
    exact h96.2
def oddL : List (List Nat) := [[], [48], [48, 48], [45, 48], [45, 45], [50, 50], [49, 32], [32, 49], [43, 49], [45, 49], [49, 10], [48, 49]]
def oddD : List D := [.str "", .str "0", .str "00", .str "-0", .str "--", .str "22", .str "1 ", .str " 1", .str "+1", .str "-1", .str "1\n", .str "01"]
def spoilL (cs : List Nat) (way : Int) (c : Nat) (cell : Int) : List Nat :=
  if way = 1 then (cutG cs none (some (cell % ((cs.length : Int) + 1))) ++ [c]) ++ cutG cs (some (cell % ((cs.length : Int) + 1))) none
  else if way = 2 then (cutG cs none (some (cell % (cs.length : Int))) ++ [c]) ++ cutG cs (some (cell % (cs.length : Int) + 1)) none
  else if way = 3 then cutG cs none (some (cell % (cs.length : Int))) ++ cutG cs (some (cell % (cs.length : Int) + 1)) none
  else if way = 4 then ((cutG cs none (some (cell % (cs.length : Int))) ++ cutG cs (some (cell % (cs.length : Int) + 1)) (some (cell % (cs.length : Int) + 2))) ++ cutG cs (some (cell % (cs.length : Int))) (some (cell % (cs.length : Int) + 1))) ++ cutG cs (some (cell % (cs.length : Int) + 2)) none
  else if way = 5 then (cutG cs none (some (cell % (cs.length : Int))) ++ [cs.getD (cell % (cs.length : Int)).toNat 0]) ++ cutG cs (some (cell % (cs.length : Int))) none
  else if way = 6 then [48] ++ cs
  else if way = 7 then oddL.getD (cell % 12).toNat []
  else cs
def sp_l_spoiled (K : PySem.W.Frag) : Sp := PSp K (fun p : List Nat × Int × Nat × Int => [.str (tx p.1), .int p.2.1, sgD p.2.2.1, .int p.2.2.2]) (fun p => p.1 ≠ [] ∧ p.1.length ≤ 1000) (fun p => .val (.str (tx (spoilL p.1 p.2.1 p.2.2.1 p.2.2.2))))
theorem spoil_len {cs : List Nat} (way : Int) (c : Nat) (cell : Int) (h : cs.length ≤ 1000) : (spoilL cs way c cell).length ≤ 5000 := by
  have k : ∀ lo hi : Option Int, (cutG cs lo hi).length ≤ 1000 := fun lo hi => Nat.le_trans (cutG_len cs lo hi) h
  have ho : ∀ i : Nat, (oddL.getD i []).length ≤ 2 := fun i => by
    by_cases hi : i < oddL.length
    · have : ∀ l, l ∈ oddL → l.length ≤ 2 := by decide
      rw [List.getD_eq_getElem?_getD, List.getElem?_eq_getElem hi]
      exact this _ (List.getElem_mem hi)
    · rw [List.getD_eq_getElem?_getD, List.getElem?_eq_none (by omega)]
      exact Nat.zero_le _
  unfold spoilL
  have e1 := k none (some (cell % ((cs.length : Int) + 1)))
  have e2 := k (some (cell % ((cs.length : Int) + 1))) none
  have e3 := k none (some (cell % (cs.length : Int)))
  have e4 := k (some (cell % (cs.length : Int) + 1)) none
  have e5 := k (some (cell % (cs.length : Int) + 1)) (some (cell % (cs.length : Int) + 2))
  have e6 := k (some (cell % (cs.length : Int))) (some (cell % (cs.length : Int) + 1))
  have e7 := k (some (cell % (cs.length : Int) + 2)) none
  have e8 := k (some (cell % (cs.length : Int))) none
  have e9 := ho (cell % 12).toNat
  repeat' split
  all_goals (try simp only [List.length_append, List.length_cons, List.length_nil]) <;> omega
theorem ok_l_spoiled {P : Program} {w : World} {K : PySem.W.Frag} {mg : Str → Option Value} {base : Heap} {A : Ad} {F : Fd} (T : Tx K mg A F) : FnOk P w K mg base CX0 1 A.l_spoiled F.l_spoiled ["_law_line", "_law_way", "_law_sign", "_law_cell"] (sp_l_spoiled K) := by
  refine fn_pure T.F_l_spoiled sc_l_spoiled (fun _ => rfl) (by decide) fun cdv A0 outer s H E hr => ⟨_, (pss_cons (ps_set (i := 4) sc_l_spoiled.nd rfl (by first | exact Or.inl rfl | exact Or.inr rfl) (pe_op op_mod (pv 3) (pe_callB call_len_str (by rfl) T.m_len PySem.boot_len (pa_cons (pv 0) pa_nil))))
      (pss_cons (ps_if (pt_cmpR op_eq (pv 1) pe_int (nomark _)) (pss_cons (ps_set (i := 4) sc_l_spoiled.nd rfl (by first | exact Or.inl rfl | exact Or.inr rfl) (pe_op op_mod (pv 3) (pe_op op_add (pe_callB call_len_str (by rfl) T.m_len PySem.boot_len (pa_cons (pv 0) pa_nil)) pe_int)))
      (pss_one (ps_ret (pe_op op_add_str (pe_op op_add_str (pe_slice sl_str (pv 0) po_none (po_some (pv 4))) (pv 2)) (pe_slice sl_str (pv 0) (po_some (pv 4)) po_none))))) pss_nil)
      (pss_cons (ps_if (pt_cmpR op_eq (pv 1) pe_int (nomark _)) (pss_one (ps_ret (pe_op op_add_str (pe_op op_add_str (pe_slice sl_str (pv 0) po_none (po_some (pv 4))) (pv 2)) (pe_slice sl_str (pv 0) (po_some (pe_op op_add (pv 4) pe_int)) po_none)))) pss_nil)
      (pss_cons (ps_if (pt_cmpR op_eq (pv 1) pe_int (nomark _)) (pss_one (ps_ret (pe_op op_add_str (pe_slice sl_str (pv 0) po_none (po_some (pv 4))) (pe_slice sl_str (pv 0) (po_some (pe_op op_add (pv 4) pe_int)) po_none)))) pss_nil)
      (pss_cons (ps_if (pt_cmpR op_eq (pv 1) pe_int (nomark _)) (pss_cons (ps_set (i := 5) sc_l_spoiled.nd rfl (by first | exact Or.inl rfl | exact Or.inr rfl) (pe_slice sl_str (pv 0) (po_some (pe_op op_add (pv 4) pe_int)) (po_some (pe_op op_add (pv 4) pe_int))))
      (pss_one (ps_ret (pe_op op_add_str (pe_op op_add_str (pe_op op_add_str (pe_slice sl_str (pv 0) po_none (po_some (pv 4))) (pv 5)) (pe_slice sl_str (pv 0) (po_some (pv 4)) (po_some (pe_op op_add (pv 4) pe_int)))) (pe_slice sl_str (pv 0) (po_some (pe_op op_add (pv 4) pe_int)) po_none))))) pss_nil)
      (pss_cons (ps_if (pt_cmpR op_eq (pv 1) pe_int (nomark _)) (pss_one (ps_ret (pe_op op_add_str (pe_op op_add_str (pe_slice sl_str (pv 0) po_none (po_some (pv 4))) (pe_ix ix_str (pv 0) (pv 4) (fun _ _ => rfl))) (pe_slice sl_str (pv 0) (po_some (pv 4)) po_none)))) pss_nil)
      (pss_cons (ps_if (pt_cmpR op_eq (pv 1) pe_int (nomark _)) (pss_one (ps_ret (pe_op op_add_str pe_str (pv 0)))) pss_nil)
      (pss_cons (ps_if (pt_cmpR op_eq (pv 1) pe_int (nomark _)) (pss_cons (ps_set (i := 6) sc_l_spoiled.nd rfl (by first | exact Or.inl rfl | exact Or.inr rfl) (pe_lst (pa_cons pe_str (pa_cons pe_str (pa_cons pe_str (pa_cons pe_str (pa_cons pe_str (pa_cons pe_str (pa_cons pe_str (pa_cons pe_str (pa_cons pe_str (pa_cons pe_str (pa_cons pe_str (pa_cons pe_str pa_nil))))))))))))))
      (pss_one (ps_ret (pe_ix ix_list (pv 6) (pe_op op_mod (pv 3) pe_int) (fun _ _ => rfl))))) pss_nil)
      (pss_one (ps_ret (pv 0))))))))))), fun a hp => ?_⟩
  obtain ⟨cs, way, c, cell⟩ := a
  dsimp only at hp ⊢
  walk_at "init"
  obtain ⟨hne, hl⟩ := hp
  have hz : (sizeLine : Nat) = 16777216 := sizeLine_eq
  have hpos : 0 < cs.length := List.length_pos_iff.mpr hne
  have k : ∀ lo hi : Option Int, (cutG cs lo hi).length ≤ 1000 := fun lo hi => Nat.le_trans (cutG_len cs lo hi) hl
  have hN : ∀ {S : List Sl}, S[0]? = some (.sh (.str (tx cs))) → EvF K (tCB (fun xs H Q => ∃ z, xs = [.str z] ∧ z.length ≤ sizeLine ∧ Q (.int z.length) H) (tCons (tVar 0) tNil)) S (.int (cs.length : Int)) := fun {S} h0 =>
    evf (EvD.to (evd_lenS (evf (evd_var h0)) (by rw [tx_len]; omega)) (by rw [tx_len]))
  refine sem_seq (sem_asg (evd_mod (evf (evd_var rfl)) (hN rfl) (by omega)) rfl ?_)
  simp only [List.set_cons_zero, List.set_cons_succ]
  refine sem_seq (sem_if (b := decide (way = 1)) (by walk_at "sub") (fun h => ?_) (fun h1 => sem_next ?_))
  · refine sem_seq (sem_asg (evd_mod (evf (evd_var rfl)) (evf (evd_add (hN rfl) (evf evd_cint))) (by omega)) rfl ?_)
    simp only [List.set_cons_zero, List.set_cons_succ]
    refine sem_ret (evd_addT (evf (evd_addT (ys := [c]) (evf (evd_slT (cs := cs) (evf (evd_var rfl)) eo_none (eo_some (evf (evd_var rfl))) (by omega))) (evf (evd_var rfl)) ?_)) (evf (evd_slT (cs := cs) (evf (evd_var rfl)) (eo_some (evf (evd_var rfl))) eo_none (by omega))) ?_) (by rw [spoilL, if_pos (of_decide_eq_true h)])
    · have := k none (some (cell % ((cs.length : Int) + 1)))
      show _ + 1 ≤ _
      omega
    · have := k none (some (cell % ((cs.length : Int) + 1)))
      have := k (some (cell % ((cs.length : Int) + 1))) none
      rw [List.length_append]
      show _ + 1 + _ ≤ _
      omega
  have e3 := k none (some (cell % (cs.length : Int)))
  have e4 := k (some (cell % (cs.length : Int) + 1)) none
  have e5 := k (some (cell % (cs.length : Int) + 1)) (some (cell % (cs.length : Int) + 2))
  have e6 := k (some (cell % (cs.length : Int))) (some (cell % (cs.length : Int) + 1))
  have e7 := k (some (cell % (cs.length : Int) + 2)) none
  have e8 := k (some (cell % (cs.length : Int))) none
  refine sem_seq (sem_if (b := decide (way = 2)) (by walk_at "sub") (fun h => ?_) (fun h2 => sem_next ?_))
  · refine sem_ret (evd_addT (evf (evd_addT (ys := [c]) (evf (evd_slT (cs := cs) (evf (evd_var rfl)) eo_none (eo_some (evf (evd_var rfl))) (by omega))) (evf (evd_var rfl)) ?_)) (evf (evd_slT (cs := cs) (evf (evd_var rfl)) (eo_some (evf (evd_add (evf (evd_var rfl)) (evf evd_cint)))) eo_none (by omega))) ?_) (by rw [spoilL, if_neg (of_decide_eq_false h1), if_pos (of_decide_eq_true h)])
    · show _ + 1 ≤ _
      omega
    · rw [List.length_append]
      show _ + 1 + _ ≤ _
      omega
  refine sem_seq (sem_if (b := decide (way = 3)) (by walk_at "sub") (fun h => ?_) (fun h3 => sem_next ?_))
  · exact sem_ret (evd_addT (evf (evd_slT (cs := cs) (evf (evd_var rfl)) eo_none (eo_some (evf (evd_var rfl))) (by omega))) (evf (evd_slT (cs := cs) (evf (evd_var rfl)) (eo_some (evf (evd_add (evf (evd_var rfl)) (evf evd_cint)))) eo_none (by omega))) (by omega)) (by rw [spoilL, if_neg (of_decide_eq_false h1), if_neg (of_decide_eq_false h2), if_pos (of_decide_eq_true h)])
  refine sem_seq (sem_if (b := decide (way = 4)) (by walk_at "sub") (fun h => ?_) (fun h4 => sem_next ?_))
  · refine sem_seq (sem_asg (evd_slT (cs := cs) (evf (evd_var rfl)) (eo_some (evf (evd_add (evf (evd_var rfl)) (evf evd_cint)))) (eo_some (evf (evd_add (evf (evd_var rfl)) (evf evd_cint)))) (by omega)) rfl ?_)
    simp only [List.set_cons_zero, List.set_cons_succ]
    refine sem_ret (evd_addT (evf (evd_addT (evf (evd_addT (evf (evd_slT (cs := cs) (evf (evd_var rfl)) eo_none (eo_some (evf (evd_var rfl))) (by omega))) (evf (evd_var rfl)) ?_)) (evf (evd_slT (cs := cs) (evf (evd_var rfl)) (eo_some (evf (evd_var rfl))) (eo_some (evf (evd_add (evf (evd_var rfl)) (evf evd_cint)))) (by omega))) ?_)) (evf (evd_slT (cs := cs) (evf (evd_var rfl)) (eo_some (evf (evd_add (evf (evd_var rfl)) (evf evd_cint)))) eo_none (by omega))) ?_) (by rw [spoilL, if_neg (of_decide_eq_false h1), if_neg (of_decide_eq_false h2), if_neg (of_decide_eq_false h3), if_pos (of_decide_eq_true h)])
    · omega
    · rw [List.length_append]; omega
    · rw [List.length_append, List.length_append]; omega
  refine sem_seq (sem_if (b := decide (way = 5)) (by walk_at "sub") (fun h => ?_) (fun h5 => sem_next ?_))
  · have hat : 0 ≤ cell % (cs.length : Int) ∧ cell % (cs.length : Int) < cs.length := ⟨Int.emod_nonneg _ (by omega), Int.emod_lt_of_pos _ (by omega)⟩
    refine sem_ret (evd_addT (evf (evd_addT (ys := [cs.getD (cell % (cs.length : Int)).toNat 0]) (evf (evd_slT (cs := cs) (evf (evd_var rfl)) eo_none (eo_some (evf (evd_var rfl))) (by omega))) (evf (evd_ixS (x := tx cs) (evf (evd_var rfl)) (evf (evd_var rfl)) (by rw [tx_len]; omega) (atN hat.1 hat.2))) ?_)) (evf (evd_slT (cs := cs) (evf (evd_var rfl)) (eo_some (evf (evd_var rfl))) eo_none (by omega))) ?_) (by rw [spoilL, if_neg (of_decide_eq_false h1), if_neg (of_decide_eq_false h2), if_neg (of_decide_eq_false h3), if_neg (of_decide_eq_false h4), if_pos (of_decide_eq_true h)])
    · show _ + 1 ≤ _
      omega
    · rw [List.length_append]
      show _ + 1 + _ ≤ _
      omega
  refine sem_seq (sem_if (b := decide (way = 6)) (by walk_at "sub") (fun h => ?_) (fun h6 => sem_next ?_))
  · refine sem_ret (evd_addT (xs := [48]) (evf (by rw [← lit0]; exact evd_cstr)) (evf (evd_var rfl)) ?_) (by rw [spoilL, if_neg (of_decide_eq_false h1), if_neg (of_decide_eq_false h2), if_neg (of_decide_eq_false h3), if_neg (of_decide_eq_false h4), if_neg (of_decide_eq_false h5), if_pos (of_decide_eq_true h)])
    show 1 + _ ≤ _
    omega
  refine sem_seq (sem_if (b := decide (way = 7)) (by walk_at "sub") (fun h => ?_) (fun h7 => sem_next ?_))
  · have h12 : 0 ≤ cell % 12 ∧ cell % 12 < 12 := ⟨Int.emod_nonneg _ (by decide), Int.emod_lt_of_pos _ (by decide)⟩
    refine sem_seq (sem_asgN (ds := oddD) (evn_lst (ea_cons evd_cstr (ea_cons evd_cstr (ea_cons evd_cstr (ea_cons evd_cstr (ea_cons evd_cstr (ea_cons evd_cstr (ea_cons evd_cstr (ea_cons evd_cstr (ea_cons evd_cstr (ea_cons evd_cstr (ea_cons evd_cstr (ea_cons evd_cstr ea_nil)))))))))))) (by show 12 ≤ sizeLine; omega)) rfl ?_)
    simp only [List.set_cons_zero, List.set_cons_succ]
    refine sem_ret (d := .str (tx (oddL.getD (cell % 12).toNat []))) (evd_ix (ds := oddD) (i := cell % 12) (evl_m (evm_own rfl)) (by walk_at "sub") (atI_ge h12.1 ?_)) (by rw [spoilL, if_neg (of_decide_eq_false h1), if_neg (of_decide_eq_false h2), if_neg (of_decide_eq_false h3), if_neg (of_decide_eq_false h4), if_neg (of_decide_eq_false h5), if_neg (of_decide_eq_false h6), if_pos (of_decide_eq_true h)])
    obtain ⟨i, hi⟩ : ∃ i, (cell % 12).toNat = i := ⟨_, rfl⟩
    have hi12 : i < 12 := by omega
    rw [hi]
    match i, hi12 with
    | 0, _ => exact congrArg (fun s => some (D.str s)) (show _ = _ by decide +kernel)
    | 1, _ => exact congrArg (fun s => some (D.str s)) (show _ = _ by decide +kernel)
    | 2, _ => exact congrArg (fun s => some (D.str s)) (show _ = _ by decide +kernel)
    | 3, _ => exact congrArg (fun s => some (D.str s)) (show _ = _ by decide +kernel)
    | 4, _ => exact congrArg (fun s => some (D.str s)) (show _ = _ by decide +kernel)
    | 5, _ => exact congrArg (fun s => some (D.str s)) (show _ = _ by decide +kernel)
    | 6, _ => exact congrArg (fun s => some (D.str s)) (show _ = _ by decide +kernel)
    | 7, _ => exact congrArg (fun s => some (D.str s)) (show _ = _ by decide +kernel)
    | 8, _ => exact congrArg (fun s => some (D.str s)) (show _ = _ by decide +kernel)
    | 9, _ => exact congrArg (fun s => some (D.str s)) (show _ = _ by decide +kernel)
    | 10, _ => exact congrArg (fun s => some (D.str s)) (show _ = _ by decide +kernel)
    | 11, _ => exact congrArg (fun s => some (D.str s)) (show _ = _ by decide +kernel)
  exact sem_ret (evd_var rfl) (by rw [spoilL, if_neg (of_decide_eq_false h1), if_neg (of_decide_eq_false h2), if_neg (of_decide_eq_false h3), if_neg (of_decide_eq_false h4), if_neg (of_decide_eq_false h5), if_neg (of_decide_eq_false h6), if_neg (of_decide_eq_false h7)])
def sp_l_is_row (K : PySem.W.Frag) : Sp := PSp K (fun ns : List Int => [.lst (ns.map .int), .lst (ns.map .int)]) (fun _ => True) (fun _ => .val (.bl true))
theorem ok_l_is_row {P : Program} {w : World} {K : PySem.W.Frag} {mg : Str → Option Value} {base : Heap} {A : Ad} {F : Fd} (T : Tx K mg A F) : FnOk P w K mg base CX0 2 A.l_is_row F.l_is_row ["_law_found", "_law_due_here"] (sp_l_is_row K) := by
  refine fn_pure T.F_l_is_row sc_l_is_row (fun _ => rfl) (by decide) fun cdv A0 outer s H E hr => ⟨_, (pss_cons (ps_if (PW.pt (pw_or (pt_not (pt_val (pe_callB call_isi (by rfl) T.m_isinstance boot_isinstance (pa_cons (pv 0) (pa_cons (pe_bltn (v := .ty "list") (by rfl) T.m_list boot_list rfl) pa_nil))))) (pw_or1 (pt_cmpR (op_neD hr.units) (pv 0) (pv 1) (nomark _))))) (pss_one (ps_ret pe_bl)) pss_nil)
      (pss_cons (ps_for PassesOwn.never rfl (pi_list (pv 0)) (pg_name (i := 2) sc_l_is_row.nd rfl (by first | exact Or.inl rfl | exact Or.inr rfl)) (pss_one (ps_if (pt_not (pt_val (pe_call (ok_l_whole T) (hr.mono (by decide)) (by rfl) T.g_l_whole T.F_l_whole.kp T.b_l_whole .nil pass0 (pa_cons (pv 2) pa_nil)))) (pss_one (ps_ret pe_bl)) pss_nil)))
      (pss_one (ps_ret pe_bl)))), fun a hp => ?_⟩
  walk_at "init"
  refine sem_seq (sem_if (b := false) (EvT.to (a := !true || !decide (a = a)) (by walk_at "sub") (by simp)) (fun h => nomatch h) (fun _ => sem_next ?_))
  refine sem_seq (sem_for (it_list (evd_var rfl)) (fun i S' => ∃ x, S' = [.sh (.lst (a.map .int)), .sh (.lst (a.map .int)), x]) ⟨_, rfl⟩ (fun i d S' hd P => ?_) (fun S' P => ?_))
  · obtain ⟨x, rfl⟩ := P
    rw [List.getElem?_map] at hd
    cases hc : a[i]? with
    | none => rw [hc] at hd; cases hd
    | some c =>
      rw [hc] at hd
      cases hd
      refine ⟨_, _, tg_name (Nat.le_of_ble_eq_true rfl), ?_⟩
      simp only [List.set_cons_zero, List.set_cons_succ]
      exact sem_if (b := false) (EvT.to (a := !true) (et_not (et_B (evf (c_l_whole (evf (evd_var rfl)))))) rfl) (fun h => nomatch h) (fun _ => sem_next ⟨_, rfl⟩)
  · obtain ⟨x, rfl⟩ := P
    exact sem_ret evd_cbl rfl
theorem c_l_is_row {K : PySem.W.Frag} {S : List Sl} {ta tb : TE} {E : XK} {ns : List Int} (h : EvF K ta S (.lst (ns.map .int))) (h2 : EvF K tb S (.lst (ns.map .int))) : EvD K (tCall (sp_l_is_row K) [] E (tCons ta (tCons tb tNil))) S (.bl true) :=
  sc_bl (evf_call ns (eb_cons h (eb_cons h2 eb_nil)) (fun _ => .nil) rfl trivial rfl)
theorem exc_no {K : PySem.W.Frag} {mg : Str → Option Value} {A : Ad} {F : Fd} (T : Tx K mg A F) : ExcC K A.C_NoText :=
  ⟨T.ga_NoText, T.gt_NoText, T.sx_NoText, T.hx_NoText, T.cx_NoText, T.sp_class, T.tk_class, T.mx_NoText⟩
def sp_l_refused (K : PySem.W.Frag) : Sp := PSp K (fun cs : List Nat => [.str (tx cs)]) (fun cs => cs.length ≤ 10000 ∧ readO cs = none) (fun _ => .val (.bl true))
theorem ok_l_refused {P : Program} {w : World} {K : PySem.W.Frag} {mg : Str → Option Value} {base : Heap} {A : Ad} {F : Fd} (T : Tx K mg A F) : FnOk P w K mg base CX0 3 A.l_refused F.l_refused ["_law_line"] (sp_l_refused K) := by
  refine fn_pure T.F_l_refused sc_l_refused (fun _ => rfl) (by decide) fun cdv A0 outer s H E hr => ⟨_, (pss_cons (ps_set (i := 1) sc_l_refused.nd rfl (by first | exact Or.inl rfl | exact Or.inr rfl) pe_bl)
      (pss_cons (ps_try_only rfl rfl ⟨rfl, by decide, .inl T.g_NoText⟩ takes0 (fun W pn xe tk _ => (pss_one (ps_expr (pe_callS (ok_read T) (hr.mono (by decide)) (by rfl) T.g_read T.F_read.kp T.b_read (fun σ => passAt tk σ) (pa_cons (pv 0) pa_nil)))))
        (fun a oe cls d pn hz hf => (pss_one (ps_set (i := 1) sc_l_refused.nd rfl (by first | exact Or.inl rfl | exact Or.inr rfl) pe_bl))))
      (pss_cons (ps_set (i := 2) sc_l_refused.nd rfl (by first | exact Or.inl rfl | exact Or.inr rfl) (pe_lst pa_nil))
      (pss_cons (ps_try_as (i := 3) rfl rfl sc_l_refused.nd rfl rfl ⟨rfl, by decide, .inl T.g_CountError⟩ takes0 (fun W pn xe tk _ => (pss_one (ps_expr (pe_callS (ok_read T) (hr.mono (by decide)) (by rfl) T.g_read T.F_read.kp T.b_read (fun σ => passAt tk σ) (pa_cons (pv 0) pa_nil)))))
        (fun a oe cls d pn hz hf => (pss_cons (ps_set (i := 2) sc_l_refused.nd rfl (by first | exact Or.inl rfl | exact Or.inr rfl) (pe_lst (pa_cons (pe_callB (call_isX hz hf) (by rfl) T.m_isinstance boot_isinstance (pa_cons (pv 3) (pa_cons (pe_glob (v := .ref A.C_NoText) (by rfl) T.g_NoText rfl) pa_nil))) (pa_cons (pe_callB (call_isX hz hf) (by rfl) T.m_isinstance boot_isinstance (pa_cons (pv 3) (pa_cons (pe_bltn (v := .ty "ValueError") (by rfl) T.m_ValueError (by decide +kernel) rfl) pa_nil))) pa_nil))))
      (pss_one (ps_set (i := 2) sc_l_refused.nd rfl (by first | exact Or.inl rfl | exact Or.inr rfl) (pe_op op_cat (pv 2) (pe_lst (pa_cons (pe_callB (call_isX hz hf) (by rfl) T.m_isinstance boot_isinstance (pa_cons (pv 3) (pa_cons (pe_glob (v := .ref A.C_NotCalm) (by rfl) T.g_NotCalm rfl) pa_nil))) (pa_cons (pe_callB (call_isX hz hf) (by rfl) T.m_isinstance boot_isinstance (pa_cons (pv 3) (pa_cons (pe_glob (v := .ref A.C_NoPlace) (by rfl) T.g_NoPlace rfl) pa_nil))) (pa_cons (pe_callB (call_isX hz hf) (by rfl) T.m_isinstance boot_isinstance (pa_cons (pv 3) (pa_cons (pe_glob (v := .ref A.C_NothingDone) (by rfl) T.g_NothingDone rfl) pa_nil))) pa_nil))))))))))
      (pss_one (ps_ret (pe_and (pv 1) (pe_one (pe_cmpR (op_eqD hr.units) (pv 2) (pe_lst (pa_cons pe_bl (pa_cons pe_bl (pa_cons pe_bl (pa_cons pe_bl (pa_cons pe_bl pa_nil)))))) (nomark _)))))))))), fun a hp => ?_⟩
  walk_at "init"
  obtain ⟨hl, hn⟩ := hp
  have hC := exc_no T
  have hV : readV A a = .exc (.ref A.C_NoText) := by unfold readV; rw [hn]; rfl
  refine sem_seq (sem_asg evd_cbl rfl ?_)
  simp only [List.set_cons_zero, List.set_cons_succ]
  refine sem_seq (sem_cut (fun S' => S' = [.sh (.str (tx a)), .sh (.bl true), .no, .no]) (sem_tryOnly (tb := fun W => tDrop (tCallS (sp_read K A) (WE W) (tCons (tVar 0) tNil))) (X := fun c S' => S' = [.sh (.str (tx a)), .sh (.bl false), .no, .no] ∧ c = .ref A.C_NoText)
    (smT_call a (eb_cons (evf (evd_var rfl)) eb_nil) hl (fun r hr => by rw [hV] at hr; cases hr) (fun c hc => by rw [hV] at hc; cases hc; exact ⟨rfl, rfl⟩)) ?_) ?_)
  · rintro c S' ⟨rfl, rfl⟩
    exact ⟨T.em_NoText_NoText, fun a => sem_asg evd_cbl rfl rfl⟩
  rintro S' rfl
  refine sem_seq (sem_asgN (ds := []) (evn_lst ea_nil (by decide)) rfl ?_)
  simp only [List.set_cons_zero, List.set_cons_succ]
  refine sem_seq (sem_cut (fun S' => S' = [.sh (.str (tx a)), .sh (.bl true), .ow (([true, true, false, false, false] : List Bool).map .bl), .no]) (sem_tryAs (tb := fun W => tDrop (tCallS (sp_read K A) (WE W) (tCons (tVar 0) tNil))) (X := fun c S' => S' = [.sh (.str (tx a)), .sh (.bl true), .ow [], .no] ∧ c = .ref A.C_NoText)
    (smT_call a (eb_cons (evf (evd_var rfl)) eb_nil) hl (fun r hr => by rw [hV] at hr; cases hr) (fun c hc => by rw [hV] at hc; cases hc; exact ⟨rfl, rfl⟩)) ?_) ?_)
  · rintro c S' ⟨rfl, rfl⟩
    refine ⟨Nat.le_of_ble_eq_true rfl, T.em_NoText_CountError, fun a => ?_⟩
    simp only [List.set_cons_zero, List.set_cons_succ]
    refine sem_seq (sem_asgN (ds := [true, true].map .bl) (evn_lst (ea_cons (evd_isX rfl hC T.is_NoText_NoText) (ea_cons (evd_isXT rfl hC T.is_NoText_ValueError) ea_nil)) (by show 2 ≤ sizeLine; rw [sizeLine_eq]; decide)) rfl ?_)
    exact sem_asgN (ds := [true, true, false, false, false].map .bl) (evn_cat (ds := [true, true].map .bl) (es := [false, false, false].map .bl) (evm_own rfl) (evm_new (evn_lst (ea_cons (evd_isX rfl hC T.is_NoText_NotCalm) (ea_cons (evd_isX rfl hC T.is_NoText_NoPlace) (ea_cons (evd_isX rfl hC T.is_NoText_NothingDone) ea_nil))) (by show 3 ≤ sizeLine; rw [sizeLine_eq]; decide))) (by show 5 ≤ sizeLine; rw [sizeLine_eq]; decide)) rfl ⟨Nat.le_of_ble_eq_true rfl, rfl⟩
  rintro S' rfl
  exact sem_ret (EvD.to (evd_and (evf (evd_var rfl)) (fun _ => evf (evd_eqG enc_bl.list (by decide) (x := [true, true, false, false, false]) (y := [true, true, false, false, false]) (evf_own rfl) (evf (evd_new (evn_lst (ea_cons evd_cbl (ea_cons evd_cbl (ea_cons evd_cbl (ea_cons evd_cbl (ea_cons evd_cbl ea_nil))))) (by show 5 ≤ sizeLine; rw [sizeLine_eq]; decide))))))) rfl) rfl
theorem evd_callXS {K : PySem.W.Frag} {S : List Sl} {ta : TA} {α : Type} {A : α → List D} {pre : α → Prop} {f : α → Ov} {ds : List D} {E0' : XK} {x : Str} (a : α) (h : EvB K ta S ds) (hA : A a = ds) (hp : pre a) (hf : f a = .ret (.val (.str x))) : EvD K (tCall (PSpX K A pre f) [] E0' ta) S (.str x) := fun O H0 H P σ R Q q =>
  h O H0 H P σ R _ fun vs H1 e1 r1 => ⟨a, [], fun x m => (nomatch m), by rw [hA, hidL_nil, List.append_nil]; exact r1, hp, fun r hr v H' hok => by
    rw [hf] at hr
    cases hr
    obtain ⟨z1, z2⟩ := hok
    cases z2
    exact q _ H' (e1.trans z1) (.str _), fun c hc => by rw [hf] at hc; cases hc⟩
theorem lineL_ne (ns : List Int) : lineL ns ≠ [] := by
  unfold lineL
  split
  · exact List.cons_ne_nil _ _
  · rename_i h
    exact fun z => h (by simpa using z)
theorem lineL_len (ns : List Int) : (lineL ns).length ≤ ns.length + 1 := by
  unfold lineL
  split
  · show 1 ≤ _
    omega
  · rw [List.length_map, List.length_reverse]
    omega
theorem map_back : ∀ {ns : List Int}, (∀ f, f ∈ ns → -1 ≤ f ∧ f ≤ 2) → mapO figO (ns.map sgc) = some ns
  | [], _ => rfl
  | n :: ns, h => by
    rw [List.map_cons]
    unfold mapO
    rw [fig_sgc (h n List.mem_cons_self)]
    dsimp only
    rw [map_back fun f m => h f (List.mem_cons_of_mem _ m)]
    rfl
/-- what is written is read again -/
theorem read_line {ns : List Int} (hc : isCalm ns = true) : readO (lineL ns) = some ns := by
  by_cases hn : ns = []
  · subst hn
    rfl
  have e : lineL ns = ns.reverse.map sgc := if_neg hn
  have hf := calm_fig hc
  have hne : lineL ns ≠ [48] := fun z => by
    rw [e] at z
    match ns, hn, hf, hc, z with
    | [f], _, hf, hc, z =>
      have h4 := hf f List.mem_cons_self
      have z2 : sgc f = 48 := by simpa using z
      have h5 : f = -1 ∨ f = 0 ∨ f = 1 ∨ f = 2 := by omega
      rcases h5 with rfl | rfl | rfl | rfl
      · exact absurd z2 (by decide)
      · exact absurd hc (by decide)
      · exact absurd z2 (by decide)
      · exact absurd z2 (by decide)
    | f :: g :: r, _, _, _, z => have z2 := congrArg List.length z; simp at z2
  unfold readO
  rw [if_neg hne, e, ← List.map_reverse, List.reverse_reverse, map_back hf]
  dsimp only
  rw [if_pos ⟨hn, hc⟩]
theorem readO_len {cs : List Nat} {ns : List Int} (h : readO cs = some ns) : ns.length ≤ cs.length := by
  unfold readO at h
  split at h
  · cases h
    exact Nat.zero_le _
  · cases hm : mapO figO cs.reverse with
    | none => rw [hm] at h; cases h
    | some row =>
      rw [hm] at h
      dsimp only at h
      split at h
      · cases h
        have := mapO_len hm
        rw [List.length_reverse] at this
        omega
      · cases h
def sp_law (K : PySem.W.Frag) : Sp := PSp K (fun ns : List Int => [.scr ns]) (fun ns => ns.length ≤ 63) (fun _ => .val (.bl true))
theorem ok_law {P : Program} {w : World} {K : PySem.W.Frag} {mg : Str → Option Value} {base : Heap} {A : Ad} {F : Fd} (T : Tx K mg A F) : FnOk P w K mg base CX0 4 A.law F.law ["_law_script"] (sp_law K) := by
  refine fn_pure T.F_law sc_law (fun _ => rfl) (by decide) fun cdv A0 outer s H E hr => ⟨_, (pss_cons (ps_set (i := 1) sc_law.nd rfl (by first | exact Or.inl rfl | exact Or.inr rfl) (pe_call (ok_l_row T) (hr.mono (by decide)) (by rfl) T.g_l_row T.F_l_row.kp T.b_l_row .nil pass0 (pa_cons (pv 0) pa_nil)))
      (pss_cons (ps_set (i := 2) sc_law.nd rfl (by first | exact Or.inl rfl | exact Or.inr rfl) (pe_call (ok_l_text T) (hr.mono (by decide)) (by rfl) T.g_l_text T.F_l_text.kp T.b_l_text .nil pass0 (pa_cons (pv 1) pa_nil)))
      (pss_cons (ps_set (i := 3) sc_law.nd rfl (by first | exact Or.inl rfl | exact Or.inr rfl) (pe_callTy call_list_of (by rfl) T.m_list boot_list (pa_cons (pv 1) pa_nil)))
      (pss_cons (ps_set (i := 4) sc_law.nd rfl (by first | exact Or.inl rfl | exact Or.inr rfl) (pe_call (ok_shown T) (hr.mono (by decide)) (by rfl) T.g_shown T.F_shown.kp T.b_shown .nil passL (pa_cons (pv 3) pa_nil)))
      (pss_cons (ps_if (PW.pt (pw_or (pt_not (pt_val (pe_callB call_isi (by rfl) T.m_isinstance boot_isinstance (pa_cons (pv 4) (pa_cons (pe_bltn (v := .ty "str") (by rfl) T.m_str boot_str rfl) pa_nil))))) (pw_or (pt_cmpR op_ne (pv 4) (pv 2) (nomark _)) (pw_or1 (pt_cmpR (op_neD hr.units) (pv 3) (pv 1) (nomark _)))))) (pss_one (ps_ret pe_bl)) pss_nil)
      (pss_cons (ps_if (pt_not (pt_val (pe_call (ok_l_is_row T) (hr.mono (by decide)) (by rfl) T.g_l_is_row T.F_l_is_row.kp T.b_l_is_row .nil pass0 (pa_cons (pe_call (ok_read T) (hr.mono (by decide)) (by rfl) T.g_read T.F_read.kp T.b_read .nil passL (pa_cons (pv 2) pa_nil)) (pa_cons (pv 1) pa_nil))))) (pss_one (ps_ret pe_bl)) pss_nil)
      (pss_cons (ps_set (i := 5) sc_law.nd rfl (by first | exact Or.inl rfl | exact Or.inr rfl) (pe_call (ok_l_cell_at T) (hr.mono (by decide)) (by rfl) T.g_l_cell_at T.F_l_cell_at.kp T.b_l_cell_at .nil pass0 (pa_cons (pv 0) (pa_cons pe_int pa_nil))))
      (pss_cons (ps_set (i := 6) sc_law.nd rfl (by first | exact Or.inl rfl | exact Or.inr rfl) (pe_call (ok_l_sign_by T) (hr.mono (by decide)) (by rfl) T.g_l_sign_by T.F_l_sign_by.kp T.b_l_sign_by .nil pass0 (pa_cons (pe_op op_fdiv (pv 5) pe_int) pa_nil)))
      (pss_cons (ps_set (i := 2) sc_law.nd rfl (by first | exact Or.inl rfl | exact Or.inr rfl) (pe_call (ok_l_spoiled T) (hr.mono (by decide)) (by rfl) T.g_l_spoiled T.F_l_spoiled.kp T.b_l_spoiled .nil pass0 (pa_cons (pv 2) (pa_cons (pe_op op_mod (pv 5) pe_int) (pa_cons (pv 6) (pa_cons (pe_call (ok_l_cell_at T) (hr.mono (by decide)) (by rfl) T.g_l_cell_at T.F_l_cell_at.kp T.b_l_cell_at .nil pass0 (pa_cons (pv 0) (pa_cons pe_int pa_nil))) pa_nil))))))
      (pss_cons (ps_set (i := 7) sc_law.nd rfl (by first | exact Or.inl rfl | exact Or.inr rfl) (pe_call (ok_l_due T) (hr.mono (by decide)) (by rfl) T.g_l_due T.F_l_due.kp T.b_l_due .nil pass0 (pa_cons (pv 2) pa_nil)))
      (pss_cons (ps_if (pt_cmpR op_isN (pv 7) pe_non (nomark _)) (pss_one (ps_ret (pe_call (ok_l_refused T) (hr.mono (by decide)) (by rfl) T.g_l_refused T.F_l_refused.kp T.b_l_refused .nil pass0 (pa_cons (pv 2) pa_nil)))) pss_nil)
      (pss_cons (ps_set (i := 8) sc_law.nd rfl (by first | exact Or.inl rfl | exact Or.inr rfl) (pe_call (ok_read T) (hr.mono (by decide)) (by rfl) T.g_read T.F_read.kp T.b_read .nil passL (pa_cons (pv 2) pa_nil)))
      (pss_cons (ps_if (pt_not (pt_val (pe_call (ok_l_is_row T) (hr.mono (by decide)) (by rfl) T.g_l_is_row T.F_l_is_row.kp T.b_l_is_row .nil pass0 (pa_cons (pv 8) (pa_cons (pv 7) pa_nil))))) (pss_one (ps_ret pe_bl)) pss_nil)
      (pss_cons (ps_expr (pe_bm PySem.F.plainAttrs_list PySem.F.slot_list_append PySem.F.type_list_append mt_append (pv 8) (pa_cons pe_int pa_nil)))
      (pss_one (ps_ret (pe_call (ok_l_is_row T) (hr.mono (by decide)) (by rfl) T.g_l_is_row T.F_l_is_row.kp T.b_l_is_row .nil pass0 (pa_cons (pe_call (ok_read T) (hr.mono (by decide)) (by rfl) T.g_read T.F_read.kp T.b_read .nil passL (pa_cons (pv 2) pa_nil)) (pa_cons (pv 7) pa_nil))))))))))))))))))), fun a hp => ?_⟩
  walk_at "init"
  have hz : (sizeLine : Nat) = 16777216 := sizeLine_eq
  have hp : a.length ≤ 63 := hp
  have hmo := more7_ok hp
  have hc : isCalm (rowL a) = true := madeCalmB_calm hmo.1
  have hl : (rowL a).length ≤ 430 := Nat.le_trans (madeCalmB_len _) hmo.2
  refine sem_seq (sem_asgN (c_l_row (evd_var rfl) hp) rfl ?_)
  simp only [List.set_cons_zero, List.set_cons_succ]
  generalize rowL a = row at hc hl ⊢
  have hll := lineL_len row
  have hRV : ∀ A : Ad, readV A (lineL row) = .ret (.new (row.map .int)) := fun A => by unfold readV; rw [read_line hc]; rfl
  refine sem_seq (sem_asg (d := .str (tx (lineL row))) (sc_str (evf_call row (eb_cons (evf_own rfl) eb_nil) (fun _ => .nil) rfl ⟨calm_fig hc, by omega⟩ rfl)) rfl ?_)
  simp only [List.set_cons_zero, List.set_cons_succ]
  refine sem_seq (sem_asgN (evn_list (evl_m (evm_own rfl))) rfl ?_)
  simp only [List.set_cons_zero, List.set_cons_succ]
  refine sem_seq (sem_asg (d := .str (tx (lineL row))) (evd_callXS row (eb_cons (evf_own rfl) eb_nil) rfl (by show row.length ≤ 10000; omega) (if_pos hc)) rfl ?_)
  simp only [List.set_cons_zero, List.set_cons_succ]
  refine sem_seq (sem_if (b := false) (EvT.to (et_or (et_not (et_B (evf (evd_isi (evf (evd_var rfl)) rfl kit_ss)))) fun _ => et_or (et_test (evf (evd_neS (evf (evd_var rfl)) (evf (evd_var rfl))))) fun _ => et_test (evf (evd_neLI (ns := row) (ms := row) (evf_own rfl) (evf_own rfl)))) (by simp)) (fun h => nomatch h) (fun _ => sem_next ?_))
  refine sem_seq (sem_if (b := false) (EvT.to (a := !true) (et_not (et_B (evf (c_l_is_row (ns := row) (evf (evd_new (evn_callX (f := readV A) (lineL row) (ea_cons (evd_var rfl) ea_nil) (fun _ => .nil) rfl (by show _ ≤ 10000; omega) (hRV A)))) (evf_own rfl))))) rfl) (fun h => nomatch h) (fun _ => sem_next ?_))
  refine sem_seq (sem_asg (c_l_cell_at (evf (evd_var rfl)) (evf evd_cint) (by decide)) rfl ?_)
  simp only [List.set_cons_zero, List.set_cons_succ]
  generalize a.getD (2 : Int).toNat 0 = third
  refine sem_seq (sem_asg (d := sgD (sbyC (third / 9))) (sc_str (evf_call (third / 9) (eb_cons (evf (evd_div (evf (evd_var rfl)) (evf evd_cint) ⟨by decide, by decide⟩)) eb_nil) (fun _ => .nil) rfl trivial rfl)) rfl ?_)
  simp only [List.set_cons_zero, List.set_cons_succ]
  refine sem_seq (sem_asg (d := .str (tx (spoilL (lineL row) (third % 9) (sbyC (third / 9)) (a.getD (3 : Int).toNat 0)))) (sc_str (evf_call (lineL row, third % 9, sbyC (third / 9), a.getD (3 : Int).toNat 0) (eb_cons (evf (evd_var rfl)) (eb_cons (evf (evd_mod (evf (evd_var rfl)) (evf evd_cint) (by decide))) (eb_cons (evf (evd_var rfl)) (eb_cons (evf (c_l_cell_at (evf (evd_var rfl)) (evf evd_cint) (by decide))) eb_nil)))) (fun _ => .nil) rfl ⟨lineL_ne row, by show (lineL row).length ≤ 1000; omega⟩ rfl)) rfl ?_)
  simp only [List.set_cons_zero, List.set_cons_succ]
  have hsl := spoil_len (cs := lineL row) (third % 9) (sbyC (third / 9)) (a.getD (3 : Int).toNat 0) (by omega)
  generalize spoilL (lineL row) (third % 9) (sbyC (third / 9)) (a.getD (3 : Int).toNat 0) = cs at hsl ⊢
  have hcs : cs.length ≤ 10000 := by omega
  cases hr : readO cs with
  | none =>
    refine sem_seq (sem_asg (d := .non) (evd_call cs (ea_cons (evd_var rfl) ea_nil) (fun _ => .nil) rfl hcs (by rw [hr]; rfl)) rfl ?_)
    simp only [List.set_cons_zero, List.set_cons_succ]
    exact sem_seq (sem_if (b := true) (EvT.to (et_test (evf (evd_isN (evf (evd_var rfl))))) rfl) (fun _ => sem_ret (sc_bl (evf_call cs (eb_cons (evf (evd_var rfl)) eb_nil) (fun _ => .nil) rfl ⟨hcs, hr⟩ rfl)) rfl) (fun h => nomatch h))
  | some ns =>
    have hnl := readO_len hr
    have hV : ∀ A : Ad, readV A cs = .ret (.new (ns.map .int)) := fun A => by unfold readV; rw [hr]; rfl
    refine sem_seq (sem_asgN (evn_callI (ns := ns) cs (eb_cons (evf (evd_var rfl)) eb_nil) (fun _ => .nil) rfl hcs (by rw [hr]; rfl)) rfl ?_)
    simp only [List.set_cons_zero, List.set_cons_succ]
    refine sem_seq (sem_if (b := false) (EvT.to (et_test (evf (evd_isN (evf_own rfl)))) rfl) (fun h => nomatch h) (fun _ => sem_next ?_))
    refine sem_seq (sem_asgN (evn_callX (f := readV A) cs (ea_cons (evd_var rfl) ea_nil) (fun _ => .nil) rfl hcs (hV A)) rfl ?_)
    simp only [List.set_cons_zero, List.set_cons_succ]
    refine sem_seq (sem_if (b := false) (EvT.to (a := !true) (et_not (et_B (evf (c_l_is_row (ns := ns) (evf_own rfl) (evf_own rfl))))) rfl) (fun h => nomatch h) (fun _ => sem_next ?_))
    refine sem_seq (sem_appI (ns := ns) (k := 8) rfl (evf evd_cint) (by omega) ?_)
    simp only [List.set_cons_zero, List.set_cons_succ]
    exact sem_ret (c_l_is_row (ns := ns) (evf (evd_new (evn_callX (f := readV A) cs (ea_cons (evd_var rfl) ea_nil) (fun _ => .nil) rfl hcs (hV A)))) (evf_own rfl)) rfl
theorem start_law {K : PySem.W.Frag} {H : Hp} {a : Addr} {ns : List Int} (hl : ns.length ≤ 63) (hS : SqL K H a (ns.map V.int)) : sp_law K [.ref a] H (fun v _ => v = .bl true) fun _ _ _ => False := by
  refine ⟨ns, [], fun x m => (nomatch m), ?_, hl, fun v H' h => ?_⟩
  · rw [hidL_nil]
    exact .cons (.scr hS) .nil
  · obtain ⟨_, r⟩ := h
    cases r
    rfl

theorem all_mk {l : PySem.W.OpenLaw} {w : World} {K : PySem.W.Frag} {h : Heap} {mg : Str → Option Value} {fa f0 f1 f2 f3 f4 f5 f6 f7 f8 f9 f10 f11 f12 f13 f14 f15 f16 C_CountError C_NotCalm C_NoPlace C_NothingDone C_NoText : Addr} (X : K.In h) (G : h.Ns mainGlobals mg) (hfa : mg "law" = some (.ref fa))
    {od0 an0 od1 an1 od2 an2 od3 an3 od4 an4 od5 an5 od6 an6 od7 an7 od8 an8 od9 an9 od10 an10 od11 an11 od12 an12 od13 an13 od14 an14 od15 an15 od16 an16 : Option Addr} {sl0 sl1 sl2 sl3 sl4 sl5 sl6 sl7 sl8 sl9 sl10 sl11 sl12 sl13 sl14 sl15 sl16 : Array (Option Value)} {oc0 kV0 dc0 pm0 cd0 ct0 oc1 kV1 dc1 pm1 cd1 ct1 oc2 kV2 dc2 pm2 cd2 ct2 oc3 kV3 dc3 pm3 cd3 ct3 oc4 kV4 dc4 pm4 cd4 ct4 oc5 kV5 dc5 pm5 cd5 ct5 oc6 kV6 dc6 pm6 cd6 ct6 oc7 kV7 dc7 pm7 cd7 ct7 oc8 kV8 dc8 pm8 cd8 ct8 oc9 kV9 dc9 pm9 cd9 ct9 oc10 kV10 dc10 pm10 cd10 ct10 oc11 kV11 dc11 pm11 cd11 ct11 oc12 kV12 dc12 pm12 cd12 ct12 oc13 kV13 dc13 pm13 cd13 ct13 oc14 kV14 dc14 pm14 cd14 ct14 oc15 kV15 dc15 pm15 cd15 ct15 oc16 kV16 dc16 pm16 cd16 ct16 : Value}
    (gc_CountError : PySem.W.nsIn K mainGlobals "CountError" = some (some (.ref C_CountError)))
    (gc_NotCalm : PySem.W.nsIn K mainGlobals "NotCalm" = some (some (.ref C_NotCalm)))
    (gc_NoPlace : PySem.W.nsIn K mainGlobals "NoPlace" = some (some (.ref C_NoPlace)))
    (gc_NothingDone : PySem.W.nsIn K mainGlobals "NothingDone" = some (some (.ref C_NothingDone)))
    (gc_NoText : PySem.W.nsIn K mainGlobals "NoText" = some (some (.ref C_NoText)))
    (xc_NotCalm : PySem.W.excIn K C_NotCalm [.type "ValueError", .type "Exception", .type "BaseException", .type "object"] "ValueError.__new__" = true)
    (kc_NotCalm : PySem.W.keepIn K (.ref C_NotCalm) = true)
    (sx_NotCalm : PySem.W.subIn K (.ref C_NotCalm) (.type "BaseException") = some true)
    (tx_NotCalm : PySem.W.typeIn K (.ref C_NotCalm) = some (.type "type"))
    (ga_NotCalm : PySem.W.findIn K (.ref C_NotCalm) "__getattribute__" = some (some (.builtin "BaseException.__getattribute__")))
    (gt_NotCalm : PySem.W.findIn K (.ref C_NotCalm) "__getattr__" = some none)
    (hx_NotCalm : PySem.W.hasDictIn K C_NotCalm = true)
    (cx_NotCalm : PySem.W.findIn K (.ref C_NotCalm) "__class__" = some (some (.builtin "object.__class__")))
    (mx_NotCalm : PySem.W.mroIn K C_NotCalm (.type "object") = some true)
    (su_NotCalm_CountError : PySem.W.subIn K (.ref C_NotCalm) (.ref C_CountError) = some true)
    (su_NotCalm_NoText : PySem.W.subIn K (.ref C_NotCalm) (.ref C_NoText) = some false)
    (ne_NotCalm_NoText : C_NotCalm ≠ C_NoText)
    (su_NotCalm_NothingDone : PySem.W.subIn K (.ref C_NotCalm) (.ref C_NothingDone) = some false)
    (ne_NotCalm_NothingDone : C_NotCalm ≠ C_NothingDone)
    (su_NotCalm_NoPlace : PySem.W.subIn K (.ref C_NotCalm) (.ref C_NoPlace) = some false)
    (ne_NotCalm_NoPlace : C_NotCalm ≠ C_NoPlace)
    (su_NotCalm_ValueError : PySem.W.subIn K (.ref C_NotCalm) (.type "ValueError") = some true)
    (xc_NoText : PySem.W.excIn K C_NoText [.type "ValueError", .type "Exception", .type "BaseException", .type "object"] "ValueError.__new__" = true)
    (kc_NoText : PySem.W.keepIn K (.ref C_NoText) = true)
    (sx_NoText : PySem.W.subIn K (.ref C_NoText) (.type "BaseException") = some true)
    (tx_NoText : PySem.W.typeIn K (.ref C_NoText) = some (.type "type"))
    (ga_NoText : PySem.W.findIn K (.ref C_NoText) "__getattribute__" = some (some (.builtin "BaseException.__getattribute__")))
    (gt_NoText : PySem.W.findIn K (.ref C_NoText) "__getattr__" = some none)
    (hx_NoText : PySem.W.hasDictIn K C_NoText = true)
    (cx_NoText : PySem.W.findIn K (.ref C_NoText) "__class__" = some (some (.builtin "object.__class__")))
    (mx_NoText : PySem.W.mroIn K C_NoText (.type "object") = some true)
    (su_NoText_CountError : PySem.W.subIn K (.ref C_NoText) (.ref C_CountError) = some true)
    (su_NoText_NoText : PySem.W.subIn K (.ref C_NoText) (.ref C_NoText) = some true)
    (su_NoText_NothingDone : PySem.W.subIn K (.ref C_NoText) (.ref C_NothingDone) = some false)
    (ne_NoText_NothingDone : C_NoText ≠ C_NothingDone)
    (su_NoText_NotCalm : PySem.W.subIn K (.ref C_NoText) (.ref C_NotCalm) = some false)
    (ne_NoText_NotCalm : C_NoText ≠ C_NotCalm)
    (su_NoText_NoPlace : PySem.W.subIn K (.ref C_NoText) (.ref C_NoPlace) = some false)
    (ne_NoText_NoPlace : C_NoText ≠ C_NoPlace)
    (su_NoText_ValueError : PySem.W.subIn K (.ref C_NoText) (.type "ValueError") = some true)
    (hc_CountError : PySem.W.hasDictIn K C_CountError = true)
    (ty_CountError : PySem.W.typeIn K (.ref C_CountError) = some (.type "type"))
    (hc_NoText : PySem.W.hasDictIn K C_NoText = true)
    (ty_NoText : PySem.W.typeIn K (.ref C_NoText) = some (.type "type"))
    (hc_NothingDone : PySem.W.hasDictIn K C_NothingDone = true)
    (ty_NothingDone : PySem.W.typeIn K (.ref C_NothingDone) = some (.type "type"))
    (hc_NotCalm : PySem.W.hasDictIn K C_NotCalm = true)
    (ty_NotCalm : PySem.W.typeIn K (.ref C_NotCalm) = some (.type "type"))
    (hc_NoPlace : PySem.W.hasDictIn K C_NoPlace = true)
    (ty_NoPlace : PySem.W.typeIn K (.ref C_NoPlace) = some (.type "type"))
    (bs_CountError : PySem.W.subIn K (.ref C_CountError) (.type "BaseException") = some true)
    (bs_NoText : PySem.W.subIn K (.ref C_NoText) (.type "BaseException") = some true)
    (sp_class : PySem.W.specialIn K (.builtin "object.__class__") "__get__" = some (some (.builtin "getset_descriptor.__get__")))
    (tk_class : PySem.W.takesIn K (.builtin "object.__class__") = some true)
    (a0 : PySem.W.nsIn K mainGlobals "is_calm" = some (some (.ref f0))) (l0 : K.lookup f0 = some ⟨oc0, od0, .func (PySem.W.fnOf "is_calm" "is_calm" (defArgs s_is_calm) (defBody s_is_calm) (defScope s_is_calm) .none kV0 dc0 pm0 an0 cd0 ct0), sl0⟩) (c0 : PySem.W.codeIn K cd0 "is_calm" = true) (k0 : PySem.W.keepIn K (.ref f0) = true)
    (a1 : PySem.W.nsIn K mainGlobals "sign_of" = some (some (.ref f1))) (l1 : K.lookup f1 = some ⟨oc1, od1, .func (PySem.W.fnOf "sign_of" "sign_of" (defArgs s_sign_of) (defBody s_sign_of) (defScope s_sign_of) .none kV1 dc1 pm1 an1 cd1 ct1), sl1⟩) (c1 : PySem.W.codeIn K cd1 "sign_of" = true) (k1 : PySem.W.keepIn K (.ref f1) = true)
    (a2 : PySem.W.nsIn K mainGlobals "shown" = some (some (.ref f2))) (l2 : K.lookup f2 = some ⟨oc2, od2, .func (PySem.W.fnOf "shown" "shown" (defArgs s_shown) (defBody s_shown) (defScope s_shown) .none kV2 dc2 pm2 an2 cd2 ct2), sl2⟩) (c2 : PySem.W.codeIn K cd2 "shown" = true) (k2 : PySem.W.keepIn K (.ref f2) = true)
    (a3 : PySem.W.nsIn K mainGlobals "figure_of" = some (some (.ref f3))) (l3 : K.lookup f3 = some ⟨oc3, od3, .func (PySem.W.fnOf "figure_of" "figure_of" (defArgs s_figure_of) (defBody s_figure_of) (defScope s_figure_of) .none kV3 dc3 pm3 an3 cd3 ct3), sl3⟩) (c3 : PySem.W.codeIn K cd3 "figure_of" = true) (k3 : PySem.W.keepIn K (.ref f3) = true)
    (a4 : PySem.W.nsIn K mainGlobals "read" = some (some (.ref f4))) (l4 : K.lookup f4 = some ⟨oc4, od4, .func (PySem.W.fnOf "read" "read" (defArgs s_read) (defBody s_read) (defScope s_read) .none kV4 dc4 pm4 an4 cd4 ct4), sl4⟩) (c4 : PySem.W.codeIn K cd4 "read" = true) (k4 : PySem.W.keepIn K (.ref f4) = true)
    (a5 : PySem.W.nsIn K mainGlobals "_law_cell_at" = some (some (.ref f5))) (l5 : K.lookup f5 = some ⟨oc5, od5, .func (PySem.W.fnOf "_law_cell_at" "_law_cell_at" (defArgs s_l_cell_at) (defBody s_l_cell_at) (defScope s_l_cell_at) .none kV5 dc5 pm5 an5 cd5 ct5), sl5⟩) (c5 : PySem.W.codeIn K cd5 "_law_cell_at" = true) (k5 : PySem.W.keepIn K (.ref f5) = true)
    (a6 : PySem.W.nsIn K mainGlobals "_law_whole" = some (some (.ref f6))) (l6 : K.lookup f6 = some ⟨oc6, od6, .func (PySem.W.fnOf "_law_whole" "_law_whole" (defArgs s_l_whole) (defBody s_l_whole) (defScope s_l_whole) .none kV6 dc6 pm6 an6 cd6 ct6), sl6⟩) (c6 : PySem.W.codeIn K cd6 "_law_whole" = true) (k6 : PySem.W.keepIn K (.ref f6) = true)
    (a7 : PySem.W.nsIn K mainGlobals "_law_calm" = some (some (.ref f7))) (l7 : K.lookup f7 = some ⟨oc7, od7, .func (PySem.W.fnOf "_law_calm" "_law_calm" (defArgs s_l_calm) (defBody s_l_calm) (defScope s_l_calm) .none kV7 dc7 pm7 an7 cd7 ct7), sl7⟩) (c7 : PySem.W.codeIn K cd7 "_law_calm" = true) (k7 : PySem.W.keepIn K (.ref f7) = true)
    (a8 : PySem.W.nsIn K mainGlobals "_law_made_calm" = some (some (.ref f8))) (l8 : K.lookup f8 = some ⟨oc8, od8, .func (PySem.W.fnOf "_law_made_calm" "_law_made_calm" (defArgs s_l_made_calm) (defBody s_l_made_calm) (defScope s_l_made_calm) .none kV8 dc8 pm8 an8 cd8 ct8), sl8⟩) (c8 : PySem.W.codeIn K cd8 "_law_made_calm" = true) (k8 : PySem.W.keepIn K (.ref f8) = true)
    (a9 : PySem.W.nsIn K mainGlobals "_law_row" = some (some (.ref f9))) (l9 : K.lookup f9 = some ⟨oc9, od9, .func (PySem.W.fnOf "_law_row" "_law_row" (defArgs s_l_row) (defBody s_l_row) (defScope s_l_row) .none kV9 dc9 pm9 an9 cd9 ct9), sl9⟩) (c9 : PySem.W.codeIn K cd9 "_law_row" = true) (k9 : PySem.W.keepIn K (.ref f9) = true)
    (a10 : PySem.W.nsIn K mainGlobals "_law_text" = some (some (.ref f10))) (l10 : K.lookup f10 = some ⟨oc10, od10, .func (PySem.W.fnOf "_law_text" "_law_text" (defArgs s_l_text) (defBody s_l_text) (defScope s_l_text) .none kV10 dc10 pm10 an10 cd10 ct10), sl10⟩) (c10 : PySem.W.codeIn K cd10 "_law_text" = true) (k10 : PySem.W.keepIn K (.ref f10) = true)
    (a11 : PySem.W.nsIn K mainGlobals "_law_due" = some (some (.ref f11))) (l11 : K.lookup f11 = some ⟨oc11, od11, .func (PySem.W.fnOf "_law_due" "_law_due" (defArgs s_l_due) (defBody s_l_due) (defScope s_l_due) .none kV11 dc11 pm11 an11 cd11 ct11), sl11⟩) (c11 : PySem.W.codeIn K cd11 "_law_due" = true) (k11 : PySem.W.keepIn K (.ref f11) = true)
    (a12 : PySem.W.nsIn K mainGlobals "_law_sign_by" = some (some (.ref f12))) (l12 : K.lookup f12 = some ⟨oc12, od12, .func (PySem.W.fnOf "_law_sign_by" "_law_sign_by" (defArgs s_l_sign_by) (defBody s_l_sign_by) (defScope s_l_sign_by) .none kV12 dc12 pm12 an12 cd12 ct12), sl12⟩) (c12 : PySem.W.codeIn K cd12 "_law_sign_by" = true) (k12 : PySem.W.keepIn K (.ref f12) = true)
    (a13 : PySem.W.nsIn K mainGlobals "_law_spoiled" = some (some (.ref f13))) (l13 : K.lookup f13 = some ⟨oc13, od13, .func (PySem.W.fnOf "_law_spoiled" "_law_spoiled" (defArgs s_l_spoiled) (defBody s_l_spoiled) (defScope s_l_spoiled) .none kV13 dc13 pm13 an13 cd13 ct13), sl13⟩) (c13 : PySem.W.codeIn K cd13 "_law_spoiled" = true) (k13 : PySem.W.keepIn K (.ref f13) = true)
    (a14 : PySem.W.nsIn K mainGlobals "_law_is_row" = some (some (.ref f14))) (l14 : K.lookup f14 = some ⟨oc14, od14, .func (PySem.W.fnOf "_law_is_row" "_law_is_row" (defArgs s_l_is_row) (defBody s_l_is_row) (defScope s_l_is_row) .none kV14 dc14 pm14 an14 cd14 ct14), sl14⟩) (c14 : PySem.W.codeIn K cd14 "_law_is_row" = true) (k14 : PySem.W.keepIn K (.ref f14) = true)
    (a15 : PySem.W.nsIn K mainGlobals "_law_refused" = some (some (.ref f15))) (l15 : K.lookup f15 = some ⟨oc15, od15, .func (PySem.W.fnOf "_law_refused" "_law_refused" (defArgs s_l_refused) (defBody s_l_refused) (defScope s_l_refused) .none kV15 dc15 pm15 an15 cd15 ct15), sl15⟩) (c15 : PySem.W.codeIn K cd15 "_law_refused" = true) (k15 : PySem.W.keepIn K (.ref f15) = true)
    (a16 : PySem.W.nsIn K mainGlobals "law" = some (some (.ref f16))) (l16 : K.lookup f16 = some ⟨oc16, od16, .func (PySem.W.fnOf "law" "law" (defArgs s_law) (defBody s_law) (defScope s_law) .none kV16 dc16 pm16 an16 cd16 ct16), sl16⟩) (c16 : PySem.W.codeIn K cd16 "law" = true) (k16 : PySem.W.keepIn K (.ref f16) = true)
    (z_ValueError : PySem.W.nsIn K mainGlobals "ValueError" = some none)
    (z_str : PySem.W.nsIn K mainGlobals "str" = some none)
    (z_int : PySem.W.nsIn K mainGlobals "int" = some none)
    (z_list : PySem.W.nsIn K mainGlobals "list" = some none)
    (z_len : PySem.W.nsIn K mainGlobals "len" = some none)
    (z_isinstance : PySem.W.nsIn K mainGlobals "isinstance" = some none)
    (z_reversed : PySem.W.nsIn K mainGlobals "reversed" = some none)
    (z_bool : PySem.W.nsIn K mainGlobals "bool" = some none)
    : ∃ fd : FuncData, (∀ (s : Shared) (v : Value), BindsTo s fd ⟨[v], []⟩ [("_law_script", v)]) ∧ ∀ base : Heap, K.In base → base.Ns mainGlobals mg → FnOk l.prog w K mg base CX0 4 fa fd ["_law_script"] (sp_law K) := by
  have e := hfa.symm.trans (PySem.W.mg_of X G a16)
  cases e
  have F0 := fun_mk (st := s_is_calm) l0 c0 k0
  have b0 := F0.binds (ps := ["row"]) fun _ _ _ _ _ _ us hl => match us, hl with | [_], _ => rfl
  have F1 := fun_mk (st := s_sign_of) l1 c1 k1
  have b1 := F1.binds (ps := ["figure"]) fun _ _ _ _ _ _ us hl => match us, hl with | [_], _ => rfl
  have F2 := fun_mk (st := s_shown) l2 c2 k2
  have b2 := F2.binds (ps := ["row"]) fun _ _ _ _ _ _ us hl => match us, hl with | [_], _ => rfl
  have F3 := fun_mk (st := s_figure_of) l3 c3 k3
  have b3 := F3.binds (ps := ["sign"]) fun _ _ _ _ _ _ us hl => match us, hl with | [_], _ => rfl
  have F4 := fun_mk (st := s_read) l4 c4 k4
  have b4 := F4.binds (ps := ["text"]) fun _ _ _ _ _ _ us hl => match us, hl with | [_], _ => rfl
  have F5 := fun_mk (st := s_l_cell_at) l5 c5 k5
  have b5 := F5.binds (ps := ["_law_script", "_law_k"]) fun _ _ _ _ _ _ us hl => match us, hl with | [_, _], _ => rfl
  have F6 := fun_mk (st := s_l_whole) l6 c6 k6
  have b6 := F6.binds (ps := ["_law_found"]) fun _ _ _ _ _ _ us hl => match us, hl with | [_], _ => rfl
  have F7 := fun_mk (st := s_l_calm) l7 c7 k7
  have b7 := F7.binds (ps := ["_law_row_here"]) fun _ _ _ _ _ _ us hl => match us, hl with | [_], _ => rfl
  have F8 := fun_mk (st := s_l_made_calm) l8 c8 k8
  have b8 := F8.binds (ps := ["_law_figures"]) fun _ _ _ _ _ _ us hl => match us, hl with | [_], _ => rfl
  have F9 := fun_mk (st := s_l_row) l9 c9 k9
  have b9 := F9.binds (ps := ["_law_script"]) fun _ _ _ _ _ _ us hl => match us, hl with | [_], _ => rfl
  have F10 := fun_mk (st := s_l_text) l10 c10 k10
  have b10 := F10.binds (ps := ["_law_row_here"]) fun _ _ _ _ _ _ us hl => match us, hl with | [_], _ => rfl
  have F11 := fun_mk (st := s_l_due) l11 c11 k11
  have b11 := F11.binds (ps := ["_law_line"]) fun _ _ _ _ _ _ us hl => match us, hl with | [_], _ => rfl
  have F12 := fun_mk (st := s_l_sign_by) l12 c12 k12
  have b12 := F12.binds (ps := ["_law_cell"]) fun _ _ _ _ _ _ us hl => match us, hl with | [_], _ => rfl
  have F13 := fun_mk (st := s_l_spoiled) l13 c13 k13
  have b13 := F13.binds (ps := ["_law_line", "_law_way", "_law_sign", "_law_cell"]) fun _ _ _ _ _ _ us hl => match us, hl with | [_, _, _, _], _ => rfl
  have F14 := fun_mk (st := s_l_is_row) l14 c14 k14
  have b14 := F14.binds (ps := ["_law_found", "_law_due_here"]) fun _ _ _ _ _ _ us hl => match us, hl with | [_, _], _ => rfl
  have F15 := fun_mk (st := s_l_refused) l15 c15 k15
  have b15 := F15.binds (ps := ["_law_line"]) fun _ _ _ _ _ _ us hl => match us, hl with | [_], _ => rfl
  have F16 := fun_mk (st := s_law) l16 c16 k16
  have b16 := F16.binds (ps := ["_law_script"]) fun _ _ _ _ _ _ us hl => match us, hl with | [_], _ => rfl
  have T : Tx K mg ⟨f0, f1, f2, f3, f4, f5, f6, f7, f8, f9, f10, f11, f12, f13, f14, f15, fa, C_CountError, C_NotCalm, C_NoPlace, C_NothingDone, C_NoText⟩ ⟨_, _, _, _, _, _, _, _, _, _, _, _, _, _, _, _, _⟩ := ⟨F0, b0, PySem.W.mg_of X G a0, F1, b1, PySem.W.mg_of X G a1, F2, b2, PySem.W.mg_of X G a2, F3, b3, PySem.W.mg_of X G a3, F4, b4, PySem.W.mg_of X G a4, F5, b5, PySem.W.mg_of X G a5, F6, b6, PySem.W.mg_of X G a6, F7, b7, PySem.W.mg_of X G a7, F8, b8, PySem.W.mg_of X G a8, F9, b9, PySem.W.mg_of X G a9, F10, b10, PySem.W.mg_of X G a10, F11, b11, PySem.W.mg_of X G a11, F12, b12, PySem.W.mg_of X G a12, F13, b13, PySem.W.mg_of X G a13, F14, b14, PySem.W.mg_of X G a14, F15, b15, PySem.W.mg_of X G a15, F16, b16, PySem.W.mg_of X G a16, PySem.W.mg_of X G gc_CountError, PySem.W.mg_of X G gc_NotCalm, PySem.W.mg_of X G gc_NoPlace, PySem.W.mg_of X G gc_NothingDone, PySem.W.mg_of X G gc_NoText, xc_NotCalm, kc_NotCalm, sx_NotCalm, tx_NotCalm, ga_NotCalm, gt_NotCalm, hx_NotCalm, cx_NotCalm, mx_NotCalm, su_NotCalm_CountError, su_NotCalm_NoText, ne_NotCalm_NoText, su_NotCalm_NothingDone, ne_NotCalm_NothingDone, su_NotCalm_NoPlace, ne_NotCalm_NoPlace, su_NotCalm_ValueError, xc_NoText, kc_NoText, sx_NoText, tx_NoText, ga_NoText, gt_NoText, hx_NoText, cx_NoText, mx_NoText, su_NoText_CountError, su_NoText_NoText, su_NoText_NothingDone, ne_NoText_NothingDone, su_NoText_NotCalm, ne_NoText_NotCalm, su_NoText_NoPlace, ne_NoText_NoPlace, su_NoText_ValueError, hc_CountError, ty_CountError, hc_NoText, ty_NoText, hc_NothingDone, ty_NothingDone, hc_NotCalm, ty_NotCalm, hc_NoPlace, ty_NoPlace, bs_CountError, bs_NoText, sp_class, tk_class, PySem.W.exm_ref bs_CountError hc_CountError ty_CountError su_NotCalm_CountError, PySem.W.exm_ref bs_NoText hc_NoText ty_NoText su_NotCalm_NoText, kit_ref ne_NotCalm_NothingDone hc_NothingDone ty_NothingDone su_NotCalm_NothingDone, kit_refT (by decide +kernel) su_NotCalm_ValueError, kit_self, kit_ref ne_NotCalm_NoPlace hc_NoPlace ty_NoPlace su_NotCalm_NoPlace, kit_ref ne_NotCalm_NoText hc_NoText ty_NoText su_NotCalm_NoText, PySem.W.exm_ref bs_CountError hc_CountError ty_CountError su_NoText_CountError, PySem.W.exm_ref bs_NoText hc_NoText ty_NoText su_NoText_NoText, kit_ref ne_NoText_NothingDone hc_NothingDone ty_NothingDone su_NoText_NothingDone, kit_refT (by decide +kernel) su_NoText_ValueError, kit_ref ne_NoText_NotCalm hc_NotCalm ty_NotCalm su_NoText_NotCalm, kit_ref ne_NoText_NoPlace hc_NoPlace ty_NoPlace su_NoText_NoPlace, kit_self, PySem.W.mg_none_of X G z_ValueError, PySem.W.mg_none_of X G z_str, PySem.W.mg_none_of X G z_int, PySem.W.mg_none_of X G z_list, PySem.W.mg_none_of X G z_len, PySem.W.mg_none_of X G z_isinstance, PySem.W.mg_none_of X G z_reversed, PySem.W.mg_none_of X G z_bool⟩
  exact ⟨_, fun s v => .of_eq rfl, fun base _ _ => ok_law T⟩
end Kg
open PySem PySem.W PyProof.Rows
set_option maxHeartbeats 0 in
theorem PySem.Challenge.cw_calmcount_k07_written_and_read_holds : PySem.Challenge.rw_calmcount_k07_written_and_read.Holds := by
  w_on; o_law; k_head; (case hw => w_witness2)
  k_fill
  refine L2.walk_of (l := PySem.Challenge.rw_calmcount_k07_written_and_read) (n := 63) (k := 4) (x := "_law_script") (CX := fun _ => L2.CX0) (sp := fun w => Kg.sp_law _) rfl (by decide) rfl ⟨rfl, by decide, by decide⟩ (fun w h Y => PySem.W.kIn_of Y) ?F (fun _ _ a ns hl _ hS => Kg.start_law hl hS) (fun _ _ _ _ _ h => h)
  case F =>
    intro w mg fa h KX G hmg
    refine' Kg.all_mk KX G hmg ?gc_CountError ?gc_NotCalm ?gc_NoPlace ?gc_NothingDone ?gc_NoText ?xc_NotCalm ?kc_NotCalm ?sx_NotCalm ?tx_NotCalm ?ga_NotCalm ?gt_NotCalm ?hx_NotCalm ?cx_NotCalm ?mx_NotCalm ?su_NotCalm_CountError ?su_NotCalm_NoText ?ne_NotCalm_NoText ?su_NotCalm_NothingDone ?ne_NotCalm_NothingDone ?su_NotCalm_NoPlace ?ne_NotCalm_NoPlace ?su_NotCalm_ValueError ?xc_NoText ?kc_NoText ?sx_NoText ?tx_NoText ?ga_NoText ?gt_NoText ?hx_NoText ?cx_NoText ?mx_NoText ?su_NoText_CountError ?su_NoText_NoText ?su_NoText_NothingDone ?ne_NoText_NothingDone ?su_NoText_NotCalm ?ne_NoText_NotCalm ?su_NoText_NoPlace ?ne_NoText_NoPlace ?su_NoText_ValueError ?hc_CountError ?ty_CountError ?hc_NoText ?ty_NoText ?hc_NothingDone ?ty_NothingDone ?hc_NotCalm ?ty_NotCalm ?hc_NoPlace ?ty_NoPlace ?bs_CountError ?bs_NoText ?sp_class ?tk_class ?a0 ?l0 ?c0 ?k0 ?a1 ?l1 ?c1 ?k1 ?a2 ?l2 ?c2 ?k2 ?a3 ?l3 ?c3 ?k3 ?a4 ?l4 ?c4 ?k4 ?a5 ?l5 ?c5 ?k5 ?a6 ?l6 ?c6 ?k6 ?a7 ?l7 ?c7 ?k7 ?a8 ?l8 ?c8 ?k8 ?a9 ?l9 ?c9 ?k9 ?a10 ?l10 ?c10 ?k10 ?a11 ?l11 ?c11 ?k11 ?a12 ?l12 ?c12 ?k12 ?a13 ?l13 ?c13 ?k13 ?a14 ?l14 ?c14 ?k14 ?a15 ?l15 ?c15 ?k15 ?a16 ?l16 ?c16 ?k16 ?z_ValueError ?z_str ?z_int ?z_list ?z_len ?z_isinstance ?z_reversed ?z_bool
    (case gc_CountError => k_is)
    (case gc_NotCalm => k_is)
    (case gc_NoPlace => k_is)
    (case gc_NothingDone => k_is)
    (case gc_NoText => k_is)
    (case xc_NotCalm => k_exc)
    (case kc_NotCalm => k_is)
    (case sx_NotCalm => k_is)
    (case tx_NotCalm => k_is)
    (case ga_NotCalm => k_is)
    (case gt_NotCalm => k_is)
    (case hx_NotCalm => k_is)
    (case cx_NotCalm => k_is)
    (case mx_NotCalm => k_is)
    (case su_NotCalm_CountError => k_is)
    (case su_NotCalm_NoText => k_is)
    (case ne_NotCalm_NoText => decide)
    (case su_NotCalm_NothingDone => k_is)
    (case ne_NotCalm_NothingDone => decide)
    (case su_NotCalm_NoPlace => k_is)
    (case ne_NotCalm_NoPlace => decide)
    (case su_NotCalm_ValueError => k_is)
    (case xc_NoText => k_exc)
    (case kc_NoText => k_is)
    (case sx_NoText => k_is)
    (case tx_NoText => k_is)
    (case ga_NoText => k_is)
    (case gt_NoText => k_is)
    (case hx_NoText => k_is)
    (case cx_NoText => k_is)
    (case mx_NoText => k_is)
    (case su_NoText_CountError => k_is)
    (case su_NoText_NoText => k_is)
    (case su_NoText_NothingDone => k_is)
    (case ne_NoText_NothingDone => decide)
    (case su_NoText_NotCalm => k_is)
    (case ne_NoText_NotCalm => decide)
    (case su_NoText_NoPlace => k_is)
    (case ne_NoText_NoPlace => decide)
    (case su_NoText_ValueError => k_is)
    (case hc_CountError => k_is)
    (case ty_CountError => k_is)
    (case hc_NoText => k_is)
    (case ty_NoText => k_is)
    (case hc_NothingDone => k_is)
    (case ty_NothingDone => k_is)
    (case hc_NotCalm => k_is)
    (case ty_NotCalm => k_is)
    (case hc_NoPlace => k_is)
    (case ty_NoPlace => k_is)
    (case bs_CountError => k_is)
    (case bs_NoText => k_is)
    (case sp_class => k_is)
    (case tk_class => k_is)
    (case a0 => k_is)
    (case l0 => k_is)
    (case c0 => k_is)
    (case k0 => k_is)
    (case a1 => k_is)
    (case l1 => k_is)
    (case c1 => k_is)
    (case k1 => k_is)
    (case a2 => k_is)
    (case l2 => k_is)
    (case c2 => k_is)
    (case k2 => k_is)
    (case a3 => k_is)
    (case l3 => k_is)
    (case c3 => k_is)
    (case k3 => k_is)
    (case a4 => k_is)
    (case l4 => k_is)
    (case c4 => k_is)
    (case k4 => k_is)
    (case a5 => k_is)
    (case l5 => k_is)
    (case c5 => k_is)
    (case k5 => k_is)
    (case a6 => k_is)
    (case l6 => k_is)
    (case c6 => k_is)
    (case k6 => k_is)
    (case a7 => k_is)
    (case l7 => k_is)
    (case c7 => k_is)
    (case k7 => k_is)
    (case a8 => k_is)
    (case l8 => k_is)
    (case c8 => k_is)
    (case k8 => k_is)
    (case a9 => k_is)
    (case l9 => k_is)
    (case c9 => k_is)
    (case k9 => k_is)
    (case a10 => k_is)
    (case l10 => k_is)
    (case c10 => k_is)
    (case k10 => k_is)
    (case a11 => k_is)
    (case l11 => k_is)
    (case c11 => k_is)
    (case k11 => k_is)
    (case a12 => k_is)
    (case l12 => k_is)
    (case c12 => k_is)
    (case k12 => k_is)
    (case a13 => k_is)
    (case l13 => k_is)
    (case c13 => k_is)
    (case k13 => k_is)
    (case a14 => k_is)
    (case l14 => k_is)
    (case c14 => k_is)
    (case k14 => k_is)
    (case a15 => k_is)
    (case l15 => k_is)
    (case c15 => k_is)
    (case k15 => k_is)
    (case a16 => k_is)
    (case l16 => k_is)
    (case c16 => k_is)
    (case k16 => k_is)
    (case z_ValueError => k_is)
    (case z_str => k_is)
    (case z_int => k_is)
    (case z_list => k_is)
    (case z_len => k_is)
    (case z_isinstance => k_is)
    (case z_reversed => k_is)
    (case z_bool => k_is)
