import PyProof.Rows.All
import HandS.ForMost
import HandS.Exc
import HandS.ExcOwn
import HandS.WordsExc
import HandS.CallSlots
import HandS.Defaults
import HandS.TupAny
import HandS.More
import HandS.Small
import HandS.Style
import HandS.DictComp
import PyProof.Draws
import HandS.Iter
import KE.GoesMore
import KE.GoesEnum
import HandS.List
import HandS.Text
import HandS.FStr
import HandS.IsInst
import HandS.WordsDict
import HandS.SlotsOwn
import HandS.Deep
import KE.KCallOwn
import KE.KFmtOwn
import PyProof.ReprRoads
import PyProof.StrOps2
import PyProof.Rows.CountFlat
import HandS.Dict
import HandS.TupLe
import HandS.MakeKwOnly
import PyProof.InstEq
import PyProof.Rows.RegFStrParts
import HandS.Ends
import HandS.HeadEnd
import PySem.Challenge.RW_bankfolk_k01_companies_told
import KE.BitLaws
import KE.OsArith
import HandS.Head0
import HandS.Head1
import HandS.Head2
import HandS.HeadHook1
import HandS.HeadHook2
import HandS.HeadHook4
import HandS.Words
set_option Elab.async false
set_option linter.all false
set_option maxRecDepth 100000
set_option maxHeartbeats 0
/-! ZBase: deep values D, the store of mutable objects, worlds, what stands for what; judgements in passing-on style. -/
namespace Z
open PySem L2

/-- a deep value: what does not change any more, or a handle of the store -/
inductive D where
  | non | bl (b : Bool) | int (i : Int) | str (x : Str)
  | tup (l : List D) | lst (l : List D) | kls (l : List D) | dic (l : List (Key × D)) | ins (C : Addr) (l : List (Key × D))
  | hnd (n : Nat) | ref (a : Addr) | ty (n : String)

/-- what a mutable object holds -/
inductive C where
  | lst (l : List D) | dic (l : List (Key × D)) | ins (C : Addr) (l : List (Key × D)) | abs (p : List D → Prop) | dead
abbrev Store := List C
/-- where handles stand, how many there are, what is frozen -/
structure Wd where
  rho : Nat → Addr
  n : Nat
  hs : Hp

section
variable (K : PySem.W.Frag)
mutual
def Rep (w : Wd) : D → V → Prop
  | .non, v => v = .non
  | .bl b, v => v = .bl b
  | .int i, v => v = .int i
  | .str x, v => v = .str x
  | .tup l, v => ∃ a xs, v = .ref a ∧ SqT K w.hs a xs ∧ RepL w l xs
  | .lst l, v => ∃ a xs, v = .ref a ∧ w.hs a = some (.lst xs) ∧ RepL w l xs
  | .kls l, v => ∃ a xs, v = .ref a ∧ SqL K w.hs a xs ∧ RepL w l xs
  | .dic l, v => ∃ a kvs, v = .ref a ∧ w.hs a = some (.dK kvs) ∧ RepK w l kvs
  | .ins C l, v => ∃ a dx fs, v = .ref a ∧ w.hs a = some (.ins C dx fs) ∧ RepK w l (fs.map fun p => (.inr p.1, p.2))
  | .hnd n, v => n < w.n ∧ v = .ref (w.rho n)
  | .ref a, v => v = .ref a
  | .ty n, v => v = .ty n
def RepL (w : Wd) : List D → List V → Prop
  | [], ys => ys = []
  | d :: l, ys => ∃ y r, ys = y :: r ∧ Rep w d y ∧ RepL w l r
def RepK (w : Wd) : List (Key × D) → List (Key × V) → Prop
  | [], ys => ys = []
  | (k, d) :: l, ys => ∃ y r, ys = (k, y) :: r ∧ Rep w d y ∧ RepK w l r
end

structure Wd.le (w w' : Wd) : Prop where
  n : w.n ≤ w'.n
  rho : ∀ m, m < w.n → w'.rho m = w.rho m
  hs : ∀ a o, w.hs a = some o → w'.hs a = some o
theorem Wd.le.refl (w : Wd) : w.le w := ⟨Nat.le_refl _, fun _ _ => rfl, fun _ _ h => h⟩
theorem Wd.le.trans {a b c : Wd} (h : a.le b) (k : b.le c) : a.le c := ⟨Nat.le_trans h.n k.n, fun m hm => (k.rho m (Nat.lt_of_lt_of_le hm h.n)).trans (h.rho m hm), fun x o e => k.hs x o (h.hs x o e)⟩

variable {K}
theorem SqT.le {w w' : Wd} (h : w.le w') {a : Addr} {xs : List V} (e : SqT K w.hs a xs) : SqT K w'.hs a xs := by
  rcases e with (e | ⟨o, e⟩) | e
  · exact .inl (.inl (h.hs _ _ e))
  · exact .inl (.inr ⟨o, h.hs _ _ e⟩)
  · exact .inr e
theorem SqL.le {w w' : Wd} (h : w.le w') {a : Addr} {xs : List V} (e : SqL K w.hs a xs) : SqL K w'.hs a xs := by
  rcases e with (e | ⟨o, e⟩) | e
  · exact .inl (.inl (h.hs _ _ e))
  · exact .inl (.inr ⟨o, h.hs _ _ e⟩)
  · exact .inr e
mutual
theorem Rep.le {w w' : Wd} (h : w.le w') : ∀ (d : D) {v : V}, Rep K w d v → Rep K w' d v
  | .non, v, e => by simpa only [Rep] using e
  | .bl b, v, e => by simpa only [Rep] using e
  | .int i, v, e => by simpa only [Rep] using e
  | .str x, v, e => by simpa only [Rep] using e
  | .tup l, v, e => by
    simp only [Rep] at e ⊢
    obtain ⟨a, xs, e1, e2, e3⟩ := e
    exact ⟨a, xs, e1, SqT.le h e2, RepL.le h l e3⟩
  | .lst l, v, e => by
    simp only [Rep] at e ⊢
    obtain ⟨a, xs, e1, e2, e3⟩ := e
    exact ⟨a, xs, e1, h.hs _ _ e2, RepL.le h l e3⟩
  | .kls l, v, e => by
    simp only [Rep] at e ⊢
    obtain ⟨a, xs, e1, e2, e3⟩ := e
    exact ⟨a, xs, e1, SqL.le h e2, RepL.le h l e3⟩
  | .dic l, v, e => by
    simp only [Rep] at e ⊢
    obtain ⟨a, xs, e1, e2, e3⟩ := e
    exact ⟨a, xs, e1, h.hs _ _ e2, RepK.le h l e3⟩
  | .ins C l, v, e => by
    simp only [Rep] at e ⊢
    obtain ⟨a, dx, xs, e1, e2, e3⟩ := e
    exact ⟨a, dx, xs, e1, h.hs _ _ e2, RepK.le h l e3⟩
  | .hnd n, v, e => by
    simp only [Rep] at e ⊢
    exact ⟨Nat.lt_of_lt_of_le e.1 h.n, by rw [h.rho n e.1]; exact e.2⟩
  | .ref a, v, e => by simpa only [Rep] using e
  | .ty n, v, e => by simpa only [Rep] using e
theorem RepL.le {w w' : Wd} (h : w.le w') : ∀ (l : List D) {ys : List V}, RepL K w l ys → RepL K w' l ys
  | [], ys, e => by simpa only [RepL] using e
  | d :: l, ys, e => by
    simp only [RepL] at e ⊢
    obtain ⟨y, r, e1, e2, e3⟩ := e
    exact ⟨y, r, e1, Rep.le h d e2, RepL.le h l e3⟩
theorem RepK.le {w w' : Wd} (h : w.le w') : ∀ (l : List (Key × D)) {ys : List (Key × V)}, RepK K w l ys → RepK K w' l ys
  | [], ys, e => by simpa only [RepK] using e
  | (k, d) :: l, ys, e => by
    simp only [RepK] at e ⊢
    obtain ⟨y, r, e1, e2, e3⟩ := e
    exact ⟨y, r, e1, Rep.le h d e2, RepK.le h l e3⟩
end

/-! ### lists of values -/
theorem RepL.nil {w : Wd} : RepL K w [] [] := by simp only [RepL]
theorem RepL.cons {w : Wd} {d : D} {v : V} {l : List D} {r : List V} (h : Rep K w d v) (t : RepL K w l r) : RepL K w (d :: l) (v :: r) := by
  simp only [RepL]
  exact ⟨v, r, rfl, h, t⟩
theorem RepL.length {w : Wd} : ∀ {l : List D} {ys : List V}, RepL K w l ys → ys.length = l.length
  | [], ys, e => by simp only [RepL] at e; rw [e]; rfl
  | d :: l, ys, e => by
    simp only [RepL] at e
    obtain ⟨y, r, e1, e2, e3⟩ := e
    rw [e1, List.length_cons, List.length_cons, e3.length]
theorem RepL.get {w : Wd} : ∀ {l : List D} {ys : List V} {i : Nat} {d : D}, RepL K w l ys → l[i]? = some d → ∃ v, ys[i]? = some v ∧ Rep K w d v
  | [], _, _, _, _, h => by simp at h
  | d :: l, ys, i, d', e, h => by
    simp only [RepL] at e
    obtain ⟨y, r, e1, e2, e3⟩ := e
    subst e1
    cases i with
    | zero =>
      simp at h
      subst h
      exact ⟨y, rfl, e2⟩
    | succ i => exact RepL.get (i := i) e3 (by simpa using h)
theorem RepL.getV {w : Wd} : ∀ {l : List D} {ys : List V} {i : Nat} {v : V}, RepL K w l ys → ys[i]? = some v → ∃ d, l[i]? = some d ∧ Rep K w d v
  | [], ys, _, _, e, h => by simp only [RepL] at e; subst e; simp at h
  | d :: l, ys, i, v, e, h => by
    simp only [RepL] at e
    obtain ⟨y, r, e1, e2, e3⟩ := e
    subst e1
    cases i with
    | zero =>
      simp at h
      subst h
      exact ⟨d, rfl, e2⟩
    | succ i => exact RepL.getV (i := i) e3 (by simpa using h)
theorem RepL.append {w : Wd} : ∀ {l m : List D} {ys zs : List V}, RepL K w l ys → RepL K w m zs → RepL K w (l ++ m) (ys ++ zs)
  | [], m, ys, zs, e, f => by simp only [RepL] at e; subst e; exact f
  | d :: l, m, ys, zs, e, f => by
    simp only [RepL] at e
    obtain ⟨y, r, e1, e2, e3⟩ := e
    subst e1
    exact .cons e2 (RepL.append e3 f)
theorem RepL.take {w : Wd} : ∀ {l : List D} {ys : List V} (n : Nat), RepL K w l ys → RepL K w (l.take n) (ys.take n)
  | l, ys, 0, e => by rw [List.take_zero, List.take_zero]; exact .nil
  | [], ys, n + 1, e => by simp only [RepL] at e; subst e; exact .nil
  | d :: l, ys, n + 1, e => by
    simp only [RepL] at e
    obtain ⟨y, r, e1, e2, e3⟩ := e
    subst e1
    exact .cons e2 (RepL.take n e3)
theorem RepL.drop {w : Wd} : ∀ {l : List D} {ys : List V} (n : Nat), RepL K w l ys → RepL K w (l.drop n) (ys.drop n)
  | l, ys, 0, e => e
  | [], ys, n + 1, e => by simp only [RepL] at e; subst e; exact .nil
  | d :: l, ys, n + 1, e => by
    simp only [RepL] at e
    obtain ⟨y, r, e1, e2, e3⟩ := e
    subst e1
    exact RepL.drop n e3
theorem RepL.set {w : Wd} {d : D} {v : V} (h : Rep K w d v) : ∀ {l : List D} {ys : List V} (i : Nat), RepL K w l ys → RepL K w (l.set i d) (ys.set i v)
  | [], ys, i, e => by simp only [RepL] at e; subst e; exact .nil
  | d :: l, ys, i, e => by
    simp only [RepL] at e
    obtain ⟨y, r, e1, e2, e3⟩ := e
    subst e1
    cases i with
    | zero => exact .cons h e3
    | succ i => exact .cons e2 (RepL.set h i e3)
/-- ints, texts by their values -/
theorem RepL.ints {w : Wd} : ∀ {ns : List Int} {ys : List V}, RepL K w (ns.map D.int) ys → ys = ns.map V.int
  | [], ys, e => by simpa only [RepL, List.map_nil] using e
  | n :: ns, ys, e => by
    simp only [RepL, List.map_cons, Rep] at e
    obtain ⟨y, r, e1, e2, e3⟩ := e
    rw [e1, e2, RepL.ints e3]
    rfl
theorem RepL.ofInts {w : Wd} : ∀ (ns : List Int), RepL K w (ns.map D.int) (ns.map V.int)
  | [] => .nil
  | n :: ns => .cons (by simp only [Rep]) (RepL.ofInts ns)
theorem RepL.strs {w : Wd} : ∀ {ns : List Str} {ys : List V}, RepL K w (ns.map D.str) ys → ys = ns.map V.str
  | [], ys, e => by simpa only [RepL, List.map_nil] using e
  | n :: ns, ys, e => by
    simp only [RepL, List.map_cons, Rep] at e
    obtain ⟨y, r, e1, e2, e3⟩ := e
    rw [e1, e2, RepL.strs e3]
    rfl
theorem RepL.ofStrs {w : Wd} : ∀ (ns : List Str), RepL K w (ns.map D.str) (ns.map V.str)
  | [] => .nil
  | n :: ns => .cons (by simp only [Rep]) (RepL.ofStrs ns)
theorem RepL.bls {w : Wd} : ∀ {ns : List Bool} {ys : List V}, RepL K w (ns.map D.bl) ys → ys = ns.map V.bl
  | [], ys, e => by simpa only [RepL, List.map_nil] using e
  | n :: ns, ys, e => by
    simp only [RepL, List.map_cons, Rep] at e
    obtain ⟨y, r, e1, e2, e3⟩ := e
    rw [e1, e2, RepL.bls e3]
    rfl
theorem RepL.ofBls {w : Wd} : ∀ (ns : List Bool), RepL K w (ns.map D.bl) (ns.map V.bl)
  | [] => .nil
  | n :: ns => .cons (by simp only [Rep]) (RepL.ofBls ns)

/-! ### scopes of handles -/
mutual
def D.sc (n : Nat) : D → Prop
  | .tup l => scL n l
  | .lst l => scL n l
  | .kls l => scL n l
  | .dic l => scK n l
  | .ins _ l => scK n l
  | .hnd m => m < n
  | .non => True | .bl _ => True | .int _ => True | .str _ => True | .ref _ => True | .ty _ => True
def scL (n : Nat) : List D → Prop
  | [] => True
  | d :: l => d.sc n ∧ scL n l
def scK (n : Nat) : List (Key × D) → Prop
  | [] => True
  | (_, d) :: l => d.sc n ∧ scK n l
end
def C.sc (n : Nat) : C → Prop
  | .lst l => scL n l
  | .dic l => scK n l
  | .ins _ l => scK n l
  | .abs _ => True
  | .dead => True
/-! ### the state -/
variable (K)
def RepC (w : Wd) (H : Hp) (a : Addr) : C → Prop
  | .lst l => w.hs a = none ∧ ∃ xs, H a = some (.lst xs) ∧ RepL K w l xs
  | .dic l => w.hs a = none ∧ ∃ kvs, H a = some (.dK kvs) ∧ RepK K w l kvs
  | .ins C l => w.hs a = none ∧ ∃ dx fs, H a = some (.ins C dx fs) ∧ RepK K w l (fs.map fun p => (.inr p.1, p.2))
  | .abs p => w.hs a = none ∧ ∃ l, (p l ∧ ∀ n, scL n l) ∧ ∃ xs, H a = some (.lst xs) ∧ RepL K w l xs
  | .dead => True
def C.live : C → Prop
  | .dead => False
  | _ => True
structure RS (w : Wd) (H : Hp) (S : Store) : Prop where
  ex : ∀ a o, w.hs a = some o → H a = some o
  n : w.n = S.length
  inj : ∀ m n c c', S[m]? = some c → S[n]? = some c' → c.live → c'.live → w.rho m = w.rho n → m = n
  at_ : ∀ n c, S[n]? = some c → RepC K w H (w.rho n) c
abbrev Env := List (Option D)
structure RepE (w : Wd) (δ : Env) (σ : L2.St) : Prop where
  len : σ.length = δ.length
  at_ : ∀ (i : Nat) (d : D), δ[i]? = some (some d) → ∃ v, σ[i]? = some (some v) ∧ Rep K w d v
variable {K}
theorem RepE.le {w w' : Wd} (h : w.le w') {δ : Env} {σ : L2.St} (r : RepE K w δ σ) : RepE K w' δ σ := ⟨r.len, fun i d e => by
  obtain ⟨v, e1, e2⟩ := r.at_ i d e
  exact ⟨v, e1, Rep.le h d e2⟩⟩
theorem RepE.set {w : Wd} {δ : Env} {σ : L2.St} (r : RepE K w δ σ) (i : Nat) {d : D} {v : V} (h : Rep K w d v) : RepE K w (δ.set i (some d)) (σ.set i (some v)) := by
  refine ⟨by rw [List.length_set, List.length_set]; exact r.len, fun j d' e => ?_⟩
  by_cases hj : i = j
  · subst hj
    by_cases hl : i < δ.length
    · rw [List.getElem?_set_self hl] at e
      cases e
      exact ⟨v, List.getElem?_set_self (by rw [r.len]; exact hl), h⟩
    · rw [List.getElem?_eq_none (by rw [List.length_set]; omega)] at e
      cases e
  · rw [List.getElem?_set_ne hj] at e
    rw [List.getElem?_set_ne hj]
    exact r.at_ j d' e
theorem RepE.setNone {w : Wd} {δ : Env} {σ : L2.St} (r : RepE K w δ σ) (i : Nat) : RepE K w (δ.set i none) (σ.set i none) := by
  refine ⟨by rw [List.length_set, List.length_set]; exact r.len, fun j d' e => ?_⟩
  by_cases hj : i = j
  · subst hj
    by_cases hl : i < δ.length
    · rw [List.getElem?_set_self hl] at e
      cases e
    · rw [List.getElem?_eq_none (by rw [List.length_set]; omega)] at e
      cases e
  · rw [List.getElem?_set_ne hj] at e
    rw [List.getElem?_set_ne hj]
    exact r.at_ j d' e
/-- an env that knows less -/
theorem RepE.less {w : Wd} {δ δ' : Env} {σ : L2.St} (r : RepE K w δ σ) (hl : δ'.length = δ.length) (h : ∀ (i : Nat) (d : D), δ'[i]? = some (some d) → δ[i]? = some (some d)) : RepE K w δ' σ :=
  ⟨r.len.trans hl.symm, fun i d e => r.at_ i d (h i d e)⟩
def wipeE (δ : Env) : List Nat → Env
  | [] => δ
  | v :: vs => (wipeE δ vs).set v none
theorem RepE.wipe {w : Wd} {δ : Env} {σ : L2.St} (r : RepE K w δ σ) : ∀ vs : List Nat, RepE K w (wipeE δ vs) (L2.wipe σ vs)
  | [] => r
  | v :: vs => (RepE.wipe r vs).setNone v
theorem RepE.start {w : Wd} {ds : List D} {vs : List V} (N : List Str) (r : RepL K w ds vs) : RepE K w (ds.map some ++ List.replicate (N.length - ds.length) none) (L2.start N vs) := by
  have hl := r.length
  unfold L2.start
  refine ⟨by simp [hl], fun i d e => ?_⟩
  by_cases hi : i < ds.length
  · rw [List.getElem?_append_left (by simpa using hi), List.getElem?_map] at e
    cases h : ds[i]? with
    | none => rw [h] at e; cases e
    | some d' =>
      rw [h] at e
      cases e
      obtain ⟨v, h1, h2⟩ := r.get h
      exact ⟨v, by rw [List.getElem?_append_left (by simp [hl]; exact hi), List.getElem?_map, h1]; rfl, h2⟩
  · rw [List.getElem?_append_right (by simpa using hi), List.getElem?_replicate] at e
    split at e <;> cases e

/-! ### the moves of the state -/
def Wd.frz (w : Wd) (p : Addr) (o : HO) : Wd := { w with hs := upd w.hs p o }
def Wd.add (w : Wd) (p : Addr) : Wd := { w with rho := fun m => if m = w.n then p else w.rho m, n := w.n + 1 }
theorem RS.fresh {w : Wd} {H : Hp} {S : Store} (r : RS K w H S) {p : Addr} (h : H p = none) : w.hs p = none := by
  cases e : w.hs p with
  | none => rfl
  | some o => rw [r.ex p o e] at h; cases h
theorem le_frz {w : Wd} {p : Addr} {o : HO} (h : w.hs p = none) : w.le (w.frz p o) := ⟨Nat.le_refl _, fun _ _ => rfl, fun a u e => by
  show upd w.hs p o a = some u
  rw [upd_ne (ne_of_none e h)]
  exact e⟩
theorem le_add {w : Wd} {p : Addr} : w.le (w.add p) := ⟨Nat.le_succ _, fun m hm => by
  show (if m = w.n then p else w.rho m) = w.rho m
  rw [if_neg (Nat.ne_of_lt hm)], fun _ _ e => e⟩
theorem RepC.move {w w' : Wd} {H H' : Hp} {a : Addr} (h : w.le w') (hn : w'.hs a = none) (hH : ∀ o, H a = some o → H' a = some o) : ∀ {c : C}, RepC K w H a c → RepC K w' H' a c
  | .lst l, ⟨_, xs, e1, e2⟩ => ⟨hn, xs, hH _ e1, RepL.le h l e2⟩
  | .dic l, ⟨_, xs, e1, e2⟩ => ⟨hn, xs, hH _ e1, RepK.le h l e2⟩
  | .ins C l, ⟨_, dx, xs, e1, e2⟩ => ⟨hn, dx, xs, hH _ e1, RepK.le h l e2⟩
  | .abs p, ⟨_, l, pl, xs, e1, e2⟩ => ⟨hn, l, pl, xs, hH _ e1, RepL.le h l e2⟩
  | .dead, _ => True.intro
theorem RepC.hs {w : Wd} {H : Hp} {a : Addr} : ∀ {c : C}, c.live → RepC K w H a c → w.hs a = none
  | .lst l, _, h => h.1
  | .dic l, _, h => h.1
  | .ins C l, _, h => h.1
  | .abs p, _, h => h.1
  | .dead, z, _ => z.elim
theorem RepC.some {w : Wd} {H : Hp} {a : Addr} : ∀ {c : C}, c.live → RepC K w H a c → ∃ o, H a = some o
  | .lst l, _, ⟨_, xs, e1, e2⟩ => ⟨_, e1⟩
  | .dic l, _, ⟨_, xs, e1, e2⟩ => ⟨_, e1⟩
  | .ins C l, _, ⟨_, dx, xs, e1, e2⟩ => ⟨_, e1⟩
  | .abs p, _, ⟨_, l, pl, xs, e1, e2⟩ => ⟨_, e1⟩
  | .dead, z, _ => z.elim
theorem C.live_or : ∀ c : C, c.live ∨ c = .dead
  | .lst l => .inl trivial
  | .dic l => .inl trivial
  | .ins C l => .inl trivial
  | .abs p => .inl trivial
  | .dead => .inr rfl
/-- a new object, frozen at once -/
theorem RS.newF {w : Wd} {H : Hp} {S : Store} (r : RS K w H S) {p : Addr} (o : HO) (h : H p = none) : RS K (w.frz p o) (upd H p o) S where
  ex := fun a u e => by
    have e : upd w.hs p o a = some u := e
    by_cases hp : a = p
    · subst hp
      rw [upd_same] at e ⊢
      exact e
    · rw [upd_ne hp] at e ⊢
      exact r.ex a u e
  n := r.n
  inj := r.inj
  at_ := fun n c e => by
    have z := r.at_ n c e
    rcases C.live_or c with l | l
    · obtain ⟨u, hu⟩ := RepC.some l z
      have ne : w.rho n ≠ p := ne_of_none hu h
      refine RepC.move (le_frz (r.fresh h)) ?_ (fun u hu => by rw [upd_ne (ne_of_none hu h)]; exact hu) z
      show upd w.hs p o (w.rho n) = none
      rw [upd_ne ne]
      exact RepC.hs l z
    · subst l
      exact True.intro
/-- a new mutable object -/
theorem RS.newH {w : Wd} {H : Hp} {S : Store} (r : RS K w H S) {p : Addr} {o : HO} {c : C} (h : H p = none) (hc : RepC K (w.add p) (upd H p o) p c) : RS K (w.add p) (upd H p o) (S ++ [c]) where
  ex := fun a u e => by
    have e : w.hs a = some u := e
    rw [upd_ne (ne_of_none (r.ex a u e) h)]
    exact r.ex a u e
  n := by
    show w.n + 1 = (S ++ [c]).length
    rw [List.length_append, r.n]
    rfl
  inj := fun m n c1 c2 e1 e2 l1 l2 e => by
    have key : ∀ (m : Nat) (c1 : C), (S ++ [c])[m]? = some c1 → (m < S.length ∧ S[m]? = some c1 ∧ (w.add p).rho m = w.rho m) ∨ (m = S.length ∧ (w.add p).rho m = p) := fun m c1 e1 => by
      by_cases hm : m < S.length
      · rw [List.getElem?_append_left hm] at e1
        exact .inl ⟨hm, e1, by show (if m = w.n then p else w.rho m) = w.rho m; rw [if_neg (by rw [r.n]; omega)]⟩
      · rw [List.getElem?_append_right (by omega)] at e1
        have : m - S.length = 0 := by
          cases q : m - S.length with
          | zero => rfl
          | succ k => rw [q] at e1; simp at e1
        have hm' : m = S.length := by omega
        exact .inr ⟨hm', by show (if m = w.n then p else w.rho m) = p; rw [if_pos (by rw [r.n]; exact hm')]⟩
    rcases key m c1 e1 with ⟨h1, q1, p1⟩ | ⟨h1, p1⟩
    · rcases key n c2 e2 with ⟨h2, q2, p2⟩ | ⟨h2, p2⟩
      · rw [p1, p2] at e
        exact r.inj m n c1 c2 q1 q2 l1 l2 e
      · obtain ⟨u, hu⟩ := RepC.some l1 (r.at_ m c1 q1)
        rw [p1, p2] at e
        rw [e, h] at hu
        cases hu
    · rcases key n c2 e2 with ⟨h2, q2, p2⟩ | ⟨h2, p2⟩
      · obtain ⟨u, hu⟩ := RepC.some l2 (r.at_ n c2 q2)
        rw [p1, p2] at e
        rw [← e, h] at hu
        cases hu
      · omega
  at_ := fun n c' e => by
    by_cases hm : n < S.length
    · rw [List.getElem?_append_left hm] at e
      have er : (w.add p).rho n = w.rho n := by show (if n = w.n then p else w.rho n) = w.rho n; rw [if_neg (by rw [r.n]; omega)]
      rw [er]
      have z := r.at_ n c' e
      rcases C.live_or c' with l | l
      · exact RepC.move le_add (show w.hs (w.rho n) = none from RepC.hs (w := w) (H := H) l z) (fun u hu => by rw [upd_ne (ne_of_none hu h)]; exact hu) z
      · subst l
        exact True.intro
    · rw [List.getElem?_append_right (by omega)] at e
      have q : n - S.length = 0 := by
        cases q : n - S.length with
        | zero => rfl
        | succ k => rw [q] at e; simp at e
      rw [q] at e
      cases e
      have er : (w.add p).rho n = p := by show (if n = w.n then p else w.rho n) = p; rw [if_pos (by rw [r.n]; omega)]
      rw [er]
      exact hc
/-- a mutable object is written -/
theorem RS.write {w : Wd} {H : Hp} {S : Store} (r : RS K w H S) {n : Nat} {c0 c : C} {o : HO} (e0 : S[n]? = some c0) (l0 : c0.live) (hc : RepC K w (upd H (w.rho n) o) (w.rho n) c) : RS K w (upd H (w.rho n) o) (S.set n c) where
  ex := fun a u e => by
    have z := RepC.hs l0 (r.at_ n c0 e0)
    rw [upd_ne (ne_of_none e z)]
    exact r.ex a u e
  n := by rw [List.length_set]; exact r.n
  inj := fun m m' c1 c2 e1 e2 l1 l2 e => by
    have key : ∀ (m : Nat) (c1 : C), (S.set n c)[m]? = some c1 → c1.live → ∃ c3, S[m]? = some c3 ∧ c3.live := fun m c1 e1 l1 => by
      by_cases hm : n = m
      · subst hm
        exact ⟨c0, e0, l0⟩
      · rw [List.getElem?_set_ne hm] at e1
        exact ⟨c1, e1, l1⟩
    obtain ⟨c3, q1, k1⟩ := key m c1 e1 l1
    obtain ⟨c4, q2, k2⟩ := key m' c2 e2 l2
    exact r.inj m m' c3 c4 q1 q2 k1 k2 e
  at_ := fun m c' e => by
    by_cases hm : n = m
    · subst hm
      have hl : n < S.length := (List.getElem?_eq_some_iff.mp e0).1
      rw [List.getElem?_set_self hl] at e
      cases e
      exact hc
    · rw [List.getElem?_set_ne hm] at e
      have z := r.at_ m c' e
      rcases C.live_or c' with l | l
      · refine RepC.move (Wd.le.refl w) (RepC.hs l z) (fun u hu => ?_) z
        rw [upd_ne fun q => hm (r.inj n m c0 c' e0 e l0 l q.symm)]
        exact hu
      · subst l
        exact True.intro
/-- a mutable object is frozen: its value from now on -/
theorem RS.freeze {w : Wd} {H : Hp} {S : Store} (r : RS K w H S) {n : Nat} {c0 : C} {o : HO} (e0 : S[n]? = some c0) (l0 : c0.live) (ho : H (w.rho n) = some o) : RS K (w.frz (w.rho n) o) H (S.set n .dead) where
  ex := fun a u e => by
    have e : upd w.hs (w.rho n) o a = some u := e
    by_cases hp : a = w.rho n
    · subst hp
      rw [upd_same] at e
      cases e
      exact ho
    · rw [upd_ne hp] at e
      exact r.ex a u e
  n := by rw [List.length_set]; exact r.n
  inj := fun m m' c1 c2 e1 e2 l1 l2 e => by
    have key : ∀ (m : Nat) (c1 : C), (S.set n .dead)[m]? = some c1 → c1.live → S[m]? = some c1 := fun m c1 e1 l1 => by
      by_cases hm : n = m
      · subst hm
        rw [List.getElem?_set_self (List.getElem?_eq_some_iff.mp e0).1] at e1
        cases e1
        exact l1.elim
      · rw [List.getElem?_set_ne hm] at e1
        exact e1
    exact r.inj m m' c1 c2 (key m c1 e1 l1) (key m' c2 e2 l2) l1 l2 e
  at_ := fun m c' e => by
    by_cases hm : n = m
    · subst hm
      rw [List.getElem?_set_self (List.getElem?_eq_some_iff.mp e0).1] at e
      cases e
      exact True.intro
    · rw [List.getElem?_set_ne hm] at e
      have z := r.at_ m c' e
      rcases C.live_or c' with l | l
      · refine RepC.move (w' := w.frz (w.rho n) o) (le_frz (RepC.hs l0 (r.at_ n c0 e0))) ?_ (fun u hu => hu) z
        show upd w.hs (w.rho n) o (w.rho m) = none
        rw [upd_ne fun q => hm (r.inj n m c0 c' e0 e l0 l q.symm)]
        exact RepC.hs l z
      · subst l
        exact True.intro
theorem scL_iff {n : Nat} : ∀ {l : List D}, scL n l ↔ ∀ d ∈ l, d.sc n
  | [] => by simp [scL]
  | d :: l => by simp [scL, scL_iff (l := l)]
theorem scK_iff {n : Nat} : ∀ {l : List (Key × D)}, scK n l ↔ ∀ p ∈ l, p.2.sc n
  | [] => by simp [scK]
  | (k, d) :: l => by simp [scK, scK_iff (l := l)]
mutual
theorem Rep.cut {w : Wd} {n : Nat} : ∀ (d : D) {v : V}, Rep K w d v → d.sc n → Rep K { w with n := n } d v
  | .non, v, e, _ => by simpa only [Rep] using e
  | .bl b, v, e, _ => by simpa only [Rep] using e
  | .int i, v, e, _ => by simpa only [Rep] using e
  | .str x, v, e, _ => by simpa only [Rep] using e
  | .tup l, v, e, s => by
    simp only [Rep, D.sc] at e s ⊢
    obtain ⟨a, xs, e1, e2, e3⟩ := e
    exact ⟨a, xs, e1, e2, RepL.cut l e3 s⟩
  | .lst l, v, e, s => by
    simp only [Rep, D.sc] at e s ⊢
    obtain ⟨a, xs, e1, e2, e3⟩ := e
    exact ⟨a, xs, e1, e2, RepL.cut l e3 s⟩
  | .kls l, v, e, s => by
    simp only [Rep, D.sc] at e s ⊢
    obtain ⟨a, xs, e1, e2, e3⟩ := e
    exact ⟨a, xs, e1, e2, RepL.cut l e3 s⟩
  | .dic l, v, e, s => by
    simp only [Rep, D.sc] at e s ⊢
    obtain ⟨a, xs, e1, e2, e3⟩ := e
    exact ⟨a, xs, e1, e2, RepK.cut l e3 s⟩
  | .ins C l, v, e, s => by
    simp only [Rep, D.sc] at e s ⊢
    obtain ⟨a, dx, xs, e1, e2, e3⟩ := e
    exact ⟨a, dx, xs, e1, e2, RepK.cut l e3 s⟩
  | .hnd m, v, e, s => by
    simp only [Rep, D.sc] at e s ⊢
    exact ⟨s, e.2⟩
  | .ref a, v, e, _ => by simpa only [Rep] using e
  | .ty m, v, e, _ => by simpa only [Rep] using e
theorem RepL.cut {w : Wd} {n : Nat} : ∀ (l : List D) {ys : List V}, RepL K w l ys → scL n l → RepL K { w with n := n } l ys
  | [], ys, e, _ => by simpa only [RepL] using e
  | d :: l, ys, e, s => by
    simp only [RepL, scL] at e s ⊢
    obtain ⟨y, r, e1, e2, e3⟩ := e
    exact ⟨y, r, e1, Rep.cut d e2 s.1, RepL.cut l e3 s.2⟩
theorem RepK.cut {w : Wd} {n : Nat} : ∀ (l : List (Key × D)) {ys : List (Key × V)}, RepK K w l ys → scK n l → RepK K { w with n := n } l ys
  | [], ys, e, _ => by simpa only [RepK] using e
  | (k, d) :: l, ys, e, s => by
    simp only [RepK, scK] at e s ⊢
    obtain ⟨y, r, e1, e2, e3⟩ := e
    exact ⟨y, r, e1, Rep.cut d e2 s.1, RepK.cut l e3 s.2⟩
end
mutual
theorem Rep.sc {w : Wd} : ∀ (d : D) {v : V}, Rep K w d v → d.sc w.n
  | .non, v, e => True.intro
  | .bl b, v, e => True.intro
  | .int i, v, e => True.intro
  | .str x, v, e => True.intro
  | .tup l, v, e => by
    simp only [Rep, D.sc] at e ⊢
    obtain ⟨a, xs, e1, e2, e3⟩ := e
    exact RepL.sc l e3
  | .lst l, v, e => by
    simp only [Rep, D.sc] at e ⊢
    obtain ⟨a, xs, e1, e2, e3⟩ := e
    exact RepL.sc l e3
  | .kls l, v, e => by
    simp only [Rep, D.sc] at e ⊢
    obtain ⟨a, xs, e1, e2, e3⟩ := e
    exact RepL.sc l e3
  | .dic l, v, e => by
    simp only [Rep, D.sc] at e ⊢
    obtain ⟨a, xs, e1, e2, e3⟩ := e
    exact RepK.sc l e3
  | .ins C l, v, e => by
    simp only [Rep, D.sc] at e ⊢
    obtain ⟨a, dx, xs, e1, e2, e3⟩ := e
    exact RepK.sc l e3
  | .hnd m, v, e => by
    simp only [Rep, D.sc] at e ⊢
    exact e.1
  | .ref a, v, e => True.intro
  | .ty m, v, e => True.intro
theorem RepL.sc {w : Wd} : ∀ (l : List D) {ys : List V}, RepL K w l ys → scL w.n l
  | [], ys, e => True.intro
  | d :: l, ys, e => by
    simp only [RepL, scL] at e ⊢
    obtain ⟨y, r, e1, e2, e3⟩ := e
    exact ⟨Rep.sc d e2, RepL.sc l e3⟩
theorem RepK.sc {w : Wd} : ∀ (l : List (Key × D)) {ys : List (Key × V)}, RepK K w l ys → scK w.n l
  | [], ys, e => True.intro
  | (k, d) :: l, ys, e => by
    simp only [RepK, scK] at e ⊢
    obtain ⟨y, r, e1, e2, e3⟩ := e
    exact ⟨Rep.sc d e2, RepK.sc l e3⟩
end
/-- what a store may forget behind a call: S' in place of S -/
structure Fewer (S0 S S' : Store) : Prop where
  len : S'.length = S0.length
  le : S0.length ≤ S.length
  at_ : ∀ (n : Nat) (c : C), S'[n]? = some c → c = C.dead ∨ S[n]? = some c ∧ (S0[n]? = some c ∨ c.sc S0.length)
theorem RepC.cut {w w0 : Wd} {H H0 : Hp} {a a0 : Addr} {c : C} (h : RepC K w H a c) (s : RepC K w0 H0 a0 c ∨ c.sc w0.n) : RepC K { w with n := w0.n } H a c := by
  cases c with
  | lst l =>
    obtain ⟨h1, xs, h2, h3⟩ := h
    refine ⟨h1, xs, h2, RepL.cut l h3 ?_⟩
    rcases s with ⟨_, ys, _, q⟩ | s
    · exact RepL.sc l q
    · exact s
  | dic l =>
    obtain ⟨h1, xs, h2, h3⟩ := h
    refine ⟨h1, xs, h2, RepK.cut l h3 ?_⟩
    rcases s with ⟨_, ys, _, q⟩ | s
    · exact RepK.sc l q
    · exact s
  | ins C l =>
    obtain ⟨h1, dx, xs, h2, h3⟩ := h
    refine ⟨h1, dx, xs, h2, RepK.cut l h3 ?_⟩
    rcases s with ⟨_, dx, ys, _, q⟩ | s
    · exact RepK.sc l q
    · exact s
  | abs p =>
    obtain ⟨h1, l, h4, xs, h2, h3⟩ := h
    exact ⟨h1, l, h4, xs, h2, RepL.cut l h3 (h4.2 _)⟩
  | dead => exact True.intro
theorem RS.fewer {w0 w : Wd} {H0 H : Hp} {S0 S S' : Store} (r0 : RS K w0 H0 S0) (r : RS K w H S) (h : w0.le w) (f : Fewer S0 S S') : RS K { w with n := w0.n } H S' ∧ w0.le { w with n := w0.n } := by
  refine ⟨⟨r.ex, by rw [r0.n]; exact f.len.symm, fun m n c c' e e' l l' q => ?_, fun n c e => ?_⟩, ⟨Nat.le_refl _, h.rho, h.hs⟩⟩
  · rcases f.at_ m c e with z | z
    · rw [z] at l; exact l.elim
    · rcases f.at_ n c' e' with y | y
      · rw [y] at l'; exact l'.elim
      · exact r.inj m n c c' z.1 y.1 l l' q
  · rcases f.at_ n c e with z | ⟨z, y⟩
    · rw [z]; exact True.intro
    · refine RepC.cut (w0 := w0) (H0 := H0) (a0 := w0.rho n) (r.at_ n c z) ?_
      rcases y with y | y
      · exact .inl (r0.at_ n c y)
      · rw [r0.n]; exact .inr y
end
end Z
/-! ZJ: judgements over deep values; names, constants, operators, tests, displays, statements, loops. -/
namespace Z
open PySem L2

abbrev XD := Addr × List (Key × D)
abbrev Wm (α : Type) := Store → (α → Store → Prop) → (XD → Store → Prop) → Prop
/-- what is wanted behind a statement -/
structure Endz where
  nx : Env → Store → Prop
  rt : D → Store → Prop
  bk : Env → Store → Prop
  ct : Env → Store → Prop
  xe : Env → XD → Store → Prop
abbrev Gm := Endz → Env → Store → Prop

section
variable (K : PySem.W.Frag)
def RepX (w : Wd) (x : XD) (cls : Value) (dd : Option Addr) : Prop := cls = .ref x.1 ∧ ∃ d fvs, dd = some d ∧ w.hs d = some (.xd fvs) ∧ RepK K w x.2 (fvs.map fun p => (.inr p.1, p.2))
def Lnk {α β : Type} (R : Wd → α → β → Prop) (w : Wd) (Q : α → Store → Prop) (QV : β → Hp → Prop) : Prop := ∀ w' H' S' d v, w.le w' → RS K w' H' S' → R w' d v → Q d S' → QV v H'
def LnkX (w : Wd) (E : XD → Store → Prop) (W : WX) (σ : L2.St) : Prop := ∀ w' H' S' x cls dd, w.le w' → RS K w' H' S' → RepX K w' x cls dd → E x S' → W cls dd σ H'
structure Zq (W : WX) {α β : Type} (R : Wd → α → β → Prop) (t : L2.St → Hp → (β → Hp → Prop) → Prop) (f : Env → Wm α) : Prop where
  run : ∀ w H S σ δ Q E QV, RS K w H S → RepE K w δ σ → f δ S Q E → Lnk K R w Q QV → LnkX K w E W σ → t σ H QV
structure Lnks (W : WX) (w : Wd) (D : Ends) (Z : Endz) : Prop where
  nx : ∀ w' H S σ δ, w.le w' → RS K w' H S → RepE K w' δ σ → Z.nx δ S → D.nx σ H
  rt : ∀ w' H S d v, w.le w' → RS K w' H S → Rep K w' d v → Z.rt d S → D.rt v H
  bk : ∀ w' H S σ δ, w.le w' → RS K w' H S → RepE K w' δ σ → Z.bk δ S → D.bk σ H
  ct : ∀ w' H S σ δ, w.le w' → RS K w' H S → RepE K w' δ σ → Z.ct δ S → D.ct σ H
  xe : ∀ w' H S σ δ x cls dd, w.le w' → RS K w' H S → RepE K w' δ σ → RepX K w' x cls dd → Z.xe δ x S → W cls dd σ H
structure Zs (W : WX) (t : TS) (g : Gm) : Prop where
  run : ∀ w H S σ δ D Z, RS K w H S → RepE K w δ σ → g Z δ S → Lnks K W w D Z → t D σ H
end
def RB (_ : Wd) (a b : Bool) : Prop := a = b
variable {K : PySem.W.Frag} {W : WX}
theorem Lnk.le {α β : Type} {R : Wd → α → β → Prop} {w w' : Wd} {Q : α → Store → Prop} {QV : β → Hp → Prop} (h : Lnk K R w Q QV) (l : w.le w') : Lnk K R w' Q QV := fun w2 H2 S2 d v a b c e => h w2 H2 S2 d v (l.trans a) b c e
theorem LnkX.le {w w' : Wd} {E : XD → Store → Prop} {σ : L2.St} (h : LnkX K w E W σ) (l : w.le w') : LnkX K w' E W σ := fun w2 H2 S2 x c d a b e f => h w2 H2 S2 x c d (l.trans a) b e f
theorem Lnks.le {w w' : Wd} {D : Ends} {Z : Endz} (h : Lnks K W w D Z) (l : w.le w') : Lnks K W w' D Z :=
  ⟨fun w2 H S σ δ a => h.nx w2 H S σ δ (l.trans a), fun w2 H S d v a => h.rt w2 H S d v (l.trans a), fun w2 H S σ δ a => h.bk w2 H S σ δ (l.trans a), fun w2 H S σ δ a => h.ct w2 H S σ δ (l.trans a), fun w2 H S σ δ x c d a => h.xe w2 H S σ δ x c d (l.trans a)⟩
theorem Lnks.x {w : Wd} {D : Ends} {Z : Endz} (h : Lnks K W w D Z) {δ : Env} {σ : L2.St} (re : RepE K w δ σ) : LnkX K w (Z.xe δ) W σ := fun w2 H2 S2 x c d a b e f => h.xe w2 H2 S2 σ δ x c d a b (re.le a) e f
/-- .. to one next wish -/
theorem Lnks.nxt {w : Wd} {D : Ends} {Z : Endz} (h : Lnks K W w D Z) {N : L2.St → Hp → Prop} {Nz : Env → Store → Prop} (hn : ∀ w' H S σ δ, w.le w' → RS K w' H S → RepE K w' δ σ → Nz δ S → N σ H) : Lnks K W w { D with nx := N } { Z with nx := Nz } :=
  ⟨hn, h.rt, h.bk, h.ct, h.xe⟩

/-! ### both sides together -/
structure EZ (X : Cx) (W : WX) (e : Expr) (te : TE) (f : Env → Wm D) : Prop where
  pe : PE X e te
  z : Zq X.K W (Rep X.K) te f
structure TZ (X : Cx) (W : WX) (e : Expr) (tt : TT) (f : Env → Wm Bool) : Prop where
  pe : PT X e tt
  z : Zq X.K W RB tt f
structure WZ (X : Cx) (W : WX) (e : Expr) (tt : TT) (f : Env → Wm Bool) : Prop where
  pe : PW X e tt
  z : Zq X.K W RB tt f
structure AZ (X : Cx) (W : WX) (es : List Expr) (ta : TA) (f : Env → Wm (List D)) : Prop where
  pe : PA X es ta
  z : Zq X.K W (RepL X.K) ta f
structure SZ (X : Cx) (W : WX) (st : Stmt) (t : TS) (g : Gm) : Prop where
  ps : PS X st t
  z : Zs X.K W t g
structure SsZ (X : Cx) (W : WX) (st : List Stmt) (t : TS) (g : Gm) : Prop where
  ps : PSs X st t
  z : Zs X.K W t g

/-! ### names, constants -/
def varZ (i : Nat) : Env → Wm D := fun δ S Q _ => match δ[i]? with
  | some (some d) => Q d S
  | _ => False
def cZ (d : D) : Env → Wm D := fun _ S Q _ => Q d S
theorem zq_var (i : Nat) : Zq K W (Rep K) (tVar i) (varZ i) := ⟨fun w H S σ δ Q E QV r re h lk _ => by
  unfold varZ at h
  split at h
  · rename_i d e
    obtain ⟨v, e1, e2⟩ := re.at_ i d e
    exact ⟨v, e1, lk w H S d v (Wd.le.refl w) r e2 h⟩
  · exact h.elim⟩
/-- a value that is the same everywhere -/
def Cst (K : PySem.W.Frag) (d : D) (v : V) : Prop := ∀ w, Rep K w d v
theorem zq_c {d : D} {v : V} (h : Cst K d v) : Zq K W (Rep K) (tC v) (cZ d) := ⟨fun w H S σ δ Q E QV r _ q lk _ => lk w H S d v (Wd.le.refl w) r (h w) q⟩
theorem cst_int (i : Int) : Cst K (.int i) (.int i) := fun w => by simp only [Rep]
theorem cst_bl (i : Bool) : Cst K (.bl i) (.bl i) := fun w => by simp only [Rep]
theorem cst_str (i : Str) : Cst K (.str i) (.str i) := fun w => by simp only [Rep]
theorem cst_non : Cst K .non .non := fun w => by simp only [Rep]
theorem cst_ref (a : Addr) : Cst K (.ref a) (.ref a) := fun w => by simp only [Rep]
section
variable {X : Cx} {e a b c : Expr} {te ta tb tc : TE} {f fa fb fc : Env → Wm D} {pos : Pos}
theorem EZ.var (i : Nat) (h : PE X e (tVar i)) : EZ X W e (tVar i) (varZ i) := ⟨h, zq_var i⟩
theorem EZ.int {i : Int} {j : Nat} : EZ X W (.Constant (.int i) j pos) (tC (.int i)) (cZ (.int i)) := ⟨pe_int, zq_c (cst_int i)⟩
theorem EZ.bl {i : Bool} {j : Nat} : EZ X W (.Constant (.bool i) j pos) (tC (.bl i)) (cZ (.bl i)) := ⟨pe_bl, zq_c (cst_bl i)⟩
theorem EZ.str {i : Str} {j : Nat} : EZ X W (.Constant (.str i) j pos) (tC (.str i)) (cZ (.str i)) := ⟨pe_str, zq_c (cst_str i)⟩
theorem EZ.non {j : Nat} : EZ X W (.Constant .none j pos) (tC .non) (cZ .non) := ⟨pe_non, zq_c cst_non⟩
/-- a module's constant -/
theorem EZ.glob {x : Str} {v : V} {d : D} {u : Value} (hg : Gl X x) (hm : X.mg x = some u) (r : RelV v u) (h : Cst X.K d v) (hd : (x == ("__debug__" : Str)) = false := by decide) : EZ X W (.Name x pos) (tC v) (cZ d) := ⟨pe_glob hg hm r hd, zq_c h⟩

/-! ### operators on values -/
def OpZ (K : PySem.W.Frag) (r : R2) (g : D → D → Wm D) : Prop := ∀ w H S x y dx dy Q E QV, RS K w H S → Rep K w dx x → Rep K w dy y → g dx dy S Q E → Lnk K (Rep K) w Q QV → r x y H QV
def UnZ (K : PySem.W.Frag) (r : V → Hp → VK → Prop) (g : D → Wm D) : Prop := ∀ w H S x dx Q E QV, RS K w H S → Rep K w dx x → g dx S Q E → Lnk K (Rep K) w Q QV → r x H QV
def CaZ (K : PySem.W.Frag) (r : List V → Hp → VK → Prop) (g : List D → Wm D) : Prop := ∀ w H S xs ds Q E QV, RS K w H S → RepL K w ds xs → g ds S Q E → Lnk K (Rep K) w Q QV → r xs H QV
def binZ (g : D → D → Wm D) (fa fb : Env → Wm D) : Env → Wm D := fun δ S Q E => fa δ S (fun x S1 => fb δ S1 (fun y S2 => g x y S2 Q E) E) E
def unZ (g : D → Wm D) (fa : Env → Wm D) : Env → Wm D := fun δ S Q E => fa δ S (fun x S1 => g x S1 Q E) E
def caZ (g : List D → Wm D) (fa : Env → Wm (List D)) : Env → Wm D := fun δ S Q E => fa δ S (fun x S1 => g x S1 Q E) E
theorem zq_op {r : R2} {g : D → D → Wm D} (ho : OpZ K r g) (ha : Zq K W (Rep K) ta fa) (hb : Zq K W (Rep K) tb fb) : Zq K W (Rep K) (tOp r ta tb) (binZ g fa fb) := ⟨fun w H S σ δ Q E QV rs re h lk lx =>
  ha.run w H S σ δ _ E _ rs re h (fun w1 H1 S1 dx x l1 r1 e1 h1 =>
    hb.run w1 H1 S1 σ δ _ E _ r1 (re.le l1) h1 (fun w2 H2 S2 dy y l2 r2 e2 h2 =>
      ho w2 H2 S2 x y dx dy Q E QV r2 (Rep.le l2 dx e1) e2 h2 (lk.le (l1.trans l2))) (lx.le l1)) lx⟩
theorem zq_un {r : V → Hp → VK → Prop} {g : D → Wm D} (ho : UnZ K r g) (ha : Zq K W (Rep K) ta fa) : Zq K W (Rep K) (tUn r ta) (unZ g fa) := ⟨fun w H S σ δ Q E QV rs re h lk lx =>
  ha.run w H S σ δ _ E _ rs re h (fun w1 H1 S1 dx x l1 r1 e1 h1 => ho w1 H1 S1 x dx Q E QV r1 e1 h1 (lk.le l1)) lx⟩
theorem EZ.op {op : Operator} {r : R2} {g : D → D → Wm D} (ho : OpR X (binaryOp op) r) (hz : OpZ X.K r g) (ha : EZ X W a ta fa) (hb : EZ X W b tb fb) : EZ X W (.BinOp a op b pos) (tOp r ta tb) (binZ g fa fb) := ⟨pe_op ho ha.pe hb.pe, zq_op hz ha.z hb.z⟩
theorem EZ.cmp {op : CmpOp} {r : R2} {g : D → D → Wm D} (ho : OpR X (compareOp op) r) (hz : OpZ X.K r g) (ha : EZ X W a ta fa) (hb : EZ X W b tb fb) (hm : behindInMarks op b = false) : EZ X W (.Compare a [op] [b] pos) (tOp r ta tb) (binZ g fa fb) := ⟨pe_cmpR ho ha.pe hb.pe hm, zq_op hz ha.z hb.z⟩
theorem EZ.un {op : UnaryOp} {r : V → Hp → VK → Prop} {g : D → Wm D} (ho : UnR X (unaryOp op) r) (hz : UnZ X.K r g) (ha : EZ X W a ta fa) : EZ X W (.UnaryOp op a pos) (tUn r ta) (unZ g fa) := ⟨pe_un ho ha.pe, zq_un hz ha.z⟩

/-! ### tests -/
def boolZ (fa : Env → Wm D) : Env → Wm Bool := fun δ S Q E => fa δ S (fun x S1 => match x with
  | .bl k => Q k S1
  | _ => False) E
theorem rep_bl {w : Wd} {b : Bool} {v : V} (h : Rep K w (.bl b) v) : v = .bl b := by simpa only [Rep] using h
theorem rep_int {w : Wd} {b : Int} {v : V} (h : Rep K w (.int b) v) : v = .int b := by simpa only [Rep] using h
theorem rep_str {w : Wd} {b : Str} {v : V} (h : Rep K w (.str b) v) : v = .str b := by simpa only [Rep] using h
theorem rep_non {w : Wd} {v : V} (h : Rep K w .non v) : v = .non := by simpa only [Rep] using h
theorem zq_B (ha : Zq K W (Rep K) ta fa) : Zq K W RB (tB ta) (boolZ fa) := ⟨fun w H S σ δ Q E QV rs re h lk lx =>
  ha.run w H S σ δ _ E _ rs re h (fun w1 H1 S1 dx x l1 r1 e1 h1 => by
    cases dx with
    | bl k => exact ⟨k, rep_bl e1, lk w1 H1 S1 k k l1 r1 rfl h1⟩
    | _ => exact h1.elim) lx⟩
theorem zq_test (ha : Zq K W (Rep K) ta fa) : Zq K W RB (tTest ta) (boolZ fa) := ⟨fun w H S σ δ Q E QV rs re h lk lx =>
  ha.run w H S σ δ _ E _ rs re h (fun w1 H1 S1 dx x l1 r1 e1 h1 => by
    cases dx with
    | bl k => exact ⟨k, rep_bl e1, lk w1 H1 S1 k k l1 r1 rfl h1⟩
    | _ => exact h1.elim) lx⟩
/-- an expression that gives a bool, as a test -/
theorem TZ.val (ha : EZ X W e te f) (he : ∀ whole, isTrue e X.env whole = (do let v ← whole; standAt e.pos; holding [v] (truthy v)) := by intro _; rfl) : TZ X W e (tB te) (boolZ f) := ⟨pt_val ha.pe he, zq_B ha.z⟩
theorem TZ.cmp {op : CmpOp} {r : R2} {g : D → D → Wm D} (ho : OpR X (compareOp op) r) (hz : OpZ X.K r g) (ha : EZ X W a ta fa) (hb : EZ X W b tb fb) (hm : behindInMarks op b = false) : TZ X W (.Compare a [op] [b] pos) (tTest (tOp r ta tb)) (boolZ (binZ g fa fb)) := ⟨pt_cmpR ho ha.pe hb.pe hm, zq_test (zq_op hz ha.z hb.z)⟩
def andZ (fa fb : Env → Wm Bool) : Env → Wm Bool := fun δ S Q E => fa δ S (fun x S1 => if x = true then fb δ S1 Q E else Q false S1) E
def orZ (fa fb : Env → Wm Bool) : Env → Wm Bool := fun δ S Q E => fa δ S (fun x S1 => if x = true then Q true S1 else fb δ S1 Q E) E
def notZ (fa : Env → Wm Bool) : Env → Wm Bool := fun δ S Q E => fa δ S (fun x S1 => Q (!x) S1) E
variable {t u : TT} {p q : Env → Wm Bool} {rest : List Expr}
theorem TZ.not (ha : TZ X W a t p) : TZ X W (.UnaryOp .Not a pos) (tNot t) (notZ p) := ⟨pt_not ha.pe, ⟨fun w H S σ δ Q E QV rs re h lk lx =>
  ha.z.run w H S σ δ _ E _ rs re h (fun w1 H1 S1 dx x l1 r1 e1 h1 => by
    have e1 : dx = x := e1
    subst e1
    exact lk w1 H1 S1 (!dx) (!dx) l1 r1 rfl h1) lx⟩⟩
theorem WZ.and1 (ha : TZ X W a t p) : WZ X W (.BoolOp .And [a] pos) t p := ⟨pw_and1 ha.pe, ha.z⟩
theorem WZ.or1 (ha : TZ X W a t p) : WZ X W (.BoolOp .Or [a] pos) t p := ⟨pw_or1 ha.pe, ha.z⟩
theorem WZ.and (ha : TZ X W a t p) (hb : WZ X W (.BoolOp .And (b :: rest) pos) u q) : WZ X W (.BoolOp .And (a :: b :: rest) pos) (tAnd t u) (andZ p q) := ⟨pw_and ha.pe hb.pe, ⟨fun w H S σ δ Q E QV rs re h lk lx =>
  ha.z.run w H S σ δ _ E _ rs re h (fun w1 H1 S1 dx x l1 r1 e1 h1 => by
    have e1 : dx = x := e1
    subst e1
    cases dx with
    | true => exact hb.z.run w1 H1 S1 σ δ Q E QV r1 (re.le l1) h1 (lk.le l1) (lx.le l1)
    | false => exact lk w1 H1 S1 false false l1 r1 rfl h1) lx⟩⟩
theorem WZ.or (ha : TZ X W a t p) (hb : WZ X W (.BoolOp .Or (b :: rest) pos) u q) : WZ X W (.BoolOp .Or (a :: b :: rest) pos) (tOr t u) (orZ p q) := ⟨pw_or ha.pe hb.pe, ⟨fun w H S σ δ Q E QV rs re h lk lx =>
  ha.z.run w H S σ δ _ E _ rs re h (fun w1 H1 S1 dx x l1 r1 e1 h1 => by
    have e1 : dx = x := e1
    subst e1
    cases dx with
    | false => exact hb.z.run w1 H1 S1 σ δ Q E QV r1 (re.le l1) h1 (lk.le l1) (lx.le l1)
    | true => exact lk w1 H1 S1 true true l1 r1 rfl h1) lx⟩⟩
theorem WZ.tz (ha : WZ X W a t p) : TZ X W a t p := ⟨ha.pe.pt, ha.z⟩
/-- and, or, not as values (bools) -/
def andV (fa fb : Env → Wm D) : Env → Wm D := fun δ S Q E => fa δ S (fun x S1 => match x with
  | .bl k => if k = true then fb δ S1 Q E else Q (.bl false) S1
  | _ => False) E
def orV (fa fb : Env → Wm D) : Env → Wm D := fun δ S Q E => fa δ S (fun x S1 => match x with
  | .bl k => if k = true then Q (.bl true) S1 else fb δ S1 Q E
  | _ => False) E
def notV (fa : Env → Wm D) : Env → Wm D := fun δ S Q E => fa δ S (fun x S1 => match x with
  | .bl k => Q (.bl (!k)) S1
  | _ => False) E
theorem EZ.one {op : PySem.BoolOp} (ha : EZ X W a ta fa) : EZ X W (.BoolOp op [a] pos) ta fa := ⟨pe_one ha.pe, ha.z⟩
theorem EZ.and (ha : EZ X W a ta fa) (hb : EZ X W (.BoolOp .And (b :: rest) pos) tb fb) : EZ X W (.BoolOp .And (a :: b :: rest) pos) (tAndV ta tb) (andV fa fb) := ⟨pe_and ha.pe hb.pe, ⟨fun w H S σ δ Q E QV rs re h lk lx =>
  ha.z.run w H S σ δ _ E _ rs re h (fun w1 H1 S1 dx x l1 r1 e1 h1 => by
    cases dx with
    | bl k =>
      refine ⟨k, rep_bl e1, ?_⟩
      cases k with
      | true => exact hb.z.run w1 H1 S1 σ δ Q E QV r1 (re.le l1) h1 (lk.le l1) (lx.le l1)
      | false => exact lk w1 H1 S1 (.bl false) (.bl false) l1 r1 (cst_bl false w1) h1
    | _ => exact h1.elim) lx⟩⟩
theorem EZ.or (ha : EZ X W a ta fa) (hb : EZ X W (.BoolOp .Or (b :: rest) pos) tb fb) : EZ X W (.BoolOp .Or (a :: b :: rest) pos) (tOrV ta tb) (orV fa fb) := ⟨pe_or ha.pe hb.pe, ⟨fun w H S σ δ Q E QV rs re h lk lx =>
  ha.z.run w H S σ δ _ E _ rs re h (fun w1 H1 S1 dx x l1 r1 e1 h1 => by
    cases dx with
    | bl k =>
      refine ⟨k, rep_bl e1, ?_⟩
      cases k with
      | false => exact hb.z.run w1 H1 S1 σ δ Q E QV r1 (re.le l1) h1 (lk.le l1) (lx.le l1)
      | true => exact lk w1 H1 S1 (.bl true) (.bl true) l1 r1 (cst_bl true w1) h1
    | _ => exact h1.elim) lx⟩⟩
theorem EZ.not (ha : EZ X W a ta fa) : EZ X W (.UnaryOp .Not a pos) (tNotV ta) (notV fa) := ⟨pe_not ha.pe, ⟨fun w H S σ δ Q E QV rs re h lk lx =>
  ha.z.run w H S σ δ _ E _ rs re h (fun w1 H1 S1 dx x l1 r1 e1 h1 => by
    cases dx with
    | bl k => exact ⟨k, rep_bl e1, lk w1 H1 S1 (.bl (!k)) (.bl (!k)) l1 r1 (cst_bl _ w1) h1⟩
    | _ => exact h1.elim) lx⟩⟩
def ifZ (p : Env → Wm Bool) (fa fb : Env → Wm D) : Env → Wm D := fun δ S Q E => p δ S (fun x S1 => if x = true then fa δ S1 Q E else fb δ S1 Q E) E
theorem EZ.ifExp (hc : TZ X W c t p) (ha : EZ X W a ta fa) (hb : EZ X W b tb fb) : EZ X W (.IfExp c a b pos) (tIf t ta tb) (ifZ p fa fb) := ⟨pe_ifExp hc.pe ha.pe hb.pe, ⟨fun w H S σ δ Q E QV rs re h lk lx =>
  hc.z.run w H S σ δ _ E _ rs re h (fun w1 H1 S1 dx x l1 r1 e1 h1 => by
    have e1 : dx = x := e1
    subst e1
    cases dx with
    | true => exact ha.z.run w1 H1 S1 σ δ Q E QV r1 (re.le l1) h1 (lk.le l1) (lx.le l1)
    | false => exact hb.z.run w1 H1 S1 σ δ Q E QV r1 (re.le l1) h1 (lk.le l1) (lx.le l1)) lx⟩⟩
/-- a < b < c -/
def chainZ (g g' : D → D → Wm D) (fa fb fc : Env → Wm D) : Env → Wm D := fun δ S Q E => fa δ S (fun x S1 => fb δ S1 (fun y S2 => g x y S2 (fun z S3 => match z with
  | .bl k => if k = true then fc δ S3 (fun z' S4 => g' y z' S4 Q E) E else Q (.bl false) S3
  | _ => False) E) E) E
theorem zq_chain {r r' : R2} {g g' : D → D → Wm D} (hz : OpZ K r g) (hz' : OpZ K r' g') (ha : Zq K W (Rep K) ta fa) (hb : Zq K W (Rep K) tb fb) (hc : Zq K W (Rep K) tc fc) : Zq K W (Rep K) (tChain r r' ta tb tc) (chainZ g g' fa fb fc) := ⟨fun w H S σ δ Q E QV rs re h lk lx =>
  ha.run w H S σ δ _ E _ rs re h (fun w1 H1 S1 dx x l1 r1 e1 h1 =>
    hb.run w1 H1 S1 σ δ _ E _ r1 (re.le l1) h1 (fun w2 H2 S2 dy y l2 r2 e2 h2 =>
      hz w2 H2 S2 x y dx dy _ E _ r2 (Rep.le l2 dx e1) e2 h2 (fun w3 H3 S3 dz z l3 r3 e3 h3 => by
        cases dz with
        | bl k =>
          refine ⟨k, rep_bl e3, ?_⟩
          cases k with
          | true => exact hc.run w3 H3 S3 σ δ _ E _ r3 (re.le (l1.trans (l2.trans l3))) h3 (fun w4 H4 S4 du u l4 r4 e4 h4 => hz' w4 H4 S4 y u dy du Q E QV r4 (Rep.le (l3.trans l4) dy e2) e4 h4 (lk.le (l1.trans (l2.trans (l3.trans l4))))) (lx.le (l1.trans (l2.trans l3)))
          | false => exact lk w3 H3 S3 (.bl false) (.bl false) (l1.trans (l2.trans l3)) r3 (cst_bl false w3) h3
        | _ => exact h3.elim)) (lx.le l1)) lx⟩
theorem EZ.chain {op op' : CmpOp} {r r' : R2} {g g' : D → D → Wm D} (ho : OpR X (compareOp op) r) (ho' : OpR X (compareOp op') r') (hz : OpZ X.K r g) (hz' : OpZ X.K r' g') (ha : EZ X W a ta fa) (hb : EZ X W b tb fb) (hc : EZ X W c tc fc)
    (hm : lastMarks [op, op'] [b, c] = false := by rfl) : EZ X W (.Compare a [op, op'] [b, c] pos) (tChain r r' ta tb tc) (chainZ g g' fa fb fc) := ⟨pe_chain ho ho' ha.pe hb.pe hc.pe hm, zq_chain hz hz' ha.z hb.z hc.z⟩
theorem TZ.chain {op op' : CmpOp} {r r' : R2} {g g' : D → D → Wm D} (ho : OpR X (compareOp op) r) (ho' : OpR X (compareOp op') r') (hz : OpZ X.K r g) (hz' : OpZ X.K r' g') (ha : EZ X W a ta fa) (hb : EZ X W b tb fb) (hc : EZ X W c tc fc)
    (hm : lastMarks [op, op'] [b, c] = false := by rfl) : TZ X W (.Compare a [op, op'] [b, c] pos) (tTest (tChain r r' ta tb tc)) (boolZ (chainZ g g' fa fb fc)) := ⟨pt_chain ho ho' ha.pe hb.pe hc.pe hm, zq_test (zq_chain hz hz' ha.z hb.z hc.z)⟩

/-! ### argument lists, displays -/
variable {es : List Expr} {ts : TA} {fs : Env → Wm (List D)}
def nilZ : Env → Wm (List D) := fun _ S Q _ => Q [] S
def consZ (fa : Env → Wm D) (fs : Env → Wm (List D)) : Env → Wm (List D) := fun δ S Q E => fa δ S (fun x S1 => fs δ S1 (fun xs S2 => Q (x :: xs) S2) E) E
theorem AZ.nil : AZ X W [] tNil nilZ := ⟨pa_nil, ⟨fun w H S σ δ Q E QV rs re h lk lx => lk w H S [] [] (Wd.le.refl w) rs RepL.nil h⟩⟩
theorem zq_cons (ha : Zq K W (Rep K) ta fa) (hr : Zq K W (RepL K) ts fs) : Zq K W (RepL K) (tCons ta ts) (consZ fa fs) := ⟨fun w H S σ δ Q E QV rs re h lk lx =>
  ha.run w H S σ δ _ E _ rs re h (fun w1 H1 S1 dx x l1 r1 e1 h1 =>
    hr.run w1 H1 S1 σ δ _ E _ r1 (re.le l1) h1 (fun w2 H2 S2 dy y l2 r2 e2 h2 => lk w2 H2 S2 (dx :: dy) (x :: y) (l1.trans l2) r2 (.cons (Rep.le l2 dx e1) e2) h2) (lx.le l1)) lx⟩
theorem AZ.cons (ha : EZ X W a ta fa) (hr : AZ X W es ts fs) (hs : starEach (a :: es) X.env = (false, eval a X.env) :: starEach es X.env := by rfl) : AZ X W (a :: es) (tCons ta ts) (consZ fa fs) := ⟨pa_cons ha.pe hr.pe hs, zq_cons ha.z hr.z⟩
/-- the ends of what makes a list, a tuple -/
theorem fin_lstF {w : Wd} {H : Hp} {S : Store} {l : List D} {xs : List V} {Q : D → Store → Prop} {QV : VK} (r : RS K w H S) (hl : RepL K w l xs) (q : Q (.lst l) S) (lk : Lnk K (Rep K) w Q QV) (p : Addr) (hp : H p = none) : QV (.ref p) (upd H p (.lst xs)) := by
  have l1 := le_frz (o := .lst xs) (r.fresh hp)
  refine lk _ _ S (.lst l) (.ref p) l1 (r.newF _ hp) ?_ q
  simp only [Rep]
  exact ⟨p, xs, rfl, upd_same, RepL.le l1 l hl⟩
theorem fin_tupF {w : Wd} {H : Hp} {S : Store} {l : List D} {xs : List V} {Q : D → Store → Prop} {QV : VK} (r : RS K w H S) (hl : RepL K w l xs) (q : Q (.tup l) S) (lk : Lnk K (Rep K) w Q QV) (p : Addr) (hp : H p = none) : QV (.ref p) (upd H p (.tup xs)) := by
  have l1 := le_frz (o := .tup xs) (r.fresh hp)
  refine lk _ _ S (.tup l) (.ref p) l1 (r.newF _ hp) ?_ q
  simp only [Rep]
  exact ⟨p, xs, rfl, .inl (.inl upd_same), RepL.le l1 l hl⟩
theorem fin_lstH {w : Wd} {H : Hp} {S : Store} {l : List D} {xs : List V} {Q : D → Store → Prop} {QV : VK} (r : RS K w H S) (hl : RepL K w l xs) (q : Q (.hnd S.length) (S ++ [.lst l])) (lk : Lnk K (Rep K) w Q QV) (p : Addr) (hp : H p = none) : QV (.ref p) (upd H p (.lst xs)) := by
  have l1 := le_add (w := w) (p := p)
  refine lk _ _ _ (.hnd S.length) (.ref p) l1 (r.newH hp (c := .lst l) ⟨r.fresh hp, xs, upd_same, RepL.le l1 l hl⟩) ?_ q
  simp only [Rep]
  refine ⟨by show S.length < w.n + 1; rw [r.n]; exact Nat.lt_succ_self _, ?_⟩
  show V.ref p = V.ref (if S.length = w.n then p else w.rho S.length)
  rw [if_pos r.n.symm]
theorem fin_dicH {w : Wd} {H : Hp} {S : Store} {l : List (Key × D)} {xs : List (Key × V)} {Q : D → Store → Prop} {QV : VK} (r : RS K w H S) (hl : RepK K w l xs) (q : Q (.hnd S.length) (S ++ [.dic l])) (lk : Lnk K (Rep K) w Q QV) (p : Addr) (hp : H p = none) : QV (.ref p) (upd H p (.dK xs)) := by
  have l1 := le_add (w := w) (p := p)
  refine lk _ _ _ (.hnd S.length) (.ref p) l1 (r.newH hp (c := .dic l) ⟨r.fresh hp, xs, upd_same, RepK.le l1 l hl⟩) ?_ q
  simp only [Rep]
  refine ⟨by show S.length < w.n + 1; rw [r.n]; exact Nat.lt_succ_self _, ?_⟩
  show V.ref p = V.ref (if S.length = w.n then p else w.rho S.length)
  rw [if_pos r.n.symm]
theorem fin_dicF {w : Wd} {H : Hp} {S : Store} {l : List (Key × D)} {xs : List (Key × V)} {Q : D → Store → Prop} {QV : VK} (r : RS K w H S) (hl : RepK K w l xs) (q : Q (.dic l) S) (lk : Lnk K (Rep K) w Q QV) (p : Addr) (hp : H p = none) : QV (.ref p) (upd H p (.dK xs)) := by
  have l1 := le_frz (o := .dK xs) (r.fresh hp)
  refine lk _ _ S (.dic l) (.ref p) l1 (r.newF _ hp) ?_ q
  simp only [Rep]
  exact ⟨p, xs, rfl, upd_same, RepK.le l1 l hl⟩
def small (n : Nat) : Prop := n ≤ 100000
theorem small.ok {n : Nat} (h : small n) : n ≤ sizeLine := Nat.le_trans h (by decide)
theorem small.lt {n : Nat} (h : n < 100000) : n < sizeLine := Nat.lt_of_lt_of_le h (by decide)
def tupZ (fs : Env → Wm (List D)) : Env → Wm D := fun δ S Q E => fs δ S (fun l S1 => l.length ≤ 100000 ∧ Q (.tup l) S1) E
def lstZ (fs : Env → Wm (List D)) : Env → Wm D := fun δ S Q E => fs δ S (fun l S1 => l.length ≤ 100000 ∧ Q (.lst l) S1) E
def lstHZ (fs : Env → Wm (List D)) : Env → Wm D := fun δ S Q E => fs δ S (fun l S1 => l.length ≤ 100000 ∧ Q (.hnd S1.length) (S1 ++ [.lst l])) E
theorem EZ.tup {x1 : Nat} (h : AZ X W es ts fs) : EZ X W (.Tuple es x1 pos) (tTup ts) (tupZ fs) := ⟨pe_tup h.pe, ⟨fun w H S σ δ Q E QV rs re hf lk lx =>
  h.z.run w H S σ δ _ E _ rs re hf (fun w1 H1 S1 dx x l1 r1 e1 h1 => ⟨by rw [e1.length]; exact small.ok h1.1, fin_tupF r1 e1 h1.2 (lk.le l1)⟩) lx⟩⟩
theorem EZ.lst (h : AZ X W es ts fs) : EZ X W (.List es pos) (tLst ts) (lstZ fs) := ⟨pe_lst h.pe, ⟨fun w H S σ δ Q E QV rs re hf lk lx =>
  h.z.run w H S σ δ _ E _ rs re hf (fun w1 H1 S1 dx x l1 r1 e1 h1 => ⟨by rw [e1.length]; exact small.ok h1.1, fin_lstF r1 e1 h1.2 (lk.le l1)⟩) lx⟩⟩
theorem EZ.lstH (h : AZ X W es ts fs) : EZ X W (.List es pos) (tLst ts) (lstHZ fs) := ⟨pe_lst h.pe, ⟨fun w H S σ δ Q E QV rs re hf lk lx =>
  h.z.run w H S σ δ _ E _ rs re hf (fun w1 H1 S1 dx x l1 r1 e1 h1 => ⟨by rw [e1.length]; exact small.ok h1.1, fin_lstH r1 e1 h1.2 (lk.le l1)⟩) lx⟩⟩

/-! ### statements -/
variable {st : Stmt} {sts body orelse : List Stmt} {tS uS : TS} {g k : Gm}
def skipG : Gm := fun D δ S => D.nx δ S
def seqG (g k : Gm) : Gm := fun D δ S => g { D with nx := fun δ' S' => k D δ' S' } δ S
def asgG (i : Nat) (f : Env → Wm D) : Gm := fun D δ S => f δ S (fun d S1 => D.nx (δ.set i (some d)) S1) (D.xe δ)
def dropG (f : Env → Wm D) : Gm := fun D δ S => f δ S (fun _ S1 => D.nx δ S1) (D.xe δ)
def retG (f : Env → Wm D) : Gm := fun D δ S => f δ S (fun d S1 => D.rt d S1) (D.xe δ)
def retNG : Gm := fun D _ S => D.rt .non S
def ifG (p : Env → Wm Bool) (g k : Gm) : Gm := fun D δ S => p δ S (fun b S1 => if b = true then g D δ S1 else k D δ S1) (D.xe δ)
def brkG : Gm := fun D δ S => D.bk δ S
def ctG : Gm := fun D δ S => D.ct δ S
def neverG : Gm := fun _ _ _ => False
theorem zs_seq (h1 : Zs K W tS g) (h2 : Zs K W uS k) : Zs K W (tSeq tS uS) (seqG g k) := ⟨fun w H S σ δ D Z rs re h lk =>
  h1.run w H S σ δ _ _ rs re h (lk.nxt fun w' H' S' σ' δ' l r' re' n => h2.run w' H' S' σ' δ' D Z r' re' n (lk.le l))⟩
theorem SsZ.nil : SsZ X W [] tNext skipG := ⟨pss_nil, ⟨fun w H S σ δ D Z rs re h lk => lk.nx w H S σ δ (Wd.le.refl w) rs re h⟩⟩
theorem SsZ.cons (h1 : SZ X W st tS g) (h2 : SsZ X W sts uS k) : SsZ X W (st :: sts) (tSeq tS uS) (seqG g k) := ⟨pss_cons h1.ps h2.ps, zs_seq h1.z h2.z⟩
theorem SsZ.one (h1 : SZ X W st tS g) : SsZ X W [st] tS g := ⟨pss_one h1.ps, h1.z⟩
theorem zs_asg (i : Nat) (h : Zq K W (Rep K) te f) : Zs K W (tAsg te (gName i)) (asgG i f) := ⟨fun w H S σ δ D Z rs re h1 lk =>
  h.run w H S σ δ _ _ _ rs re h1 (fun w1 H1 S1 d v l1 r1 e1 n => lk.nx w1 H1 S1 _ _ l1 r1 ((re.le l1).set i e1) n) (lk.x re)⟩
theorem SZ.set (i : Nat) {x : Str} {pos' : Pos} (hN : X.N.Nodup) (hi : X.N[i]? = some x) (hx : Loc X.env.scope x) (he : EZ X W e te f) (hs : swapsWith e (some (.Name x pos')) pos.line X.env = pure false := by rfl)
    (hf : X.fn x = true ∨ X.env.scope.names.lookup x = some .local := by first | exact .inl rfl | exact .inr rfl | assumption) : SZ X W (.Assign [.Name x pos'] e pos) (tAsg te (gName i)) (asgG i f) := ⟨ps_set hN hi hx he.pe hs hf, zs_asg i he.z⟩
theorem SZ.expr (he : EZ X W e te f) (hs : swapsWith e none pos.line X.env = pure false := by rfl) : SZ X W (.Expr e pos) (tDrop te) (dropG f) := ⟨ps_expr he.pe hs, ⟨fun w H S σ δ D Z rs re h1 lk =>
  he.z.run w H S σ δ _ _ _ rs re h1 (fun w1 H1 S1 d v l1 r1 e1 n => lk.nx w1 H1 S1 _ _ l1 r1 (re.le l1) n) (lk.x re)⟩⟩
theorem SZ.ret (he : EZ X W e te f) : SZ X W (.Return (some e) pos) (tRet te) (retG f) := ⟨ps_ret he.pe, ⟨fun w H S σ δ D Z rs re h1 lk =>
  he.z.run w H S σ δ _ _ _ rs re h1 (fun w1 H1 S1 d v l1 r1 e1 n => lk.rt w1 H1 S1 _ _ l1 r1 e1 n) (lk.x re)⟩⟩
theorem SZ.retN : SZ X W (.Return none pos) tRetN retNG := ⟨ps_retN, ⟨fun w H S σ δ D Z rs re h1 lk => lk.rt w H S _ _ (Wd.le.refl w) rs (cst_non w) h1⟩⟩
theorem SZ.pass : SZ X W (.Pass pos) tNext skipG := ⟨ps_pass, ⟨fun w H S σ δ D Z rs re h lk => lk.nx w H S σ δ (Wd.le.refl w) rs re h⟩⟩
theorem SZ.brk : SZ X W (.Break pos) tBreak brkG := ⟨ps_break, ⟨fun w H S σ δ D Z rs re h lk => lk.bk w H S σ δ (Wd.le.refl w) rs re h⟩⟩
theorem SZ.cont : SZ X W (.Continue pos) tCont ctG := ⟨ps_continue, ⟨fun w H S σ δ D Z rs re h lk => lk.ct w H S σ δ (Wd.le.refl w) rs re h⟩⟩
theorem SZ.never : SZ X W st tNever neverG := ⟨ps_never, ⟨fun w H S σ δ D Z rs re h lk => h.elim⟩⟩
theorem SsZ.never : SsZ X W sts tNever neverG := ⟨pss_never, ⟨fun w H S σ δ D Z rs re h lk => h.elim⟩⟩
theorem SZ.iff {a b : List Stmt} (hc : TZ X W c t p) (ha : SsZ X W a tS g) (hb : SsZ X W b uS k) : SZ X W (.If c a b pos) (tIfS t tS uS) (ifG p g k) := ⟨ps_if hc.pe ha.ps hb.ps, ⟨fun w H S σ δ D Z rs re h lk =>
  hc.z.run w H S σ δ _ _ _ rs re h (fun w1 H1 S1 dx x l1 r1 e1 h1 => by
    have e1 : dx = x := e1
    subst e1
    cases dx with
    | true => exact ha.z.run w1 H1 S1 σ δ D Z r1 (re.le l1) h1 (lk.le l1)
    | false => exact hb.z.run w1 H1 S1 σ δ D Z r1 (re.le l1) h1 (lk.le l1)) (lk.x re)⟩⟩
end
end Z
/-! ZOps: operators, comparisons, subscripts, slices, fields over deep values. -/
namespace Z
open PySem L2
section
variable {K : PySem.W.Frag} {W : WX}

/-! ### what a value holds -/
def lstOf (S : Store) : D → Option (List D)
  | .lst l => some l
  | .hnd n => match S[n]? with
    | some (.lst l) => some l
    | _ => none
  | _ => none
def seqOf (S : Store) : D → Option (List D)
  | .tup l => some l
  | .kls l => some l
  | .lst l => some l
  | .hnd n => match S[n]? with
    | some (.lst l) => some l
    | _ => none
  | _ => none
def dicOf (S : Store) : D → Option (List (Key × D))
  | .dic l => some l
  | .hnd n => match S[n]? with
    | some (.dic l) => some l
    | _ => none
  | _ => none
def insOf (S : Store) : D → Option (Addr × List (Key × D))
  | .ins C l => some (C, l)
  | .hnd n => match S[n]? with
    | some (.ins C l) => some (C, l)
    | _ => none
  | _ => none
theorem SqT.up {w : Wd} {H : Hp} {S : Store} (r : RS K w H S) {a : Addr} {xs : List V} (e : SqT K w.hs a xs) : SqT K H a xs := by
  rcases e with (e | ⟨o, e⟩) | e
  · exact .inl (.inl (r.ex _ _ e))
  · exact .inl (.inr ⟨o, r.ex _ _ e⟩)
  · exact .inr e
theorem SqL.up {w : Wd} {H : Hp} {S : Store} (r : RS K w H S) {a : Addr} {xs : List V} (e : SqL K w.hs a xs) : SqL K H a xs := by
  rcases e with (e | ⟨o, e⟩) | e
  · exact .inl (.inl (r.ex _ _ e))
  · exact .inl (.inr ⟨o, r.ex _ _ e⟩)
  · exact .inr e
theorem hnd_at {w : Wd} {H : Hp} {S : Store} (r : RS K w H S) {n : Nat} {v : V} (h : Rep K w (.hnd n) v) : v = .ref (w.rho n) ∧ n < S.length := by
  simp only [Rep] at h
  exact ⟨h.2, by rw [← r.n]; exact h.1⟩
theorem lst_at {w : Wd} {H : Hp} {S : Store} (r : RS K w H S) {d : D} {v : V} {l : List D} (h : Rep K w d v) (e : lstOf S d = some l) : ∃ a xs, v = .ref a ∧ H a = some (.lst xs) ∧ RepL K w l xs := by
  cases d with
  | lst l' =>
    simp only [lstOf] at e
    cases e
    simp only [Rep] at h
    obtain ⟨a, xs, e1, e2, e3⟩ := h
    exact ⟨a, xs, e1, r.ex _ _ e2, e3⟩
  | hnd n =>
    obtain ⟨hv, _⟩ := hnd_at r h
    simp only [lstOf] at e
    split at e
    · rename_i l' q
      cases e
      obtain ⟨_, xs, e1, e2⟩ := r.at_ n _ q
      exact ⟨_, xs, hv, e1, e2⟩
    · cases e
  | _ => cases e
theorem seq_at {w : Wd} {H : Hp} {S : Store} (r : RS K w H S) {d : D} {v : V} {l : List D} (h : Rep K w d v) (e : seqOf S d = some l) : ∃ a xs, v = .ref a ∧ (SqL K H a xs ∨ SqT K H a xs) ∧ RepL K w l xs := by
  cases d with
  | tup l' =>
    simp only [seqOf] at e
    cases e
    simp only [Rep] at h
    obtain ⟨a, xs, e1, e2, e3⟩ := h
    exact ⟨a, xs, e1, .inr (SqT.up r e2), e3⟩
  | kls l' =>
    simp only [seqOf] at e
    cases e
    simp only [Rep] at h
    obtain ⟨a, xs, e1, e2, e3⟩ := h
    exact ⟨a, xs, e1, .inl (SqL.up r e2), e3⟩
  | lst l' =>
    obtain ⟨a, xs, e1, e2, e3⟩ := lst_at r h (l := l) (by simpa only [lstOf, seqOf] using e)
    exact ⟨a, xs, e1, .inl (SqL.of e2), e3⟩
  | hnd n =>
    obtain ⟨a, xs, e1, e2, e3⟩ := lst_at r h (l := l) (by simpa only [lstOf, seqOf] using e)
    exact ⟨a, xs, e1, .inl (SqL.of e2), e3⟩
  | _ => cases e
theorem tup_at {w : Wd} {H : Hp} {S : Store} (r : RS K w H S) {v : V} {l : List D} (h : Rep K w (.tup l) v) : ∃ a xs, v = .ref a ∧ SqT K H a xs ∧ RepL K w l xs := by
  simp only [Rep] at h
  obtain ⟨a, xs, e1, e2, e3⟩ := h
  exact ⟨a, xs, e1, SqT.up r e2, e3⟩
theorem dic_at {w : Wd} {H : Hp} {S : Store} (r : RS K w H S) {d : D} {v : V} {l : List (Key × D)} (h : Rep K w d v) (e : dicOf S d = some l) : ∃ a xs, v = .ref a ∧ H a = some (.dK xs) ∧ RepK K w l xs := by
  cases d with
  | dic l' =>
    simp only [dicOf] at e
    cases e
    simp only [Rep] at h
    obtain ⟨a, xs, e1, e2, e3⟩ := h
    exact ⟨a, xs, e1, r.ex _ _ e2, e3⟩
  | hnd n =>
    obtain ⟨hv, _⟩ := hnd_at r h
    simp only [dicOf] at e
    split at e
    · rename_i l' q
      cases e
      obtain ⟨_, xs, e1, e2⟩ := r.at_ n _ q
      exact ⟨_, xs, hv, e1, e2⟩
    · cases e
  | _ => cases e
theorem ins_at {w : Wd} {H : Hp} {S : Store} (r : RS K w H S) {d : D} {v : V} {p : Addr × List (Key × D)} (h : Rep K w d v) (e : insOf S d = some p) : ∃ a dx fs, v = .ref a ∧ H a = some (.ins p.1 dx fs) ∧ RepK K w p.2 (fs.map fun q => (.inr q.1, q.2)) := by
  cases d with
  | ins C l' =>
    simp only [insOf] at e
    cases e
    simp only [Rep] at h
    obtain ⟨a, dx, xs, e1, e2, e3⟩ := h
    exact ⟨a, dx, xs, e1, r.ex _ _ e2, e3⟩
  | hnd n =>
    obtain ⟨hv, _⟩ := hnd_at r h
    simp only [insOf] at e
    split at e
    · rename_i l' q
      cases e
      obtain ⟨_, dx, xs, e1, e2⟩ := r.at_ n _ q
      exact ⟨_, dx, xs, hv, e1, e2⟩
    · cases e
  | _ => cases e

/-! ### keyed data -/
def valD (l : List (Key × D)) (k : Key) : Option D := (l.find? fun kv => decide (kv.1 = k)).map (·.2)
def putD (l : List (Key × D)) (k : Key) (d : D) : List (Key × D) :=
  if (l.any fun kv => decide (kv.1 = k)) = true then l.map (fun kv => if kv.1 = k then (kv.1, d) else kv) else l ++ [(k, d)]
def dropD (l : List (Key × D)) (k : Key) : List (Key × D) := l.filter fun kv => decide (kv.1 ≠ k)
theorem RepK.nil {w : Wd} : RepK K w [] [] := by simp only [RepK]
theorem RepK.cons {w : Wd} {k : Key} {d : D} {v : V} {l : List (Key × D)} {r : List (Key × V)} (h : Rep K w d v) (t : RepK K w l r) : RepK K w ((k, d) :: l) ((k, v) :: r) := by
  simp only [RepK]
  exact ⟨v, r, rfl, h, t⟩
theorem RepK.length {w : Wd} : ∀ {l : List (Key × D)} {ys : List (Key × V)}, RepK K w l ys → ys.length = l.length
  | [], ys, e => by simp only [RepK] at e; rw [e]; rfl
  | (k, d) :: l, ys, e => by
    simp only [RepK] at e
    obtain ⟨y, r, e1, e2, e3⟩ := e
    rw [e1, List.length_cons, List.length_cons, e3.length]
theorem RepK.val {w : Wd} (k : Key) : ∀ {l : List (Key × D)} {ys : List (Key × V)}, RepK K w l ys → (∀ d, valD l k = some d → ∃ v, valV ys k = some v ∧ Rep K w d v) ∧ (valD l k = none → valV ys k = none)
  | [], ys, e => by
    simp only [RepK] at e
    subst e
    exact ⟨fun d h => (by cases h), fun _ => rfl⟩
  | (k', d') :: l, ys, e => by
    simp only [RepK] at e
    obtain ⟨y, r, e1, e2, e3⟩ := e
    subst e1
    obtain ⟨h1, h2⟩ := RepK.val k e3
    unfold valD valV at *
    by_cases hk : k' = k
    · have q : decide (k' = k) = true := decide_eq_true hk
      simp only [List.find?_cons, q, Option.map_some, Option.some.injEq, reduceCtorEq, false_implies, and_true]
      intro d hd
      subst hd
      exact ⟨y, rfl, e2⟩
    · have q : decide (k' = k) = false := decide_eq_false hk
      simp only [List.find?_cons, q]
      exact ⟨h1, h2⟩
theorem RepK.any {w : Wd} (k : Key) : ∀ {l : List (Key × D)} {ys : List (Key × V)}, RepK K w l ys → (l.any fun kv => decide (kv.1 = k)) = (ys.any fun kv => decide (kv.1 = k))
  | [], ys, e => by simp only [RepK] at e; subst e; rfl
  | (k', d') :: l, ys, e => by
    simp only [RepK] at e
    obtain ⟨y, r, e1, e2, e3⟩ := e
    subst e1
    rw [List.any_cons, List.any_cons, RepK.any k e3]
theorem RepK.append {w : Wd} : ∀ {l m : List (Key × D)} {ys zs : List (Key × V)}, RepK K w l ys → RepK K w m zs → RepK K w (l ++ m) (ys ++ zs)
  | [], m, ys, zs, e, f => by simp only [RepK] at e; subst e; exact f
  | (k, d) :: l, m, ys, zs, e, f => by
    simp only [RepK] at e
    obtain ⟨y, r, e1, e2, e3⟩ := e
    subst e1
    exact .cons e2 (RepK.append e3 f)
theorem RepK.mapPut {w : Wd} {k : Key} {d : D} {v : V} (h : Rep K w d v) : ∀ {l : List (Key × D)} {ys : List (Key × V)}, RepK K w l ys → RepK K w (l.map (fun kv => if kv.1 = k then (kv.1, d) else kv)) (ys.map (fun kv => if kv.1 = k then (kv.1, v) else kv))
  | [], ys, e => by simp only [RepK] at e; subst e; exact .nil
  | (k', d') :: l, ys, e => by
    simp only [RepK] at e
    obtain ⟨y, r, e1, e2, e3⟩ := e
    subst e1
    rw [List.map_cons, List.map_cons]
    by_cases hk : k' = k
    · rw [if_pos hk, if_pos hk]
      exact .cons h (RepK.mapPut h e3)
    · rw [if_neg hk, if_neg hk]
      exact .cons e2 (RepK.mapPut h e3)
theorem RepK.put {w : Wd} {k : Key} {d : D} {v : V} (h : Rep K w d v) {l : List (Key × D)} {ys : List (Key × V)} (e : RepK K w l ys) : RepK K w (putD l k d) (putK ys k v) := by
  unfold putD putK
  rw [RepK.any k e]
  by_cases q : (ys.any fun kv => decide (kv.1 = k)) = true
  · rw [if_pos q, if_pos q]
    exact RepK.mapPut h e
  · rw [if_neg q, if_neg q]
    exact RepK.append e (.cons h .nil)
theorem RepK.drop {w : Wd} {k : Key} : ∀ {l : List (Key × D)} {ys : List (Key × V)}, RepK K w l ys → RepK K w (dropD l k) (dropK ys k)
  | [], ys, e => by simp only [RepK] at e; subst e; exact .nil
  | (k', d') :: l, ys, e => by
    simp only [RepK] at e
    obtain ⟨y, r, e1, e2, e3⟩ := e
    subst e1
    have ih := RepK.drop (k := k) e3
    unfold dropD dropK at *
    rw [List.filter_cons, List.filter_cons]
    by_cases hk : k' ≠ k
    · rw [if_pos (decide_eq_true hk), if_pos (decide_eq_true hk)]
      exact .cons e2 ih
    · rw [if_neg (by rw [decide_eq_false hk]; exact Bool.false_ne_true), if_neg (by rw [decide_eq_false hk]; exact Bool.false_ne_true)]
      exact ih
def keyD : D → Option Key
  | .int i => some (.inl i)
  | .str x => some (.inr x)
  | _ => none
theorem key_at {w : Wd} {d : D} {v : V} {k : Key} (h : Rep K w d v) (e : keyD d = some k) : v = kV k := by
  cases d with
  | int i => cases e; exact rep_int h
  | str x => cases e; exact rep_str h
  | _ => cases e

/-! ### ints -/
def intZ (C : Int → Int → Prop) (g : Int → Int → D) : D → D → Wm D := fun x y S Q _ => match x, y with
  | .int i, .int j => C i j ∧ Q (g i j) S
  | _, _ => False
def intZ0 (g : Int → Int → D) : D → D → Wm D := fun x y S Q _ => match x, y with
  | .int i, .int j => Q (g i j) S
  | _, _ => False
theorem oz_int {C : Int → Int → Prop} {g : Int → Int → D} {gV : Int → Int → V} (h : ∀ i j, Cst K (g i j) (gV i j)) : OpZ K (rI C gV) (intZ C g) := by
  intro w H S x y dx dy Q E QV rs rx ry hg lk
  unfold intZ at hg
  split at hg
  · rename_i i j
    exact ⟨i, j, rep_int rx, rep_int ry, hg.1, lk w H S _ _ (Wd.le.refl w) rs (h i j w) hg.2⟩
  · exact hg.elim
theorem oz_int0 {g : Int → Int → D} {gV : Int → Int → V} (h : ∀ i j, Cst K (g i j) (gV i j)) : OpZ K (rI0 gV) (intZ0 g) := by
  intro w H S x y dx dy Q E QV rs rx ry hg lk
  unfold intZ0 at hg
  split at hg
  · rename_i i j
    exact ⟨i, j, rep_int rx, rep_int ry, lk w H S _ _ (Wd.le.refl w) rs (h i j w) hg⟩
  · exact hg.elim
abbrev subZ := intZ0 fun i j => .int (i - j)
abbrev mulZ := intZ CMul fun i j => .int (i * j)
abbrev fdivZ := intZ CDiv fun i j => .int (i / j)
abbrev modZ := intZ (fun _ j => 0 < j) fun i j => .int (i % j)
abbrev shlZ := intZ CPow fun i j => .int (i * 2 ^ j.toNat)
abbrev shrZ := intZ (fun _ j => 0 ≤ j) fun i j => .int (i / 2 ^ j.toNat)
abbrev powZ := intZ CPow fun i j => .int (i ^ j.toNat)
abbrev andIZ := intZ0 fun i j => .int (Builtin.bitAnd i j)
abbrev orIZ := intZ0 fun i j => .int (Builtin.bitOr i j)
abbrev xorIZ := intZ0 fun i j => .int (Builtin.bitXor i j)
abbrev ltZ := intZ0 fun i j => .bl (decide (i < j))
abbrev leZ := intZ0 fun i j => .bl (decide (i ≤ j))
abbrev gtZ := intZ0 fun i j => .bl (decide (j < i))
abbrev geZ := intZ0 fun i j => .bl (decide (j ≤ i))
abbrev addIZ := intZ0 fun i j => .int (i + j)
def uintZ (g : Int → Int) : D → Wm D := fun x S Q _ => match x with
  | .int i => Q (.int (g i)) S
  | _ => False
theorem uz_int {g : Int → Int} : UnZ K (rU fun i => .int (g i)) (uintZ g) := by
  intro w H S x dx Q E QV rs rx hg lk
  unfold uintZ at hg
  split at hg
  · rename_i i
    exact ⟨i, rep_int rx, lk w H S _ _ (Wd.le.refl w) rs (cst_int _ w) hg⟩
  · exact hg.elim

/-! ### + over all kinds -/
def rAddS : R2 := fun x y H Q => ∃ i j, x = .str i ∧ y = .str j ∧ i.length + j.length ≤ sizeLine ∧ Q (.str (i ++ j)) H
def rAddA (K : PySem.W.Frag) : R2 := fun x y H Q => (((rI0 fun i j => .int (i + j)) x y H Q ∨ rAddS x y H Q) ∨ rCat x y H Q) ∨ rCatA K x y H Q
theorem op_addA {X : Cx} : OpR X (binaryOp .Add) (rAddA X.K) := ((op_add.or op_add_str).or op_cat).or op_catA
def addZ : D → D → Wm D := fun x y S Q _ => match x, y with
  | .int i, .int j => Q (.int (i + j)) S
  | .str i, .str j => i.length + j.length ≤ sizeLine ∧ Q (.str (i ++ j)) S
  | .tup l, .tup m => l.length + m.length ≤ 100000 ∧ Q (.tup (l ++ m)) S
  | .lst l, .lst m => l.length + m.length ≤ 100000 ∧ Q (.lst (l ++ m)) S
  | .hnd a, .lst m => ∃ l, lstOf S (.hnd a) = some l ∧ l.length + m.length ≤ 100000 ∧ Q (.lst (l ++ m)) S
  | .lst l, .hnd b => ∃ m, lstOf S (.hnd b) = some m ∧ l.length + m.length ≤ 100000 ∧ Q (.lst (l ++ m)) S
  | _, _ => False
theorem oz_add : OpZ K (rAddA K) addZ := by
  intro w H S x y dx dy Q E QV rs rx ry hg lk
  have cat : ∀ {l m : List D}, lstOf S dx = some l → lstOf S dy = some m → l.length + m.length ≤ 100000 → Q (.lst (l ++ m)) S → rAddA K x y H QV := fun {l m} e1 e2 hz q => by
    obtain ⟨a, xs, rfl, ha, ra⟩ := lst_at rs rx e1
    obtain ⟨b, ys, rfl, hb, rb⟩ := lst_at rs ry e2
    exact .inl (.inr ⟨a, b, xs, ys, rfl, rfl, ha, hb, by rw [ra.length, rb.length]; exact small.ok hz, fin_lstF rs (ra.append rb) q lk⟩)
  unfold addZ at hg
  split at hg
  · exact .inl (.inl (.inl ⟨_, _, rep_int rx, rep_int ry, lk w H S _ _ (Wd.le.refl w) rs (cst_int _ w) hg⟩))
  · exact .inl (.inl (.inr ⟨_, _, rep_str rx, rep_str ry, hg.1, lk w H S _ _ (Wd.le.refl w) rs (cst_str _ w) hg.2⟩))
  · rename_i l m
    obtain ⟨a, xs, rfl, ha, ra⟩ := tup_at rs rx
    obtain ⟨b, ys, rfl, hb, rb⟩ := tup_at rs ry
    refine .inr ⟨a, b, xs, ys, rfl, rfl, ha, hb, by rw [ra.length, rb.length]; exact small.ok hg.1, fun e => ?_, fun _ e => ?_, fun _ _ => fin_tupF rs (ra.append rb) hg.2 lk⟩
    · subst e
      have : l = [] := List.eq_nil_of_length_eq_zero (by have := ra.length; simpa using this.symm)
      subst this
      exact lk w H S _ _ (Wd.le.refl w) rs ry hg.2
    · subst e
      have : m = [] := List.eq_nil_of_length_eq_zero (by have := rb.length; simpa using this.symm)
      subst this
      refine lk w H S (.tup l) _ (Wd.le.refl w) rs rx ?_
      have := hg.2
      rw [List.append_nil] at this
      exact this
  · exact cat rfl rfl hg.1 hg.2
  · obtain ⟨l, e, h1, h2⟩ := hg
    exact cat e rfl h1 h2
  · obtain ⟨m, e, h1, h2⟩ := hg
    exact cat rfl e h1 h2
  · exact hg.elim
/-- list * int, as a new frozen list | as a mutable one -/
def repZ : D → D → Wm D := fun x y S Q _ => ∃ l k, lstOf S x = some l ∧ y = .int k ∧ k < 2 ^ 62 ∧ -(2 ^ 62) ≤ k ∧ l.length * k.toNat ≤ 100000 ∧ Q (.lst (List.replicate k.toNat l).flatten) S
def repHZ : D → D → Wm D := fun x y S Q _ => ∃ l k, lstOf S x = some l ∧ y = .int k ∧ k < 2 ^ 62 ∧ -(2 ^ 62) ≤ k ∧ l.length * k.toNat ≤ 100000 ∧ Q (.hnd S.length) (S ++ [.lst (List.replicate k.toNat l).flatten])
theorem RepL.rep {w : Wd} {l : List D} {xs : List V} (h : RepL K w l xs) : ∀ k : Nat, RepL K w (List.replicate k l).flatten (List.replicate k xs).flatten
  | 0 => .nil
  | k + 1 => by
    rw [List.replicate_succ, List.replicate_succ, List.flatten_cons, List.flatten_cons]
    exact h.append (RepL.rep h k)
theorem oz_rep : OpZ K rRep repZ := by
  intro w H S x y dx dy Q E QV rs rx ry hg lk
  obtain ⟨l, k, e, rfl, h1, h2, h3, q⟩ := hg
  obtain ⟨a, xs, rfl, ha, ra⟩ := lst_at rs rx e
  exact ⟨a, k, xs, rfl, rep_int ry, ha, by omega, by omega, by rw [ra.length]; exact small.ok h3, fin_lstF rs (ra.rep _) q lk⟩
theorem oz_repH : OpZ K rRep repHZ := by
  intro w H S x y dx dy Q E QV rs rx ry hg lk
  obtain ⟨l, k, e, rfl, h1, h2, h3, q⟩ := hg
  obtain ⟨a, xs, rfl, ha, ra⟩ := lst_at rs rx e
  exact ⟨a, k, xs, rfl, rep_int ry, ha, by omega, by omega, by rw [ra.length]; exact small.ok h3, fin_lstH rs (ra.rep _) q lk⟩

/-! ### data: frozen or of lists of the store -/
mutual
def D.of : PyData → D
  | .none => .non
  | .bool b => .bl b
  | .int i => .int i
  | .str x => .str x
  | .list l => .lst (ofL l)
  | .tuple l => .tup (ofL l)
  | .dict _ => .non
def ofL : List PyData → List D
  | [] => []
  | d :: l => D.of d :: ofL l
end
/-! it is the data p, its lists read in the store -/
mutual
def IsP (S : Store) : PyData → D → Prop
  | .none, d => d = .non
  | .bool b, d => d = .bl b
  | .int i, d => d = .int i
  | .str x, d => d = .str x
  | .list l, d => ∃ m, lstOf S d = some m ∧ IsPs S l m
  | .tuple l, d => ∃ m, d = .tup m ∧ IsPs S l m
  | .dict _, _ => False
def IsPs (S : Store) : List PyData → List D → Prop
  | [], m => m = []
  | p :: l, m => ∃ d r, m = d :: r ∧ IsP S p d ∧ IsPs S l r
end
mutual
theorem isP_of (S : Store) : ∀ p : PyData, (∀ k, p ≠ .dict k) → PyData.hasDict p = false → IsP S p (D.of p)
  | .none, _, _ => by simp only [IsP, D.of]
  | .bool b, _, _ => by simp only [IsP, D.of]
  | .int i, _, _ => by simp only [IsP, D.of]
  | .str x, _, _ => by simp only [IsP, D.of]
  | .list l, _, h => by
    simp only [PyData.hasDict] at h
    simp only [IsP, D.of]
    exact ⟨_, rfl, isPs_of S l h⟩
  | .tuple l, _, h => by
    simp only [PyData.hasDict] at h
    simp only [IsP, D.of]
    exact ⟨_, rfl, isPs_of S l h⟩
  | .dict k, h, _ => absurd rfl (h k)
theorem isPs_of (S : Store) : ∀ l : List PyData, PyData.hasDictAll l = false → IsPs S l (ofL l)
  | [], _ => by simp only [IsPs, ofL]
  | p :: l, h => by
    simp only [PyData.hasDictAll, Bool.or_eq_false_iff] at h
    simp only [IsPs, ofL]
    exact ⟨_, _, rfl, isP_of S p (fun k e => by subst e; exact absurd h.1 (by simp [PyData.hasDict])) h.1, isPs_of S l h.2⟩
end
mutual
theorem IsP.dp {w : Wd} {H : Hp} {S : Store} (rs : RS K w H S) : ∀ (p : PyData) {d : D} {v : V}, IsP S p d → Rep K w d v → Dp K H v p
  | .none, d, v, h, r => by
    simp only [IsP] at h
    subst h
    rw [rep_non r]
    exact .non
  | .bool b, d, v, h, r => by
    simp only [IsP] at h
    subst h
    rw [rep_bl r]
    exact .bl b
  | .int i, d, v, h, r => by
    simp only [IsP] at h
    subst h
    rw [rep_int r]
    exact .int i
  | .str x, d, v, h, r => by
    simp only [IsP] at h
    subst h
    rw [rep_str r]
    exact .str x
  | .list l, d, v, h, r => by
    simp only [IsP] at h
    obtain ⟨m, e, hm⟩ := h
    obtain ⟨a, xs, rfl, ha, ra⟩ := lst_at rs r e
    exact .lst (SqL.of ha) (IsPs.dp rs l hm ra)
  | .tuple l, d, v, h, r => by
    simp only [IsP] at h
    obtain ⟨m, e, hm⟩ := h
    subst e
    obtain ⟨a, xs, rfl, ha, ra⟩ := tup_at rs r
    exact .tup ha (IsPs.dp rs l hm ra)
  | .dict _, d, v, h, r => by simp only [IsP] at h
theorem IsPs.dp {w : Wd} {H : Hp} {S : Store} (rs : RS K w H S) : ∀ (p : List PyData) {d : List D} {v : List V}, IsPs S p d → RepL K w d v → DpAll K H v p
  | [], d, v, h, r => by
    simp only [IsPs] at h
    subst h
    simp only [RepL] at r
    subst r
    exact .nil
  | p :: l, d, v, h, r => by
    simp only [IsPs] at h
    obtain ⟨d', m, e, h1, h2⟩ := h
    subst e
    simp only [RepL] at r
    obtain ⟨y, ys, e1, e2, e3⟩ := r
    subst e1
    exact .cons (IsP.dp rs p h1 e2) (IsPs.dp rs l h2 e3)
end
/-! ### == and != -/
def rEqA (K : PySem.W.Frag) : R2 := fun x y H Q => rEq x y H Q ∨ rEqD K x y H Q
def rNeA (K : PySem.W.Frag) : R2 := fun x y H Q => rNe x y H Q ∨ rNeD K x y H Q
theorem op_eqA {X : Cx} (hu : X.A.units + 64 < cLine) : OpR X (compareOp .Eq) (rEqA X.K) := op_eq.or (op_eqD hu)
theorem op_neA {X : Cx} (hu : X.A.units + 64 < cLine) : OpR X (compareOp .NotEq) (rNeA X.K) := op_ne.or (op_neD hu)
def dataEq (S : Store) (x y : D) (Q : Bool → Prop) : Prop := ∃ p q, IsP S p x ∧ IsP S q y ∧ SeqAt.shaped p = true ∧ SeqAt.shaped q = true ∧ Q (PyData.eqv p q)
def eqB (x y : D) (S : Store) (Q : Bool → Prop) : Prop := match x, y with
  | .int i, .int j => Q (decide (i = j))
  | .str i, .str j => Q (decide (i = j))
  | .bl i, .bl j => Q (decide (i = j))
  | .non, .non => Q true
  | x, y => dataEq S x y Q
theorem eqB_dp {w : Wd} {H : Hp} {S : Store} {x y : V} {dx dy : D} {Q : Bool → Prop} (rs : RS K w H S) (rx : Rep K w dx x) (ry : Rep K w dy y) (h : eqB dx dy S Q) : (∃ b, scal x y = true ∧ decide (x = y) = b ∧ Q b) ∨ ∃ p q, Dp K H x p ∧ Dp K H y q ∧ SeqAt.shaped p = true ∧ SeqAt.shaped q = true ∧ Q (PyData.eqv p q) := by
  unfold eqB at h
  split at h
  · rename_i i j
    refine .inl ⟨_, ?_, ?_, h⟩
    · rw [rep_int rx, rep_int ry]; rfl
    · rw [rep_int rx, rep_int ry]
      by_cases e : i = j
      · subst e; rw [decide_eq_true rfl, decide_eq_true rfl]
      · rw [decide_eq_false e, decide_eq_false fun q => e (V.int.inj q)]
  · rename_i i j
    refine .inl ⟨_, ?_, ?_, h⟩
    · rw [rep_str rx, rep_str ry]; rfl
    · rw [rep_str rx, rep_str ry]
      by_cases e : i = j
      · subst e; rw [decide_eq_true rfl, decide_eq_true rfl]
      · rw [decide_eq_false e, decide_eq_false fun q => e (V.str.inj q)]
  · rename_i i j
    refine .inl ⟨_, ?_, ?_, h⟩
    · rw [rep_bl rx, rep_bl ry]; rfl
    · rw [rep_bl rx, rep_bl ry]
      by_cases e : i = j
      · subst e; rw [decide_eq_true rfl, decide_eq_true rfl]
      · rw [decide_eq_false e, decide_eq_false fun q => e (V.bl.inj q)]
  · refine .inl ⟨_, ?_, ?_, h⟩
    · rw [rep_non rx, rep_non ry]; rfl
    · rw [rep_non rx, rep_non ry]; exact decide_eq_true rfl
  · obtain ⟨p, q, h1, h2, h3, h4, h5⟩ := h
    exact .inr ⟨p, q, IsP.dp rs p h1 rx, IsP.dp rs q h2 ry, h3, h4, h5⟩
def eqZ : D → D → Wm D := fun x y S Q _ => eqB x y S fun b => Q (.bl b) S
def neZ : D → D → Wm D := fun x y S Q _ => eqB x y S fun b => Q (.bl (!b)) S
theorem oz_eq : OpZ K (rEqA K) eqZ := by
  intro w H S x y dx dy Q E QV rs rx ry hg lk
  rcases eqB_dp rs rx ry hg with ⟨b, h1, h2, q⟩ | ⟨p, q, h1, h2, h3, h4, q⟩
  · exact .inl ⟨h1, by rw [h2]; exact lk w H S _ _ (Wd.le.refl w) rs (cst_bl b w) q⟩
  · exact .inr ⟨p, _, h1, h2, h3, h4, lk w H S _ _ (Wd.le.refl w) rs (cst_bl _ w) q⟩
theorem oz_ne : OpZ K (rNeA K) neZ := by
  intro w H S x y dx dy Q E QV rs rx ry hg lk
  rcases eqB_dp rs rx ry hg with ⟨b, h1, h2, q⟩ | ⟨p, q, h1, h2, h3, h4, q⟩
  · exact .inl ⟨h1, by rw [h2]; exact lk w H S _ _ (Wd.le.refl w) rs (cst_bl _ w) q⟩
  · exact .inr ⟨p, _, h1, h2, h3, h4, lk w H S _ _ (Wd.le.refl w) rs (cst_bl _ w) q⟩
/-- is None -/
def isNZ : D → D → Wm D := fun x y S Q _ => y = .non ∧ match x with
  | .non => Q (.bl true) S
  | _ => Q (.bl false) S
def isNotNZ : D → D → Wm D := fun x y S Q _ => y = .non ∧ match x with
  | .non => Q (.bl false) S
  | _ => Q (.bl true) S
theorem rep_ne_non {w : Wd} {d : D} {v : V} (h : Rep K w d v) (hd : d ≠ .non) : v ≠ .non := by
  cases d with
  | non => exact absurd rfl hd
  | bl b => rw [rep_bl h]; intro z; cases z
  | int b => rw [rep_int h]; intro z; cases z
  | str b => rw [rep_str h]; intro z; cases z
  | tup l => simp only [Rep] at h; obtain ⟨a, xs, e, _⟩ := h; rw [e]; intro z; cases z
  | lst l => simp only [Rep] at h; obtain ⟨a, xs, e, _⟩ := h; rw [e]; intro z; cases z
  | kls l => simp only [Rep] at h; obtain ⟨a, xs, e, _⟩ := h; rw [e]; intro z; cases z
  | dic l => simp only [Rep] at h; obtain ⟨a, xs, e, _⟩ := h; rw [e]; intro z; cases z
  | ins C l => simp only [Rep] at h; obtain ⟨a, dx, xs, e, _⟩ := h; rw [e]; intro z; cases z
  | hnd n => simp only [Rep] at h; rw [h.2]; intro z; cases z
  | ref a => simp only [Rep] at h; rw [h]; intro z; cases z
  | ty n => simp only [Rep] at h; rw [h]; intro z; cases z
def rIsN' : R2 := fun x y H Q => y = .non ∧ Q (.bl (decide (x = .non))) H
def rNotN' : R2 := fun x y H Q => y = .non ∧ Q (.bl (!decide (x = .non))) H
theorem oz_isN : OpZ K rIsN' isNZ := by
  intro w H S x y dx dy Q E QV rs rx ry hg lk
  obtain ⟨e, hg⟩ := hg
  subst e
  refine ⟨rep_non ry, ?_⟩
  split at hg
  · rw [rep_non rx, decide_eq_true rfl]
    exact lk w H S _ _ (Wd.le.refl w) rs (cst_bl _ w) hg
  · rename_i hn
    rw [decide_eq_false (rep_ne_non rx hn)]
    exact lk w H S _ _ (Wd.le.refl w) rs (cst_bl _ w) hg
theorem oz_isNotN : OpZ K rNotN' isNotNZ := by
  intro w H S x y dx dy Q E QV rs rx ry hg lk
  obtain ⟨e, hg⟩ := hg
  subst e
  refine ⟨rep_non ry, ?_⟩
  split at hg
  · rw [rep_non rx, decide_eq_true rfl]
    exact lk w H S _ _ (Wd.le.refl w) rs (cst_bl _ w) hg
  · rename_i hn
    rw [decide_eq_false (rep_ne_non rx hn)]
    exact lk w H S _ _ (Wd.le.refl w) rs (cst_bl _ w) hg
theorem op_isN' {X : Cx} : OpR X (compareOp .Is) rIsN' := op_isN
theorem op_notN' {X : Cx} : OpR X (compareOp .IsNot) rNotN' := op_notN
end
end Z
/-! ZCall: the defs of the text: what they do to deep values (FnZ), their calls, their bodies. -/
namespace Z
open PySem L2 PySem.Spec PyProof.Rows
/-- as FnOk, no text being shown around -/
structure FnG (P : Program) (w : World) (K : PySem.W.Frag) (mg : Str → Option Value) (base : Heap) (k : Nat) (f : Addr) (fd : FuncData) (ps : List Str) (sp : Sp) : Prop where
  len : ∀ vs H Q E, sp vs H Q E → vs.length = ps.length
  run : ∀ (A : Around) (outer : List PySem.Env) (s : Shared) (H : Hp) (args : Args) (us : List Value) (vs : List V) (Q : VK) (E : XK), Room k A → A.guards = some [] → Env0 P w K mg base A outer s H → BindsTo s fd args (ps.zip us) → Vals vs us → sp vs H Q E →
    codeAny (model P w) A (.call (.ref f) args) (CR (L2.CX P w) outer P w H s Q E) s
/-- what a def does: on deep arguments and the store -/
abbrev Fz := List D → Wm D
def spZ (K : PySem.W.Frag) (n : Nat) (m : Fz) : Sp := fun vs H Q E => ∃ (w : Wd) (S : Store) (ds : List D) (Qd : D → Store → Prop) (Ed : XD → Store → Prop), ds.length = n ∧ RS K w H S ∧ RepL K w ds vs ∧ m ds S Qd Ed ∧ Lnk K (Rep K) w Qd Q ∧
  ∀ w' H' S' x cls dd, w.le w' → RS K w' H' S' → RepX K w' x cls dd → Ed x S' → E cls dd H'
abbrev FnZ (P : Program) (w : World) (K : PySem.W.Frag) (mg : Str → Option Value) (base : Heap) (k : Nat) (f : Addr) (fd : FuncData) (ps : List Str) (m : Fz) : Prop := FnG P w K mg base k f fd ps (spZ K ps.length m)
/-- the end of a def: what it made for itself may be forgotten -/
def endZ (S0 : Store) (Q : D → Store → Prop) (d : D) (S : Store) : Prop := Q d S ∨ ∃ S', Fewer S0 S S' ∧ d.sc S0.length ∧ Q d S'
def endX (S0 : Store) (E : XD → Store → Prop) (x : XD) (S : Store) : Prop := E x S ∨ ∃ S', Fewer S0 S S' ∧ scK S0.length x.2 ∧ E x S'
def bodyZ (n : Nat) (g : Gm) : Fz := fun ds S Q E => g { nx := fun _ S' => endZ S Q .non S', rt := endZ S Q, bk := fun _ _ => False, ct := fun _ _ => False, xe := fun _ => endX S E } (ds.map some ++ List.replicate (n - ds.length) none) S
theorem end_lnk {K : PySem.W.Frag} {w0 : Wd} {H0 : Hp} {S0 : Store} {Q : D → Store → Prop} {QV : VK} (r0 : RS K w0 H0 S0) (lk : Lnk K (Rep K) w0 Q QV) : Lnk K (Rep K) w0 (endZ S0 Q) QV := by
  intro w' H' S' d v l r e h
  rcases h with h | ⟨S2, f, sc, h⟩
  · exact lk w' H' S' d v l r e h
  · obtain ⟨r2, l2⟩ := RS.fewer r0 r l f
    exact lk _ H' S2 d v l2 r2 (Rep.cut d e (by rw [r0.n]; exact sc)) h
section
variable {P : Program} {w : World} {K : PySem.W.Frag} {mg : Str → Option Value} {base : Heap}
theorem Around.guards_deeper {A : Around} (h : A.guards = some []) (env : PySem.Env) : (A.deeper env).guards = some [] := by
  simpa [Around.deeper, Around.under, Code.guards] using h
theorem fn_ofG {k : Nat} {f : Addr} {name qual : Str} {params : Arguments} {body : List Stmt} {scope : Scope} {dV kV doc pm cdv ct oc : Value} {an od : Option Addr}
    {osl : Array (Option Value)} {N ps : List Str} {sp : Sp} (lk : K.lookup f = some ⟨oc, od, .func (PySem.W.fnOf name qual params body scope dV kV doc pm an cdv ct), osl⟩) (hcd : PySem.W.codeIn K cdv qual = true) (S : FnScope N ps scope)
    (len : ∀ vs H Q E, sp vs H Q E → vs.length = ps.length)
    (hbody : ∀ (A : Around) (outer : List PySem.Env) (s : Shared) (H : Hp) (vs : List V) (Q : VK) (E : XK), Room k (A.deeper (envOfC qual scope s.heap.objs.size f cdv)) → (A.deeper (envOfC qual scope s.heap.objs.size f cdv)).guards = some [] → sp vs H Q E →
      ∃ t, PSs (cxOf (L2.CX P w) P w K mg base N qual scope f cdv A outer s H E) body t ∧ t { nx := fun _ H' => Q .non H', rt := Q } (start N vs) H) :
    FnG P w K mg base (k + 1) f (PySem.W.fnOf name qual params body scope dV kV doc pm an cdv ct) ps sp := by
  refine ⟨len, fun A outer s H args us vs Q E hr hg e0 hb r hsp => ?_⟩
  have hl := len _ _ _ _ hsp
  have KX : K.In s.heap := e0.mod.kin.keeps fun b o e => (e0.bs b o e).1
  have lim : s.heap.NoLimit := e0.mod.nolimit.keeps fun b o e => (e0.bs b o e).1
  have hkind : ∀ y ∈ ps.zip us, scope.names.lookup y.1 = some .local ∨ (scope.names.lookup y.1 = some .cell ∧ ((cellsFrom (s.heap.objs.size + 1) scope.names []).lookup y.1).isSome = true) := fun ⟨n, v⟩ hy => by
    rcases S.par n (List.of_mem_zip hy).1 with q | q
    · exact .inl q
    · exact .inr ⟨q, PySem.W.cellsFrom_some _ _ _ (.inl q)⟩
  refine codeAny_call_function hr.depth (KX _ _ lk) rfl S.co S.gen rfl (PySem.W.codeRec_of KX hcd) (hb _ _ _ _ ?_)
  refine wpAny_newFunctionEnv_cells S.kind hkind fun env he s1 x => ?_
  subst he
  refine ⟨lim.keeps x.toInCall.keep, codeAny_func ?_⟩
  obtain ⟨t, ht, hq⟩ := hbody A outer s H vs Q E (hr.deeper _) (Around.guards_deeper hg _) hsp
  have I : Inv (cxOf (L2.CX P w) P w K mg base N qual scope f cdv A outer s H E) [] (start N vs) H s1 := inv_start S hr.hd e0 hl r x
  refine wpAny_mono (ht.run [] s1 (start N vs) H _ I hq) (fun fl s' hs => ?_) fun e s' hs => hs
  have fin : ∀ {σ' : L2.St} {H' : Hp} {v : V} {u : Value}, Inv (cxOf (L2.CX P w) P w K mg base N qual scope f cdv A outer s H E) [] σ' H' s' → RelV v u → Q v H' → CE outer P w H s Q u s' :=
    fun {σ' H' v u} J rv q => ⟨v, H', J.os, J.bare, J.base, J.hok, rv, q⟩
  cases fl with
  | ret u =>
    obtain ⟨v, σ', H', J, rv, q⟩ := hs
    exact fin J rv q
  | next =>
    obtain ⟨σ', H', J, q⟩ := hs
    exact fin (v := V.non) (u := Value.none) J rfl q
  | brk =>
    obtain ⟨_, _, _, q⟩ := hs
    exact False.elim q
  | cont =>
    obtain ⟨_, _, _, q⟩ := hs
    exact False.elim q
/-- what a def's body is walked in -/
structure Ctx (X : Cx) (W : WX) (k : Nat) : Prop where
  hr : Room k X.A
  hg : X.A.guards = some []
  tk : Takes X W
  calm : X.calm = true
theorem takes_fn {N : List Str} {qual : Str} {scope : Scope} {f : Addr} {cdv : Value} {A : Around} {outer : List PySem.Env} {s : Shared} {H : Hp} {E : XK} : Takes (cxOf (L2.CX P w) P w K mg base N qual scope f cdv A outer s H E) (fun cls d _ H => E cls d H) := takes_of rfl rfl rfl rfl
/-- THE RULE of a def -/
theorem FunD.z {x qual : Str} {params : Arguments} {body : List Stmt} {scope : Scope} {dvs : List V} {kws : List (Str × V)} {f : Addr} {fd : FuncData} {N ps : List Str} {k : Nat} {t : TS} {g : Gm} (F : FunD K x qual params body scope dvs kws f fd) (S : FnScope N ps scope)
    (h : ∀ (X : Cx) (W : WX), X.prog = P → X.w = w → X.K = K → X.mg = mg → X.base = base → X.N = N → X.env.scope = scope → X.fn = (fun _ => true) → X.stack = X.env :: X.outer → X.env.frame = some X.env.locals → PassesOwn (model X.prog X.w) X.A X.env X.xe → Ctx X W k → ∃ t, SsZ X W body t g) : FnZ P w K mg base (k + 1) f fd ps (bodyZ N.length g) := by
  obtain ⟨oc, od, dV, kV, doc, pm, an, cdv, ct, osl, rfl, lk, hcd, _, _⟩ := F.ex
  refine fn_ofG lk hcd S (fun vs H Q E hs => ?_) fun A outer s H vs Q E hr hg hs => ?_
  · obtain ⟨w', S', ds, _, _, hl, _, hd, _⟩ := hs
    rw [hd.length, hl]
  · obtain ⟨w', S', ds, Qd, Ed, hl, rs, hd, hm, lkQ, lkE⟩ := hs
    obtain ⟨t, ht⟩ := h (cxOf (L2.CX P w) P w K mg base N qual scope f cdv A outer s H E) (fun cls d _ H => E cls d H) rfl rfl rfl rfl rfl rfl rfl rfl rfl rfl (passes_of rfl) ⟨hr, hg, takes_fn, rfl⟩
    refine ⟨t, ht.ps, ht.z.run w' H S' (start N vs) _ _ _ rs (RepE.start N hd) hm ⟨?_, ?_, ?_, ?_, ?_⟩⟩
    · intro w2 H2 S2 σ2 δ2 l r2 _ q
      exact end_lnk rs lkQ w2 H2 S2 _ _ l r2 (cst_non w2) q
    · intro w2 H2 S2 d v l r2 e q
      exact end_lnk rs lkQ w2 H2 S2 _ _ l r2 e q
    · intro w2 H2 S2 σ2 δ2 l r2 _ q
      exact q.elim
    · intro w2 H2 S2 σ2 δ2 l r2 _ q
      exact q.elim
    · intro w2 H2 S2 σ2 δ2 x cls dd l r2 _ rx q
      rcases q with q | ⟨S3, fw, sc, q⟩
      · exact lkE w2 H2 S2 x cls dd l r2 rx q
      · obtain ⟨r3, l3⟩ := RS.fewer rs r2 l fw
        obtain ⟨e1, d, fvs, e2, e3, e4⟩ := rx
        exact lkE _ H2 S3 x cls dd l3 r3 ⟨e1, d, fvs, e2, e3, RepK.cut _ e4 (by rw [rs.n]; exact sc)⟩ q
/-- another, weaker or abstracter, saying of what a def does -/
theorem FnZ.imp {k : Nat} {f : Addr} {fd : FuncData} {ps : List Str} {m m' : Fz} (F : FnZ P w K mg base k f fd ps m) (h : ∀ ds S Q E, ds.length = ps.length → m' ds S Q E → m ds S Q E) : FnZ P w K mg base k f fd ps m' := by
  refine ⟨fun vs H Q E hs => ?_, fun A outer s H args us vs Q E hr hg e0 hb r hs => F.run A outer s H args us vs Q E hr hg e0 hb r ?_⟩
  · obtain ⟨w', S', ds, _, _, hl, _, hd, _⟩ := hs
    rw [hd.length, hl]
  · obtain ⟨w', S', ds, Qd, Ed, hl, rs, hd, hm, lkQ, lkE⟩ := hs
    exact ⟨w', S', ds, Qd, Ed, hl, rs, hd, h ds S' Qd Ed hl hm, lkQ, lkE⟩
theorem FnG.mono {j k : Nat} {f : Addr} {fd : FuncData} {ps : List Str} {sp : Sp} (F : FnG P w K mg base j f fd ps sp) (h : j ≤ k) : FnG P w K mg base k f fd ps sp := ⟨F.len, fun A outer s H args us vs Q E hr => F.run A outer s H args us vs Q E (hr.mono h)⟩
end

/-! ### calls -/
section
variable {X : Cx} {W : WX} {k n : Nat} {f C : Addr} {fd : FuncData} {ps ks : List Str} {sp : Sp} {dvs : List V} {ds : List Value} {x m : Str} {p pos apos : Pos} {e o : Expr} {es : List Expr} {kws : List Keyword} {ta : TE} {t tk : TA} {g : List Value → List Value → List Value} {gV : List V → List V → List V}
theorem run_fnG {pins : List (Addr × Obj)} {σ : L2.St} {H : Hp} {s : Shared} {Q : VK} {us : List Value} {vs : List V} (F : FnG X.prog X.w X.K X.mg X.base k f fd ps sp) (c : Ctx X W k) (hb : Binds X.K fd ps ds) (hd : Vals dvs ds)
    (I : Inv X pins σ H s) (r : Vals vs us) (h : sp (vs ++ dvs) H Q (WE W σ)) : wpAny (model X.prog X.w) X.A (call (.ref f) us) (EP X pins σ Q) X.xe s := by
  have r2 : Vals (vs ++ dvs) (us ++ ds) := r.append hd
  have hl : (us ++ ds).length = ps.length := by rw [← r2.length]; exact F.len _ _ _ _ h
  refine wpAny_call (codeAny_mono (F.run X.A X.stack s H ⟨us, []⟩ (us ++ ds) (vs ++ dvs) Q (WE W σ) c.hr c.hg I.env0 (hb s us I.kIn hl) r2 h) fun r s' hq => ?_)
  cases r with
  | error e => exact passAt c.tk σ pins H s e s' I hq
  | ok fl =>
    cases fl with
    | ret u => exact I.after hq
    | next => exact False.elim hq
    | brk => exact False.elim hq
    | cont => exact False.elim hq
theorem run_fnGN {pins : List (Addr × Obj)} {σ : L2.St} {H : Hp} {s : Shared} {Q : VK} {us ws : List Value} {vs zs : List V} (F : FnG X.prog X.w X.K X.mg X.base k f fd ps sp) (c : Ctx X W k) (hb : KBn X.K fd ps n ks g gV)
    (I : Inv X pins σ H s) (r : Vals vs us) (rz : Vals zs ws) (l1 : vs.length = n) (l2 : zs.length = ks.length) (h : sp (gV vs zs) H Q (WE W σ)) : wpAny (model X.prog X.w) X.A (call (.ref f) us (ks.zip ws)) (EP X pins σ Q) X.xe s := by
  have r2 := hb.rel r rz
  refine wpAny_call (codeAny_mono (F.run X.A X.stack s H ⟨us, ks.zip ws⟩ (g us ws) (gV vs zs) Q (WE W σ) c.hr c.hg I.env0 (hb.to s us ws I.kIn (r.length.symm.trans l1) (rz.length.symm.trans l2)) r2 h) fun r s' hq => ?_)
  cases r with
  | error e => exact passAt c.tk σ pins H s e s' I hq
  | ok fl =>
    cases fl with
    | ret u => exact I.after hq
    | next => exact False.elim hq
    | brk => exact False.elim hq
    | cont => exact False.elim hq
def tCallG (sp : Sp) (dvs : List V) (W : WX) (t : TA) : TE := fun σ H Q => t σ H fun vs H1 => sp (vs ++ dvs) H1 Q (WE W σ)
def tMethG (C : Addr) (m : Str) (sp : Sp) (dvs : List V) (W : WX) (ta : TE) (t : TA) : TE := fun σ H Q => ta σ H fun x H1 => ∃ a dx fs, x = .ref a ∧ H1 a = some (.ins C dx fs) ∧ fs.lookup m = none ∧ t σ H1 fun vs H2 => sp (x :: (vs ++ dvs)) H2 Q (WE W σ)
def tCallGN (n m : Nat) (sp : Sp) (gV : List V → List V → List V) (W : WX) (t tk : TA) : TE := fun σ H Q => t σ H fun vs H1 => tk σ H1 fun zs H2 => vs.length = n ∧ zs.length = m ∧ sp (gV vs zs) H2 Q (WE W σ)
theorem pe_callG (F : FnG X.prog X.w X.K X.mg X.base k f fd ps sp) (c : Ctx X W k) (hg : Gl X x) (hm : X.mg x = some (.ref f)) (hk : PySem.W.keepIn X.K (.ref f) = true) (hb : Binds X.K fd ps ds) (hd : Vals dvs ds)
    (ha : PA X (e :: es) t) (hdb : (x == ("__debug__" : Str)) = false := by decide) (he : starEach (e :: es) X.env = (false, eval e X.env) :: starEach es X.env := by rfl) (hpl : (backTo pos (starEach es X.env)).any (·.1) = false := by rfl) :
    PE X (.Call (.Name x p) (e :: es) [] pos) (tCallG sp dvs W t) := by
  refine ⟨fun pins s σ H Q I h => ?_⟩
  refine wpAny_Call_Name_kw (ld_glob I hg hm ?_ hdb)
  refine PySem.W.callWith_K (h₀ := X.base) I.ok.mod.kin hk (thn (ha.run pos pins s σ H _ I h) fun us s1 ⟨vs, H1, I1, r, q⟩ => ⟨I1.kIn, ?_⟩) he hpl
  exact run_fnG F c hb hd I1 r q
theorem pe_callG0 (F : FnG X.prog X.w X.K X.mg X.base k f fd ps sp) (c : Ctx X W k) (hg : Gl X x) (hm : X.mg x = some (.ref f)) (hk : PySem.W.keepIn X.K (.ref f) = true) (hb : Binds X.K fd ps ds) (hd : Vals dvs ds)
    (hdb : (x == ("__debug__" : Str)) = false := by decide) : PE X (.Call (.Name x p) [] [] pos) (tCallG sp dvs W tNil) := by
  refine ⟨fun pins s σ H Q I h => ?_⟩
  refine wpAny_Call_Name_kw (ld_glob I hg hm ?_ hdb)
  exact PySem.W.callWith_K0 I.kIn hk (run_fnG (us := []) F c hb hd I .nil h)
theorem pe_callGN (F : FnG X.prog X.w X.K X.mg X.base k f fd ps sp) (c : Ctx X W k) (hg : Gl X x) (hm : X.mg x = some (.ref f)) (hk : PySem.W.keepIn X.K (.ref f) = true) (hb : KBn X.K fd ps n ks g gV)
    (ha : PA X (e :: es) t) (hkw : PK X kws tk) (hall : (backToKw pos (keywordEach kws X.env)).all (·.1.isSome) = true := by rfl) (hks : (backToKw pos (keywordEach kws X.env)).filterMap (·.1) = ks := by rfl)
    (hdb : (x == ("__debug__" : Str)) = false := by decide) (he : starEach (e :: es) X.env = (false, eval e X.env) :: starEach es X.env := by rfl)
    (hpl : ((backTo pos (starEach (e :: es) X.env)).any (·.1) || (backToKw pos (keywordEach kws X.env)).any (·.1.isNone)) = false := by rfl) :
    PE X (.Call (.Name x p) (e :: es) kws pos) (tCallGN n ks.length sp gV W t tk) := by
  refine ⟨fun pins s σ H Q I h => ?_⟩
  refine wpAny_Call_Name_kw (ld_glob I hg hm ?_ hdb)
  refine PySem.W.callWith_KW (h₀ := X.base) I.ok.mod.kin hk hall (thn (ha.run pos pins s σ H _ I h) fun us s1 ⟨vs, H1, I1, r, q⟩ => ?_) hpl he
  refine thn (hkw.run pos pins s1 σ H1 _ I1 q) fun ws s2 ⟨zs, H2, I2, rz, l1, l2, q2⟩ => ⟨I2.kIn, ?_⟩
  rw [hks]
  exact run_fnGN F c hb I2 r rz l1 l2 q2
theorem pe_methG {pl : Sem Bool} (he : PE X o ta) (c : Cls X.K C) (hm : Meth X.K C m f) (F : FnG X.prog X.w X.K X.mg X.base k f fd ps sp) (cx : Ctx X W k) (hb : Binds X.K fd ps ds) (hd : Vals dvs ds) (ha : PA X (e :: es) t)
    (hst : starEach (e :: es) X.env = (false, eval e X.env) :: starEach es X.env := by rfl) (hpl : (backTo pos (starEach es X.env)).any (·.1) = false := by rfl)
    (ht : eval (.Call (.Attribute o m apos) (e :: es) [] pos) X.env = (do
      let ov ← eval o X.env
      standAt apos.atName
      let (f, first) ← holding [ov] (getMethod ov m pl)
      callWith pos f first (backTo pos (starEach (e :: es) X.env)) (backToKw pos (keywordEach [] X.env))) := by rfl) :
    PE X (.Call (.Attribute o m apos) (e :: es) [] pos) (tMethG C m sp dvs W ta t) := by
  refine ⟨fun pins s σ H Q I h => ?_⟩
  refine PySem.W.methodCall_KW (pl := pl) (thn (he.run pins s σ H _ I h) fun u s1 ⟨x, H1, I1, rx, a, dx, fs, ex, ea, l, q⟩ => ?_) ht
  subst ex
  obtain rfl : u = Value.ref a := rx
  refine getmeth_ok I1 ea c hm l ?_
  refine PySem.W.callWith_K (first := [.ref a]) (h₀ := X.base) I.ok.mod.kin hm.kp (thn (ha.run pos pins s1 σ H1 _ I1 q) fun us s2 ⟨vs, H2, I2, r, q2⟩ => ⟨I2.kIn, ?_⟩) hst hpl
  exact run_fnG (us := .ref a :: us) (vs := .ref a :: vs) F cx hb hd I2 (.cons rfl r) q2
theorem pe_methG0 {pl : Sem Bool} (he : PE X o ta) (c : Cls X.K C) (hm : Meth X.K C m f) (F : FnG X.prog X.w X.K X.mg X.base k f fd ps sp) (cx : Ctx X W k) (hb : Binds X.K fd ps ds) (hd : Vals dvs ds)
    (ht : eval (.Call (.Attribute o m apos) [] [] pos) X.env = (do
      let ov ← eval o X.env
      standAt apos.atName
      let (f, first) ← holding [ov] (getMethod ov m pl)
      callWith pos f first (backTo pos (starEach [] X.env)) (backToKw pos (keywordEach [] X.env))) := by rfl) :
    PE X (.Call (.Attribute o m apos) [] [] pos) (tMethG C m sp dvs W ta tNil) := by
  refine ⟨fun pins s σ H Q I h => ?_⟩
  refine PySem.W.methodCall_KW (pl := pl) (thn (he.run pins s σ H _ I h) fun u s1 ⟨x, H1, I1, rx, a, dx, fs, ex, ea, l, q⟩ => ?_) ht
  subst ex
  obtain rfl : u = Value.ref a := rx
  refine getmeth_ok I1 ea c hm l ?_
  exact PySem.W.callWith_K0 (first := [.ref a]) I1.kIn hm.kp (run_fnG (us := [.ref a]) (vs := [.ref a]) F cx hb hd I1 (.cons rfl .nil) q)

/-! ### over deep values -/
variable {K : PySem.W.Frag} {mZ : Fz} {d0 : List D} {fa : Env → Wm D} {fs fk : Env → Wm (List D)}
def CstL (K : PySem.W.Frag) (ds : List D) (vs : List V) : Prop := ∀ w, RepL K w ds vs
theorem cstL_nil : CstL K [] [] := fun w => .nil
theorem cstL_cons {d : D} {v : V} {l : List D} {r : List V} (h : Cst K d v) (t : CstL K l r) : CstL K (d :: l) (v :: r) := fun w => .cons (h w) (t w)
/-- a call: n arguments in all, the last ones d0 by default -/
def callZ (n : Nat) (m : Fz) (d0 : List D) (fs : Env → Wm (List D)) : Env → Wm D := fun δ S Q E => fs δ S (fun ds S1 => (ds ++ d0).length = n ∧ m (ds ++ d0) S1 Q E) E
theorem zq_call (h0 : CstL K d0 dvs) (ha : Zq K W (RepL K) t fs) : Zq K W (Rep K) (tCallG (spZ K n mZ) dvs W t) (callZ n mZ d0 fs) := ⟨fun w H S σ δ Q E QV rs re h lk lx =>
  ha.run w H S σ δ _ E _ rs re h (fun w1 H1 S1 dx x l1 r1 e1 h1 => ⟨w1, S1, dx ++ d0, Q, E, h1.1, r1, e1.append (h0 w1), h1.2, lk.le l1, fun w' H' S' x cls dd l => lx w' H' S' x cls dd (l1.trans l)⟩) lx⟩
def callNZ (n1 n2 n : Nat) (m : Fz) (gD : List D → List D → List D) (fs fk : Env → Wm (List D)) : Env → Wm D := fun δ S Q E => fs δ S (fun ds S1 => fk δ S1 (fun zs S2 => ds.length = n1 ∧ zs.length = n2 ∧ (gD ds zs).length = n ∧ m (gD ds zs) S2 Q E) E) E
def RelG (K : PySem.W.Frag) (gD : List D → List D → List D) (gV : List V → List V → List V) : Prop := ∀ w ds vs es zs, RepL K w ds vs → RepL K w es zs → RepL K w (gD ds es) (gV vs zs)
theorem zq_callN {n1 n2 : Nat} {gD : List D → List D → List D} (h0 : RelG K gD gV) (ha : Zq K W (RepL K) t fs) (hk : Zq K W (RepL K) tk fk) : Zq K W (Rep K) (tCallGN n1 n2 (spZ K n mZ) gV W t tk) (callNZ n1 n2 n mZ gD fs fk) := ⟨fun w H S σ δ Q E QV rs re h lk lx =>
  ha.run w H S σ δ _ E _ rs re h (fun w1 H1 S1 dx x l1 r1 e1 h1 => hk.run w1 H1 S1 σ δ _ E _ r1 (re.le l1) h1 (fun w2 H2 S2 dy y l2 r2 e2 h2 =>
    ⟨by rw [e1.length]; exact h2.1, by rw [e2.length]; exact h2.2.1, w2, S2, gD dx dy, Q, E, h2.2.2.1, r2, h0 w2 _ _ _ _ (RepL.le l2 _ e1) e2, h2.2.2.2, lk.le (l1.trans l2), fun w' H' S' x cls dd l => lx w' H' S' x cls dd ((l1.trans l2).trans l)⟩) (lx.le l1)) lx⟩
theorem fld_val {w : Wd} {f : Str} : ∀ {l : List (Key × D)} {fs : List (Str × V)}, RepK K w l (fs.map fun q => (.inr q.1, q.2)) → (∀ d, valD l (.inr f) = some d → ∃ v, fs.lookup f = some v ∧ Rep K w d v) ∧ (valD l (.inr f) = none → fs.lookup f = none) := fun {l fs} h => by
  have key : ∀ fs : List (Str × V), valV (fs.map fun q => ((.inr q.1 : Key), q.2)) (.inr f) = fs.lookup f := by
    intro fs
    induction fs with
    | nil => rfl
    | cons p r ih =>
      obtain ⟨g, y⟩ := p
      unfold valV at *
      by_cases hk : g = f
      · subst hk
        simp [List.lookup]
      · have e1 : decide ((Sum.inr g : Key) = Sum.inr f) = false := decide_eq_false fun q => hk (Sum.inr.inj q)
        have e2 : (f == g) = false := by simpa using fun q : f = g => hk q.symm
        rw [List.map_cons, List.find?_cons, e1, List.lookup_cons, e2]
        exact ih
  have z := RepK.val (.inr f) h
  rw [key] at z
  exact z
/-- o.m(..): o an object of the class at C; no field of it hides the method -/
def methZ (C : Addr) (m : Str) (n : Nat) (mm : Fz) (d0 : List D) (fa : Env → Wm D) (fs : Env → Wm (List D)) : Env → Wm D := fun δ S Q E => fa δ S (fun x S1 => (∃ l, insOf S1 x = some (C, l) ∧ valD l (.inr m) = none) ∧ fs δ S1 (fun ds S2 => (x :: (ds ++ d0)).length = n ∧ mm (x :: (ds ++ d0)) S2 Q E) E) E
theorem zq_meth (h0 : CstL K d0 dvs) (ho : Zq K W (Rep K) ta fa) (ha : Zq K W (RepL K) t fs) : Zq K W (Rep K) (tMethG C m (spZ K n mZ) dvs W ta t) (methZ C m n mZ d0 fa fs) := ⟨fun w H S σ δ Q E QV rs re h lk lx =>
  ho.run w H S σ δ _ E _ rs re h (fun w1 H1 S1 dx x l1 r1 e1 h1 => by
    obtain ⟨⟨l, hi, hl⟩, h1⟩ := h1
    obtain ⟨a, dx', fvs, rfl, h2, h3⟩ := ins_at r1 e1 hi
    refine ⟨a, dx', fvs, rfl, h2, (fld_val h3).2 hl, ?_⟩
    exact ha.run w1 H1 S1 σ δ _ E _ r1 (re.le l1) h1 (fun w2 H2 S2 dy y l2 r2 e2 h2 =>
      ⟨w2, S2, dx :: (dy ++ d0), Q, E, h2.1, r2, .cons (Rep.le l2 _ e1) (e2.append (h0 w2)), h2.2, lk.le (l1.trans l2), fun w' H' S' x cls dd l => lx w' H' S' x cls dd ((l1.trans l2).trans l)⟩) (lx.le l1)) lx⟩
theorem EZ.call (F : FnZ X.prog X.w X.K X.mg X.base k f fd ps mZ) (c : Ctx X W k) (hg : Gl X x) (hm : X.mg x = some (.ref f)) (hk : PySem.W.keepIn X.K (.ref f) = true) (hb : Binds X.K fd ps ds) (hd : Vals dvs ds) (h0 : CstL X.K d0 dvs)
    (ha : AZ X W (e :: es) t fs) (hdb : (x == ("__debug__" : Str)) = false := by decide) (he : starEach (e :: es) X.env = (false, eval e X.env) :: starEach es X.env := by rfl) (hpl : (backTo pos (starEach es X.env)).any (·.1) = false := by rfl) :
    EZ X W (.Call (.Name x p) (e :: es) [] pos) (tCallG (spZ X.K ps.length mZ) dvs W t) (callZ ps.length mZ d0 fs) := ⟨pe_callG F c hg hm hk hb hd ha.pe hdb he hpl, zq_call h0 ha.z⟩
theorem EZ.call0 (F : FnZ X.prog X.w X.K X.mg X.base k f fd ps mZ) (c : Ctx X W k) (hg : Gl X x) (hm : X.mg x = some (.ref f)) (hk : PySem.W.keepIn X.K (.ref f) = true) (hb : Binds X.K fd ps ds) (hd : Vals dvs ds) (h0 : CstL X.K d0 dvs)
    (hdb : (x == ("__debug__" : Str)) = false := by decide) : EZ X W (.Call (.Name x p) [] [] pos) (tCallG (spZ X.K ps.length mZ) dvs W tNil) (callZ ps.length mZ d0 nilZ) := ⟨pe_callG0 F c hg hm hk hb hd hdb, zq_call h0 AZ.nil.z⟩
theorem EZ.meth {pl : Sem Bool} (F : FnZ X.prog X.w X.K X.mg X.base k f fd ps mZ) (c : Ctx X W k) (cl : Cls X.K C) (hm : Meth X.K C m f) (hb : Binds X.K fd ps ds) (hd : Vals dvs ds) (h0 : CstL X.K d0 dvs)
    (ho : EZ X W o ta fa) (ha : AZ X W (e :: es) t fs) (hst : starEach (e :: es) X.env = (false, eval e X.env) :: starEach es X.env := by rfl) (hpl : (backTo pos (starEach es X.env)).any (·.1) = false := by rfl)
    (ht : eval (.Call (.Attribute o m apos) (e :: es) [] pos) X.env = (do
      let ov ← eval o X.env
      standAt apos.atName
      let (f, first) ← holding [ov] (getMethod ov m pl)
      callWith pos f first (backTo pos (starEach (e :: es) X.env)) (backToKw pos (keywordEach [] X.env))) := by rfl) :
    EZ X W (.Call (.Attribute o m apos) (e :: es) [] pos) (tMethG C m (spZ X.K ps.length mZ) dvs W ta t) (methZ C m ps.length mZ d0 fa fs) := ⟨pe_methG ho.pe cl hm F c hb hd ha.pe hst hpl ht, zq_meth h0 ho.z ha.z⟩
theorem EZ.meth0 {pl : Sem Bool} (F : FnZ X.prog X.w X.K X.mg X.base k f fd ps mZ) (c : Ctx X W k) (cl : Cls X.K C) (hm : Meth X.K C m f) (hb : Binds X.K fd ps ds) (hd : Vals dvs ds) (h0 : CstL X.K d0 dvs)
    (ho : EZ X W o ta fa) (ht : eval (.Call (.Attribute o m apos) [] [] pos) X.env = (do
      let ov ← eval o X.env
      standAt apos.atName
      let (f, first) ← holding [ov] (getMethod ov m pl)
      callWith pos f first (backTo pos (starEach [] X.env)) (backToKw pos (keywordEach [] X.env))) := by rfl) :
    EZ X W (.Call (.Attribute o m apos) [] [] pos) (tMethG C m (spZ X.K ps.length mZ) dvs W ta tNil) (methZ C m ps.length mZ d0 fa nilZ) := ⟨pe_methG0 ho.pe cl hm F c hb hd ht, zq_meth h0 ho.z AZ.nil.z⟩
end
end Z
/-! ZSeq: objects made, things frozen, subscripts, slices, in, fields, stores, methods of lists, dicts, texts. -/
namespace Z
open PySem L2 PySem.Spec PyProof.Rows
section
variable {X : Cx} {W : WX} {K : PySem.W.Frag} {a b c e o i : Expr} {te ta tb tc : TE} {f fa fb fc : Env → Wm D} {pos : Pos}

/-! ### freezing -/
def C.frz : C → Option D
  | .lst l => some (.lst l)
  | .dic l => some (.dic l)
  | .ins C l => some (.ins C l)
  | _ => none
theorem frz_at {w : Wd} {H : Hp} {S : Store} (r : RS K w H S) {n : Nat} {c : C} {d : D} (e : S[n]? = some c) (hf : c.frz = some d) : ∃ w', w.le w' ∧ w'.n = w.n ∧ RS K w' H (S.set n .dead) ∧ Rep K w' d (.ref (w.rho n)) := by
  have z := r.at_ n c e
  cases c with
  | lst l =>
    cases hf
    obtain ⟨hn, xs, h1, h2⟩ := z
    refine ⟨w.frz (w.rho n) (.lst xs), le_frz hn, rfl, r.freeze e trivial h1, ?_⟩
    simp only [Rep]
    exact ⟨_, xs, rfl, upd_same, RepL.le (le_frz hn) l h2⟩
  | dic l =>
    cases hf
    obtain ⟨hn, xs, h1, h2⟩ := z
    refine ⟨w.frz (w.rho n) (.dK xs), le_frz hn, rfl, r.freeze e trivial h1, ?_⟩
    simp only [Rep]
    exact ⟨_, xs, rfl, upd_same, RepK.le (le_frz hn) l h2⟩
  | ins C l =>
    cases hf
    obtain ⟨hn, dx, xs, h1, h2⟩ := z
    refine ⟨w.frz (w.rho n) (.ins C dx xs), le_frz hn, rfl, r.freeze e trivial h1, ?_⟩
    simp only [Rep]
    exact ⟨_, dx, xs, rfl, upd_same, RepK.le (le_frz hn) l h2⟩
  | abs p => cases hf
  | dead => cases hf
/-- what comes, frozen, with nothing kept that was made on the way -/
def frzQ (S0 : Store) (Q : D → Store → Prop) (x : D) (S1 : Store) : Prop := match x with
  | .hnd n => ∃ c d S2, S1[n]? = some c ∧ c.frz = some d ∧ Fewer S0 (S1.set n .dead) S2 ∧ d.sc S0.length ∧ Q d S2
  | _ => False
def frzE (fa : Env → Wm D) : Env → Wm D := fun δ S Q E => fa δ S (frzQ S Q) E
theorem frz_lnk {w : Wd} {H : Hp} {S : Store} (rs : RS K w H S) {Q : D → Store → Prop} {QV : VK} (lk : Lnk K (Rep K) w Q QV) : Lnk K (Rep K) w (frzQ S Q) QV := by
  intro w1 H1 S1 d v l r1 e1 h1
  unfold frzQ at h1
  split at h1
  · rename_i n
    obtain ⟨c, d, S2, h1, h2, h3, h4, q⟩ := h1
    obtain ⟨hv, _⟩ := hnd_at r1 e1
    obtain ⟨w2, l2, n2, r2, e2⟩ := frz_at r1 h1 h2
    obtain ⟨r3, l3⟩ := RS.fewer rs r2 (l.trans l2) h3
    exact lk _ H1 S2 d v l3 r3 (Rep.cut d (by rw [hv]; exact e2) (by rw [rs.n]; exact h4)) q
  · exact h1.elim
theorem zq_frz (h : Zq K W (Rep K) te f) : Zq K W (Rep K) te (frzE f) := ⟨fun w H S σ δ Q E QV rs re hf lk lx => h.run w H S σ δ _ E _ rs re hf (frz_lnk rs lk) lx⟩
theorem EZ.frz (h : EZ X W e te f) : EZ X W e te (frzE f) := ⟨h.pe, zq_frz h.z⟩
/-- a def whose new thing is told frozen -/
theorem FnZ.frz {P : Program} {w : World} {mg : Str → Option Value} {base : Heap} {k : Nat} {f : Addr} {fd : FuncData} {ps : List Str} {m : Fz} (F : FnZ P w K mg base k f fd ps m) : FnZ P w K mg base k f fd ps (fun ds S Q E => m ds S (frzQ S Q) E) := by
  refine ⟨fun vs H Q E hs => ?_, fun A outer s H args us vs Q E hr hg e0 hb r hs => F.run A outer s H args us vs Q E hr hg e0 hb r ?_⟩
  · obtain ⟨w', S', ds, _, _, hl, _, hd, _⟩ := hs
    rw [hd.length, hl]
  · obtain ⟨w', S', ds, Qd, Ed, hl, rs, hd, hm, lkQ, lkE⟩ := hs
    exact ⟨w', S', ds, _, Ed, hl, rs, hd, hm, frz_lnk rs lkQ, lkE⟩
/-- at a place of a block a name's thing is frozen -/
def frzG (i : Nat) (g : Gm) : Gm := fun D δ S => ∃ n c d, δ[i]? = some (some (.hnd n)) ∧ S[n]? = some c ∧ c.frz = some d ∧ g D (δ.set i (some d)) (S.set n .dead)
theorem SsZ.frz (i : Nat) {sts : List Stmt} {t : TS} {g : Gm} (h : SsZ X W sts t g) : SsZ X W sts t (frzG i g) := ⟨h.ps, ⟨fun w H S σ δ D Z rs re hg lk => by
  obtain ⟨n, c, d, h1, h2, h3, q⟩ := hg
  obtain ⟨w2, l2, n2, r2, e2⟩ := frz_at rs h2 h3
  refine h.z.run w2 H _ σ _ D Z r2 ?_ q (lk.le l2)
  obtain ⟨v, h5, h6⟩ := re.at_ i _ h1
  obtain ⟨hv, _⟩ := hnd_at rs h6
  have re2 := re.le l2
  refine ⟨by rw [List.length_set]; exact re2.len, fun j d' hj => ?_⟩
  by_cases hij : i = j
  · subst hij
    rw [List.getElem?_set_self (List.getElem?_eq_some_iff.mp h1).1] at hj
    cases hj
    exact ⟨v, h5, by rw [hv]; exact e2⟩
  · rw [List.getElem?_set_ne hij] at hj
    exact re2.at_ j d' hj⟩⟩

/-! ### an object of a class of the text -/
def tMakeG (C : Addr) (sp : Sp) (dvs : List V) (W : WX) (t : TA) : TE := fun σ H Q => t σ H fun vs H1 => ∀ x dx, H1 x = none → H1 dx = none → dx ≠ x →
  sp (.ref x :: (vs ++ dvs)) (upd (upd H1 dx (.own x)) x (.ins C dx [])) (fun v H2 => v = .non ∧ Q (.ref x) H2) (WE W σ)
def tMakeGN (C : Addr) (n m : Nat) (sp : Sp) (gV : List V → List V → List V) (W : WX) (t tk : TA) : TE := fun σ H Q => t σ H fun vs H1 => tk σ H1 fun zs H2 => vs.length = n ∧ zs.length = m ∧ ∀ x dx, H2 x = none → H2 dx = none → dx ≠ x →
  sp (gV (.ref x :: vs) zs) (upd (upd H2 dx (.own x)) x (.ins C dx [])) (fun v H3 => v = .non ∧ Q (.ref x) H3) (WE W σ)
section
variable {k n : Nat} {f C : Addr} {fd : FuncData} {ps ks : List Str} {sp : Sp} {dvs : List V} {ds : List Value} {x m : Str} {p apos : Pos} {es : List Expr} {kws : List Keyword} {t tk : TA} {g : List Value → List Value → List Value} {gV : List V → List V → List V}
theorem Ctx.make {W' : WX} (c : Ctx X W (k + 1)) (C : Addr) (us : List Value) (kw : List (Str × Value)) : Room k (X.A.under (.builtin "type.__call__" ⟨.ref C :: us, kw⟩)) ∧ (X.A.under (.builtin "type.__call__" ⟨.ref C :: us, kw⟩)).guards = some [] := by
  refine ⟨c.hr.make C us kw, ?_⟩
  have hh : guardIds.contains "type.__call__" = false := by decide +kernel
  have e : Code.guards (.builtin "type.__call__" ⟨.ref C :: us, kw⟩) = [] := by
    have h2 : (Code.builtin "type.__call__" ⟨.ref C :: us, kw⟩).isGuard = false := hh
    unfold Code.guards
    rw [h2]
    rfl
  have h : (X.A.under (.builtin "type.__call__" ⟨.ref C :: us, kw⟩)).guards = pushGuards (Code.guards (.builtin "type.__call__" ⟨.ref C :: us, kw⟩)) X.A.guards := rfl
  rw [h, e, c.hg]
  rfl
theorem run_makeG {pins : List (Addr × Obj)} {σ : L2.St} {H : Hp} {s : Shared} {Q : VK} {us ws : List Value} {kw : List (Str × Value)} {zs : List V} (M : Mk X.K C f) (F : FnG X.prog X.w X.K X.mg X.base k f fd ps sp) (c : Ctx X W (k + 1)) (I : Inv X pins σ H s)
    (hb : ∀ (a : Addr) (s' : Shared), X.K.In s'.heap → BindsTo s' fd ⟨.ref a :: us, kw⟩ (ps.zip (ws.set 0 (.ref a)))) (hz : ∀ a : Addr, Vals (zs.set 0 (.ref a)) (ws.set 0 (.ref a)))
    (h : ∀ x dx, H x = none → H dx = none → dx ≠ x → sp (zs.set 0 (.ref x)) (upd (upd H dx (.own x)) x (.ins C dx [])) (fun v H2 => v = .non ∧ Q (.ref x) H2) (WE W σ)) :
    wpAny (model X.prog X.w) X.A (call (.ref C) us kw) (EP X pins σ Q) X.xe s := by
  have hq := h (s.heap.objs.size + 1) s.heap.objs.size (I.hok.fresh (Nat.le_succ _)) (I.hok.fresh (Nat.le_refl _)) (Nat.ne_of_lt (Nat.lt_succ_self _))
  have I2 := Inv.made (C := C) I
  refine wpAny_call (make_map (f := f) I.kIn M.makes M.init (beq_iff_eq.mp M.fn) (codeAny_mono (F.run _ X.stack _ _ ⟨Value.ref (s.heap.objs.size + 1) :: us, kw⟩ (ws.set 0 (.ref (s.heap.objs.size + 1))) _ _ (WE W σ) (c.make (W' := W) C us kw).1 (c.make (W' := W) C us kw).2
    (I2.env0.make C us kw) (hb _ _ I2.kIn) (hz _) hq) fun r s' hq' => ?_))
  cases r with
  | error e => exact passAt c.tk σ pins _ _ e s' I2 hq'
  | ok fl =>
    cases fl with
    | ret u =>
      obtain ⟨v, H', I3, rv, ev, q3⟩ := I2.after hq'
      subst ev
      exact ⟨rv, ⟨V.ref (s.heap.objs.size + 1), H', I3, rfl, q3⟩⟩
    | next => exact False.elim hq'
    | brk => exact False.elim hq'
    | cont => exact False.elim hq'
theorem pe_makeG (M : Mk X.K C f) (F : FnG X.prog X.w X.K X.mg X.base k f fd ps sp) (c : Ctx X W (k + 1)) (hg : Gl X x) (hm : X.mg x = some (.ref C)) (hb : Binds X.K fd ps ds) (hd : Vals dvs ds)
    (ha : PA X (e :: es) t) (hdb : (x == ("__debug__" : Str)) = false := by decide) (he : starEach (e :: es) X.env = (false, eval e X.env) :: starEach es X.env := by rfl) (hpl : (backTo pos (starEach es X.env)).any (·.1) = false := by rfl) :
    PE X (.Call (.Name x p) (e :: es) [] pos) (tMakeG C sp dvs W t) := by
  refine ⟨fun pins s σ H Q I h => ?_⟩
  refine wpAny_Call_Name_kw (ld_glob I hg hm ?_ hdb)
  refine PySem.W.callWith_K (h₀ := X.base) I.ok.mod.kin M.kp (thn (ha.run pos pins s σ H _ I h) fun us s1 ⟨vs, H1, I1, r, q⟩ => ⟨I1.kIn, ?_⟩) he hpl
  have hl : (us ++ ds).length + 1 = ps.length := by
    have q1 := q (s1.heap.objs.size + 1) s1.heap.objs.size (I1.hok.fresh (Nat.le_succ _)) (I1.hok.fresh (Nat.le_refl _)) (Nat.ne_of_lt (Nat.lt_succ_self _))
    have := F.len _ _ _ _ q1
    rw [← this, List.length_cons, (r.append hd).length]
  refine run_makeG (ws := .none :: (us ++ ds)) (zs := .non :: (vs ++ dvs)) M F c I1 (fun a s' k' => hb s' (.ref a :: us) k' (by rw [List.cons_append, List.length_cons]; exact hl)) (fun a => .cons rfl (r.append hd)) q
theorem pe_makeG0 (M : Mk X.K C f) (F : FnG X.prog X.w X.K X.mg X.base k f fd ps sp) (c : Ctx X W (k + 1)) (hg : Gl X x) (hm : X.mg x = some (.ref C)) (hb : Binds X.K fd ps ds) (hd : Vals dvs ds)
    (hdb : (x == ("__debug__" : Str)) = false := by decide) : PE X (.Call (.Name x p) [] [] pos) (tMakeG C sp dvs W tNil) := by
  refine ⟨fun pins s σ H Q I h => ?_⟩
  refine wpAny_Call_Name_kw (ld_glob I hg hm ?_ hdb)
  have hl : ds.length + 1 = ps.length := by
    have q1 := h (s.heap.objs.size + 1) s.heap.objs.size (I.hok.fresh (Nat.le_succ _)) (I.hok.fresh (Nat.le_refl _)) (Nat.ne_of_lt (Nat.lt_succ_self _))
    have := F.len _ _ _ _ q1
    rw [← this, List.length_cons, List.nil_append, hd.length]
  exact PySem.W.callWith_K0 I.kIn M.kp (run_makeG (us := []) (kw := []) (ws := .none :: ds) (zs := .non :: dvs) M F c I (fun a s' k' => hb s' [.ref a] k' (by show ds.length + 1 = _; exact hl)) (fun a => .cons rfl hd) h)
theorem pe_makeGN (M : Mk X.K C f) (F : FnG X.prog X.w X.K X.mg X.base k f fd ps sp) (c : Ctx X W (k + 1)) (hg : Gl X x) (hm : X.mg x = some (.ref C)) (hb : KBn X.K fd ps (n + 1) ks g gV)
    (hset : ∀ (a : Value) (us ws : List Value), g (a :: us) ws = (g (.none :: us) ws).set 0 a) (hsetV : ∀ (a : V) (us ws : List V), gV (a :: us) ws = (gV (.non :: us) ws).set 0 a) (ha : PA X (e :: es) t) (hkw : PK X kws tk)
    (hall : (backToKw pos (keywordEach kws X.env)).all (·.1.isSome) = true := by rfl) (hks : (backToKw pos (keywordEach kws X.env)).filterMap (·.1) = ks := by rfl) (hdb : (x == ("__debug__" : Str)) = false := by decide)
    (he : starEach (e :: es) X.env = (false, eval e X.env) :: starEach es X.env := by rfl) (hpl : ((backTo pos (starEach (e :: es) X.env)).any (·.1) || (backToKw pos (keywordEach kws X.env)).any (·.1.isNone)) = false := by rfl) :
    PE X (.Call (.Name x p) (e :: es) kws pos) (tMakeGN C n ks.length sp gV W t tk) := by
  refine ⟨fun pins s σ H Q I h => ?_⟩
  refine wpAny_Call_Name_kw (ld_glob I hg hm ?_ hdb)
  refine PySem.W.callWith_KW (h₀ := X.base) I.ok.mod.kin M.kp hall (thn (ha.run pos pins s σ H _ I h) fun us s1 ⟨vs, H1, I1, r, q⟩ => ?_) hpl he
  refine thn (hkw.run pos pins s1 σ H1 _ I1 q) fun ws s2 ⟨zs, H2, I2, rz, l1, l2, q2⟩ => ⟨I2.kIn, ?_⟩
  rw [hks]
  refine run_makeG (us := us) (kw := ks.zip ws) (ws := g (.none :: us) ws) (zs := gV (.non :: vs) zs) M F c I2 (fun a s' k' => ?_) (fun a => ?_) (fun x dx h1 h2 h3 => ?_)
  · have := hb.to s' (.ref a :: us) ws k' (by rw [List.length_cons, ← r.length, l1]) (rz.length.symm.trans l2)
    rw [hset] at this
    exact this
  · rw [← hset, ← hsetV]
    exact hb.rel (.cons rfl r) rz
  · rw [← hsetV]
    exact q2 x dx h1 h2 h3
/-- .. over deep values: the object is mutable as yet -/
def makeZ (C : Addr) (n : Nat) (m : Fz) (d0 : List D) (fs : Env → Wm (List D)) : Env → Wm D := fun δ S Q E => fs δ S (fun ds S1 => (ds ++ d0).length + 1 = n ∧ m (.hnd S1.length :: (ds ++ d0)) (S1 ++ [.ins C []]) (fun v S2 => v = .non ∧ Q (.hnd S1.length) S2) E) E
def makeNZ (C : Addr) (n1 n2 n : Nat) (m : Fz) (gD : List D → List D → List D) (fs fk : Env → Wm (List D)) : Env → Wm D := fun δ S Q E => fs δ S (fun ds S1 => fk δ S1 (fun zs S2 => ds.length = n1 ∧ zs.length = n2 ∧ (gD (.hnd S2.length :: ds) zs).length = n ∧ m (gD (.hnd S2.length :: ds) zs) (S2 ++ [.ins C []]) (fun v S3 => v = .non ∧ Q (.hnd S2.length) S3) E) E) E
/-- a new instance, empty as yet -/
theorem made_at {w : Wd} {H : Hp} {S : Store} (r : RS K w H S) {x dx : Addr} (h1 : H x = none) (h2 : H dx = none) (h3 : dx ≠ x) : ∃ w', w.le w' ∧ RS K w' (upd (upd H dx (.own x)) x (.ins C dx [])) (S ++ [.ins C []]) ∧ Rep K w' (.hnd S.length) (.ref x) ∧ w'.rho S.length = x ∧ w'.n = S.length + 1 := by
  have l1 := le_frz (o := .own x) (r.fresh h2)
  have r1 := r.newF (.own x) h2
  have hx : upd H dx (.own x) x = none := by rw [upd_ne (Ne.symm h3)]; exact h1
  have l2 := le_add (w := w.frz dx (.own x)) (p := x)
  have hr : ((w.frz dx (.own x)).add x).rho S.length = x := by
    show (if S.length = w.n then x else w.rho S.length) = x
    rw [if_pos r.n.symm]
  refine ⟨(w.frz dx (.own x)).add x, l1.trans l2, r1.newH (c := .ins C []) hx ⟨r1.fresh hx, dx, [], upd_same, ?_⟩, ?_, hr, ?_⟩
  · exact RepK.nil
  · simp only [Rep]
    exact ⟨by show S.length < w.n + 1; rw [r.n]; exact Nat.lt_succ_self _, by rw [hr]⟩
  · show w.n + 1 = _
    rw [r.n]
theorem zq_make {mZ : Fz} {d0 : List D} {fs : Env → Wm (List D)} (h0 : CstL K d0 dvs) (ha : Zq K W (RepL K) t fs) : Zq K W (Rep K) (tMakeG C (spZ K n mZ) dvs W t) (makeZ C n mZ d0 fs) := ⟨fun w H S σ δ Q E QV rs re h lk lx =>
  ha.run w H S σ δ _ E _ rs re h (fun w1 H1 S1 dx xs l1 r1 e1 h1 x ddx n1 n2 n3 => by
    obtain ⟨w2, l2, r2, e2, hr, hn⟩ := made_at (C := C) r1 n1 n2 n3
    refine ⟨w2, S1 ++ [.ins C []], .hnd S1.length :: (dx ++ d0), _, E, by rw [List.length_cons]; exact h1.1, r2, .cons e2 (RepL.le l2 _ (e1.append (h0 w1))), h1.2, ?_, fun w' H' S' x cls dd l => lx w' H' S' x cls dd ((l1.trans l2).trans l)⟩
    intro w3 H3 S3 d v l3 r3 e3 q
    obtain ⟨q1, q2⟩ := q
    subst q1
    refine ⟨rep_non e3, lk w3 H3 S3 (.hnd S1.length) (.ref x) ((l1.trans l2).trans l3) r3 ?_ q2⟩
    exact Rep.le l3 _ e2) lx⟩
theorem zq_makeN {n1 n2 : Nat} {mZ : Fz} {gD : List D → List D → List D} {fs fk : Env → Wm (List D)} (h0 : RelG K gD gV) (ha : Zq K W (RepL K) t fs) (hk : Zq K W (RepL K) tk fk) : Zq K W (Rep K) (tMakeGN C n1 n2 (spZ K n mZ) gV W t tk) (makeNZ C n1 n2 n mZ gD fs fk) := ⟨fun w H S σ δ Q E QV rs re h lk lx =>
  ha.run w H S σ δ _ E _ rs re h (fun w1 H1 S1 dx xs l1 r1 e1 h1 => hk.run w1 H1 S1 σ δ _ E _ r1 (re.le l1) h1 (fun w1' H1' S1' dy ys l1' r1' e1' h1' => ⟨by rw [e1.length]; exact h1'.1, by rw [e1'.length]; exact h1'.2.1, fun x ddx m1 m2 m3 => by
    obtain ⟨w2, l2, r2, e2, hr, hn⟩ := made_at (C := C) r1' m1 m2 m3
    refine ⟨w2, S1' ++ [.ins C []], gD (.hnd S1'.length :: dx) dy, _, E, h1'.2.2.1, r2, h0 w2 _ _ _ _ (.cons e2 (RepL.le (l1'.trans l2) _ e1)) (RepL.le l2 _ e1'), h1'.2.2.2, ?_, fun w' H' S' x cls dd l => lx w' H' S' x cls dd (((l1.trans l1').trans l2).trans l)⟩
    intro w3 H3 S3 d v l3 r3 e3 q
    obtain ⟨q1, q2⟩ := q
    subst q1
    refine ⟨rep_non e3, lk w3 H3 S3 (.hnd S1'.length) (.ref x) (((l1.trans l1').trans l2).trans l3) r3 ?_ q2⟩
    exact Rep.le l3 _ e2⟩) (lx.le l1)) lx⟩
end
end
end Z
/-! ZAcc: subscripts, slices, in, fields, stores. -/
namespace Z
open PySem L2 PySem.Spec PyProof.Rows
section
variable {X : Cx} {W : WX} {K : PySem.W.Frag} {a b c e o i : Expr} {te ta tb tc : TE} {f fa fb fc : Env → Wm D} {pos : Pos}
/-! ### subscripts -/
theorem atI_rep {w : Wd} {l : List D} {xs : List V} (h : RepL K w l xs) {i : Int} {d : D} (e : atI l i = some d) : ∃ v, atI xs i = some v ∧ Rep K w d v := by
  unfold atI at *
  rw [h.length]
  cases q : ixN l.length i with
  | none => rw [q] at e; cases e
  | some j =>
    rw [q] at e
    exact h.get e
def getZ : D → D → Wm D := fun x y S Q _ => match y with
  | .int i => (match x with
    | .str z => z.length ≤ 100000 ∧ ∃ c, atI z.cps.toList i = some c ∧ Q (.str ⟨#[c]⟩) S
    | x => ∃ l d, seqOf S x = some l ∧ atI l i = some d ∧ Q d S)
  | _ => False
theorem oz_get : OpZ K (rIx K) getZ := by
  intro w H S x y dx dy Q E QV rs rx ry hg lk
  unfold getZ at hg
  split at hg
  · rename_i i
    split at hg
    · rename_i z
      obtain ⟨hz, c, h1, q⟩ := hg
      exact .inr (.inr ⟨z, i, c, rep_str rx, rep_int ry, small.ok hz, h1, lk w H S _ _ (Wd.le.refl w) rs (cst_str _ w) q⟩)
    · obtain ⟨l, d, h1, h2, q⟩ := hg
      obtain ⟨p, xs, hv, hx, hr⟩ := seq_at rs rx h1
      obtain ⟨v, h3, h4⟩ := atI_rep hr h2
      have fin := lk w H S d v (Wd.le.refl w) rs h4 q
      rcases hx with hx | hx
      · exact .inl ⟨p, xs, i, v, hv, rep_int ry, hx, h3, fin⟩
      · exact .inr (.inl ⟨p, xs, i, v, hv, rep_int ry, hx, h3, fin⟩)
  · exact hg.elim
theorem EZ.ix (ha : EZ X W a ta fa) (hb : EZ X W b tb fb) (hs : PlainIx b := by exact fun _ _ => rfl) : EZ X W (.Subscript a b pos) (tOp (rIx X.K) ta tb) (binZ getZ fa fb) := ⟨pe_ix ix_seq ha.pe hb.pe hs, zq_op oz_get ha.z hb.z⟩
/-- d[k], the key there -/
def dgetZ (fa fb : Env → Wm D) : Env → Wm D := binZ (fun x y S Q _ => ∃ l k d, dicOf S x = some l ∧ keyD y = some k ∧ valD l k = some d ∧ Q d S) fa fb
theorem EZ.dget {k : Nat} (cx : Ctx X W k) (ha : EZ X W a ta fa) (hb : EZ X W b tb fb) (hs : NoSl b := by exact fun _ _ => rfl) : EZ X W (.Subscript a b pos) (tDGet ta tb) (dgetZ fa fb) := ⟨pe_dget (by have := cx.hr.un; omega) ha.pe hb.pe hs, ⟨fun w H S σ δ Q E QV rs re h lk lx =>
  ha.z.run w H S σ δ _ E _ rs re h (fun w1 H1 S1 dx x l1 r1 e1 h1 =>
    hb.z.run w1 H1 S1 σ δ _ E _ r1 (re.le l1) h1 (fun w2 H2 S2 dy y l2 r2 e2 h2 => by
      obtain ⟨l, k, d, h3, h4, h5, q⟩ := h2
      obtain ⟨p, kvs, hv, hd, hk⟩ := dic_at r2 (Rep.le l2 _ e1) h3
      obtain ⟨v, h6, h7⟩ := (RepK.val k hk).1 d h5
      refine ⟨p, v, hv, ?_, lk w2 H2 S2 d v (l1.trans l2) r2 h7 q⟩
      rw [key_at e2 h4, ← h6]
      exact DGet.k hd) (lx.le l1)) lx⟩⟩
/-- k in d, k not in d -/
def dinZ (fa fb : Env → Wm D) : Env → Wm D := binZ (fun y x S Q _ => ∃ l k, dicOf S x = some l ∧ keyD y = some k ∧ Q (.bl (valD l k).isSome) S) fa fb
def dninZ (fa fb : Env → Wm D) : Env → Wm D := binZ (fun y x S Q _ => ∃ l k, dicOf S x = some l ∧ keyD y = some k ∧ Q (.bl (!(valD l k).isSome)) S) fa fb
theorem din_at {w : Wd} {H : Hp} {S : Store} (rs : RS K w H S) {x y : V} {dx dy : D} {l : List (Key × D)} {k : Key} (rx : Rep K w dx x) (ry : Rep K w dy y) (h1 : dicOf S dx = some l) (h2 : keyD dy = some k) : ∃ p o, x = .ref p ∧ DGet H p y o ∧ o.isSome = (valD l k).isSome := by
  obtain ⟨p, kvs, hv, hd, hk⟩ := dic_at rs rx h1
  refine ⟨p, valV kvs k, hv, by rw [key_at ry h2]; exact DGet.k hd, ?_⟩
  cases q : valD l k with
  | none => rw [(RepK.val k hk).2 q]; rfl
  | some d =>
    obtain ⟨v, h6, _⟩ := (RepK.val k hk).1 d q
    rw [h6]; rfl
theorem zq_din (ha : Zq K W (Rep K) ta fa) (hb : Zq K W (Rep K) tb fb) : Zq K W (Rep K) (tDIn ta tb) (dinZ fa fb) := ⟨fun w H S σ δ Q E QV rs re h lk lx =>
  ha.run w H S σ δ _ E _ rs re h (fun w1 H1 S1 dy y l1 r1 e1 h1 =>
    hb.run w1 H1 S1 σ δ _ E _ r1 (re.le l1) h1 (fun w2 H2 S2 dx x l2 r2 e2 h2 => by
      obtain ⟨l, k, h3, h4, q⟩ := h2
      obtain ⟨p, oo, hv, hg, hs⟩ := din_at r2 e2 (Rep.le l2 _ e1) h3 h4
      refine ⟨p, oo, hv, hg, ?_⟩
      rw [hs]
      exact lk w2 H2 S2 _ _ (l1.trans l2) r2 (cst_bl _ w2) q) (lx.le l1)) lx⟩
theorem zq_dnin (ha : Zq K W (Rep K) ta fa) (hb : Zq K W (Rep K) tb fb) : Zq K W (Rep K) (tDNotIn ta tb) (dninZ fa fb) := ⟨fun w H S σ δ Q E QV rs re h lk lx =>
  ha.run w H S σ δ _ E _ rs re h (fun w1 H1 S1 dy y l1 r1 e1 h1 =>
    hb.run w1 H1 S1 σ δ _ E _ r1 (re.le l1) h1 (fun w2 H2 S2 dx x l2 r2 e2 h2 => by
      obtain ⟨l, k, h3, h4, q⟩ := h2
      obtain ⟨p, oo, hv, hg, hs⟩ := din_at r2 e2 (Rep.le l2 _ e1) h3 h4
      refine ⟨p, oo, hv, hg, ?_⟩
      rw [hs]
      exact lk w2 H2 S2 _ _ (l1.trans l2) r2 (cst_bl _ w2) q) (lx.le l1)) lx⟩
theorem EZ.din {k : Nat} (cx : Ctx X W k) (ha : EZ X W a ta fa) (hb : EZ X W b tb fb) (hm : behindInMarks .In b = false := by rfl) : EZ X W (.Compare a [.In] [b] pos) (tDIn ta tb) (dinZ fa fb) := ⟨pe_cmp (pc_din (by have := cx.hr.un; omega) ha.pe hb.pe) hm, zq_din ha.z hb.z⟩
theorem TZ.din {k : Nat} (cx : Ctx X W k) (ha : EZ X W a ta fa) (hb : EZ X W b tb fb) (hm : behindInMarks .In b = false := by rfl) : TZ X W (.Compare a [.In] [b] pos) (tB (tDIn ta tb)) (boolZ (dinZ fa fb)) := ⟨pt_cmp (pc_din (by have := cx.hr.un; omega) ha.pe hb.pe) hm, zq_B (zq_din ha.z hb.z)⟩
theorem TZ.dnin {k : Nat} (cx : Ctx X W k) (ha : EZ X W a ta fa) (hb : EZ X W b tb fb) (hm : behindInMarks .NotIn b = false := by rfl) : TZ X W (.Compare a [.NotIn] [b] pos) (tB (tDNotIn ta tb)) (boolZ (dninZ fa fb)) := ⟨pt_cmp (pc_dnotin (by have := cx.hr.un; omega) ha.pe hb.pe) hm, zq_B (zq_dnin ha.z hb.z)⟩
/-- x in a list, a tuple of flat things; a sign in a text -/
def flatD : D → Option V
  | .non => some .non
  | .bl b => some (.bl b)
  | .int i => some (.int i)
  | .str x => some (.str x)
  | _ => none
def flatDs : List D → Option (List V)
  | [] => some []
  | d :: l => (flatD d).bind fun v => (flatDs l).map fun r => v :: r
theorem flat_at {w : Wd} {d : D} {v u : V} (h : Rep K w d v) (e : flatD d = some u) : v = u ∧ flatV v = true := by
  cases d with
  | non => cases e; rw [rep_non h]; exact ⟨rfl, rfl⟩
  | bl b => cases e; rw [rep_bl h]; exact ⟨rfl, rfl⟩
  | int i => cases e; rw [rep_int h]; exact ⟨rfl, rfl⟩
  | str x => cases e; rw [rep_str h]; exact ⟨rfl, rfl⟩
  | _ => cases e
theorem flats_at {w : Wd} : ∀ {l : List D} {vs us : List V}, RepL K w l vs → flatDs l = some us → vs = us ∧ vs.all flatV = true
  | [], vs, us, h, e => by
    simp only [RepL] at h
    cases e
    exact ⟨h, by rw [h]; rfl⟩
  | d :: l, vs, us, h, e => by
    simp only [RepL] at h
    obtain ⟨y, r, rfl, h2, h3⟩ := h
    simp only [flatDs] at e
    cases q : flatD d with
    | none => rw [q] at e; cases e
    | some u =>
      rw [q] at e
      cases q2 : flatDs l with
      | none => rw [q2] at e; cases e
      | some us' =>
        rw [q2] at e
        cases e
        obtain ⟨h4, h5⟩ := flat_at h2 q
        obtain ⟨h6, h7⟩ := flats_at h3 q2
        exact ⟨by rw [h4, h6], by rw [List.all_cons, h5, h7]; rfl⟩
def rInU (K : PySem.W.Frag) (neg : Bool) : R2 := fun x y H Q => rIn K neg x y H Q ∨ ∃ (c : Nat) (z : Str), x = .str ⟨#[c]⟩ ∧ y = .str z ∧ Q (.bl (if neg then !decide (c ∈ z.cps.toList) else decide (c ∈ z.cps.toList))) H
theorem op_inU : OpR X (compareOp .In) (rInU X.K false) := op_in_seq.or op_in_sign
theorem op_ninU : OpR X (compareOp .NotIn) (rInU X.K true) := op_notIn_seq.or op_notIn_sign
def inZ (neg : Bool) : D → D → Wm D := fun x y S Q _ => match y with
  | .str z => (match x with
    | .str u => ∃ c, u = ⟨#[c]⟩ ∧ Q (.bl (if neg then !decide (c ∈ z.cps.toList) else decide (c ∈ z.cps.toList))) S
    | _ => False)
  | y => ∃ l u us, seqOf S y = some l ∧ flatD x = some u ∧ flatDs l = some us ∧ Q (.bl (if neg then !inV u us else inV u us)) S
theorem oz_in (neg : Bool) : OpZ K (rInU K neg) (inZ neg) := by
  intro w H S x y dx dy Q E QV rs rx ry hg lk
  unfold inZ at hg
  split at hg
  · split at hg
    · obtain ⟨c, hc, q⟩ := hg
      subst hc
      exact .inr ⟨c, _, rep_str rx, rep_str ry, lk w H S _ _ (Wd.le.refl w) rs (cst_bl _ w) q⟩
    · exact hg.elim
  · obtain ⟨l, u, us, h1, h2, h3, q⟩ := hg
    obtain ⟨p, xs, hv, hx, hr⟩ := seq_at rs ry h1
    obtain ⟨h4, h5⟩ := flat_at rx h2
    obtain ⟨h6, h7⟩ := flats_at hr h3
    refine .inl ⟨p, xs, hv, hx, h5, h7, ?_⟩
    rw [h4, h6]
    exact lk w H S _ _ (Wd.le.refl w) rs (cst_bl _ w) q
/-! ### slices -/
structure PZ (X : Cx) (W : WX) (e : Option Expr) (t : TO) (f : Env → Wm (Option Int)) : Prop where
  po : PO X e t
  z : Zq X.K W (fun _ (a b : Option Int) => a = b) t f
def noPartZ : Env → Wm (Option Int) := fun _ S Q _ => Q none S
def partZ (fa : Env → Wm D) : Env → Wm (Option Int) := fun δ S Q E => fa δ S (fun x S1 => match x with
  | .int i => Q (some i) S1
  | _ => False) E
theorem PZ.none : PZ X W none tNoPart noPartZ := ⟨po_none, ⟨fun w H S σ δ Q E QV rs re h lk lx => lk w H S _ _ (Wd.le.refl w) rs rfl h⟩⟩
theorem PZ.some (ha : EZ X W a ta fa) : PZ X W (some a) (tPart ta) (partZ fa) := ⟨po_some ha.pe, ⟨fun w H S σ δ Q E QV rs re h lk lx =>
  ha.z.run w H S σ δ _ E _ rs re h (fun w1 H1 S1 dx x l1 r1 e1 h1 => by
    cases dx with
    | int i => exact ⟨i, rep_int e1, lk w1 H1 S1 _ _ l1 r1 rfl h1⟩
    | _ => exact h1.elim) lx⟩⟩
def cutD (xs : List D) (lo hi : Option Int) : List D := (xs.drop (HT.sIx xs.length 0 lo)).take (HT.sIx xs.length xs.length hi - HT.sIx xs.length 0 lo)
theorem RepL.cutv {w : Wd} {l : List D} {xs : List V} (h : RepL K w l xs) (lo hi : Option Int) : RepL K w (cutD l lo hi) (cutV xs lo hi) := by
  unfold cutD cutV
  rw [h.length]
  exact (h.drop _).take _
def rSlU (K : PySem.W.Frag) : V → Option Int → Option Int → Hp → VK → Prop := fun x lo hi H Q => (rSlL K x lo hi H Q ∨ rSlA K x lo hi H Q) ∨ rSlS x lo hi H Q
theorem sl_U : SlR X (rSlU X.K) := (sl_list.or sl_tupA).or sl_str
def cutQ (x : D) (lo hi : Option Int) (S : Store) (Q : D → Store → Prop) : Prop := match x with
  | .str z => z.length ≤ 100000 ∧ Q (.str (cutS z lo hi)) S
  | .tup l => Q (.tup (cutD l lo hi)) S
  | .kls l => Q (.lst (cutD l lo hi)) S
  | x => ∃ l, lstOf S x = some l ∧ Q (.lst (cutD l lo hi)) S
def sliceZ (fa : Env → Wm D) (fl fu : Env → Wm (Option Int)) : Env → Wm D := fun δ S Q E => fa δ S (fun x S1 => fl δ S1 (fun lo S2 => fu δ S2 (fun hi S3 => cutQ x lo hi S3 Q) E) E) E
theorem cutV_all {xs : List V} {lo hi : Option Int} (h : HT.sIx xs.length 0 lo = 0 ∧ HT.sIx xs.length xs.length hi = xs.length) : cutV xs lo hi = xs := by
  unfold cutV
  rw [h.1, h.2, List.drop_zero, Nat.sub_zero, List.take_length]
theorem EZ.slice {lo hi : Option Expr} {tl th : TO} {fl fu : Env → Wm (Option Int)} {p2 : Pos} (ha : EZ X W a ta fa) (hl : PZ X W lo tl fl) (hu : PZ X W hi th fu) : EZ X W (.Subscript a (.Slice lo hi none p2) pos) (tSl (rSlU X.K) ta tl th) (sliceZ fa fl fu) := ⟨pe_slice sl_U ha.pe hl.po hu.po, ⟨fun w H S σ δ Q E QV rs re h lk lx =>
  ha.z.run w H S σ δ _ E _ rs re h (fun w1 H1 S1 dx x l1 r1 e1 h1 =>
    hl.z.run w1 H1 S1 σ δ _ E _ r1 (re.le l1) h1 (fun w2 H2 S2 lo' lo l2 r2 e2 h2 => by
      have e2 : lo' = lo := e2
      subst e2
      exact hu.z.run w2 H2 S2 σ δ _ E _ r2 (re.le (l1.trans l2)) h2 (fun w3 H3 S3 hi' hi l3 r3 e3 h3 => by
        have e3 : hi' = hi := e3
        subst e3
        have e1' := Rep.le (l2.trans l3) _ e1
        have lk' := lk.le (l1.trans (l2.trans l3))
        unfold cutQ at h3
        split at h3
        · exact .inr ⟨_, rep_str e1', small.ok h3.1, lk' w3 H3 S3 _ _ (Wd.le.refl w3) r3 (cst_str _ w3) h3.2⟩
        · obtain ⟨p, xs, hv, hx, hr⟩ := tup_at r3 e1'
          refine .inl (.inr ⟨p, xs, hv, hx, fun hw => ?_, fun _ => fin_tupF r3 (hr.cutv _ _) h3 lk'⟩)
          have hc := hr.cutv lo' hi'
          rw [cutV_all hw] at hc
          refine lk' w3 H3 S3 _ _ (Wd.le.refl w3) r3 ?_ h3
          rename_i l
          have e4 := e1'
          simp only [Rep] at e4 ⊢
          obtain ⟨p', xs', q1, q2, q3⟩ := e4
          have : cutD l lo' hi' = l := by
            unfold cutD
            have hll := hr.length
            rw [← hll, hw.1, hw.2, List.drop_zero, Nat.sub_zero, hll, List.take_length]
          rw [this]
          exact ⟨p', xs', by rw [← q1, hv], q2, q3⟩
        · have e4 := e1'
          simp only [Rep] at e4
          obtain ⟨p, xs, hv, hx, hr⟩ := e4
          exact .inl (.inl ⟨p, xs, hv, SqL.up r3 hx, fin_lstF r3 (hr.cutv _ _) h3 lk'⟩)
        · obtain ⟨l, h4, q⟩ := h3
          obtain ⟨p, xs, hv, hx, hr⟩ := lst_at r3 e1' h4
          exact .inl (.inl ⟨p, xs, hv, SqL.of hx, fin_lstF r3 (hr.cutv _ _) q lk'⟩)) (lx.le (l1.trans l2))) (lx.le l1)) lx⟩⟩
/-! ### fields -/
def fldZ (C : Addr) (f : Str) (fa : Env → Wm D) : Env → Wm D := fun δ S Q E => fa δ S (fun x S1 => ∃ l d, insOf S1 x = some (C, l) ∧ valD l (.inr f) = some d ∧ Q d S1) E
theorem EZ.fld {C : Addr} {f : Str} (cl : Cls X.K C) (hn : NoAttr X.K C f) (ha : EZ X W a ta fa) (hb : attributeBase a f X.env (eval a X.env) = eval a X.env := by rfl) : EZ X W (.Attribute a f pos) (tFld X.K ta f) (fldZ C f fa) := ⟨pe_fld ha.pe hb, ⟨fun w H S σ δ Q E QV rs re h lk lx =>
  ha.z.run w H S σ δ _ E _ rs re h (fun w1 H1 S1 dx x l1 r1 e1 h1 => by
    obtain ⟨l, d, h2, h3, q⟩ := h1
    obtain ⟨p, ddx, fs, hv, hp, hk⟩ := ins_at r1 e1 h2
    obtain ⟨v, h4, h5⟩ := (fld_val hk).1 d h3
    exact ⟨p, C, ddx, fs, v, hv, hp, cl, hn, h4, lk w1 H1 S1 d v l1 r1 h5 q⟩) lx⟩⟩
def putFD (k : Key) (d : D) : List (Key × D) → List (Key × D)
  | [] => [(k, d)]
  | (g, x) :: r => if g = k then (g, d) :: r else (g, x) :: putFD k d r
theorem put_fld {w : Wd} {f : Str} {d : D} {v : V} (h : Rep K w d v) : ∀ {l : List (Key × D)} {fs : List (Str × V)}, RepK K w l (fs.map fun q => (.inr q.1, q.2)) → RepK K w (putFD (.inr f) d l) ((putF f v fs).map fun q => (.inr q.1, q.2))
  | [], [], _ => .cons h .nil
  | [], p :: r, e => by simp only [RepK, List.map_cons] at e; cases e
  | (k, d') :: l, [], e => by
    simp only [RepK, List.map_nil] at e
    obtain ⟨y, r, e1, _⟩ := e
    cases e1
  | (k, d') :: l, (g, x) :: r, e => by
    simp only [RepK, List.map_cons] at e
    obtain ⟨y, r', e1, e2, e3⟩ := e
    injection e1 with e4 e5
    injection e4 with e6 e7
    subst e6 e7 e5
    unfold putFD putF
    by_cases hk : g = f
    · rw [if_pos hk, if_pos (by rw [hk]), List.map_cons]
      exact .cons h e3
    · rw [if_neg hk, if_neg fun q => hk (Sum.inr.inj q), List.map_cons]
      exact .cons e2 (put_fld h e3)
theorem len_putF (f : Str) (v : V) : ∀ fs : List (Str × V), (putF f v fs).length ≤ fs.length + 1 := length_putF f v
/-! ### stores -/
def setFldQ (C : Addr) (f : Str) (x y : D) (S : Store) (Q : Store → Prop) : Prop := match x with
  | .hnd n => ∃ l, S[n]? = some (.ins C l) ∧ l.length < 1000 ∧ Q (S.set n (.ins C (putFD (.inr f) y l)))
  | _ => False
def setFldG (C : Addr) (f : Str) (fo fv : Env → Wm D) : Gm := fun D δ S => fv δ S (fun y S1 => fo δ S1 (fun x S2 => setFldQ C f x y S2 fun S3 => D.nx δ S3) (D.xe δ)) (D.xe δ)
theorem setFld_at {C : Addr} {f : Str} {w : Wd} {H : Hp} {S : Store} (r : RS K w H S) {x y : V} {dx dy : D} {Q : Store → Prop} (rx : Rep K w dx x) (ry : Rep K w dy y) (h : setFldQ C f dx dy S Q) :
    ∃ a ddx fs S', x = .ref a ∧ H a = some (.ins C ddx fs) ∧ fs.length < 1000 ∧ RS K w (upd H a (.ins C ddx (putF f y fs))) S' ∧ Q S' := by
  unfold setFldQ at h
  split at h
  · rename_i n
    obtain ⟨l, h1, h2, q⟩ := h
    obtain ⟨hv, _⟩ := hnd_at r rx
    obtain ⟨hn, ddx, fs, h3, h4⟩ := r.at_ n _ h1
    refine ⟨_, ddx, fs, _, hv, h3, ?_, r.write h1 trivial (c := .ins C (putFD (.inr f) dy l)) ⟨hn, ddx, _, upd_same, put_fld ry h4⟩, q⟩
    have := h4.length
    rw [List.length_map] at this
    omega
  · exact h.elim
theorem SZ.setFld {C : Addr} {f : Str} {pos' : Pos} (cl : Cls X.K C) (hn : NoAttr X.K C f) (ho : EZ X W o ta fa) (hv : EZ X W e te fb) (hs : swapsWith e (some (.Attribute o f pos')) pos.line X.env = pure false := by rfl) :
    SZ X W (.Assign [.Attribute o f pos'] e pos) (sFld X.K ta te f) (setFldG C f fa fb) := ⟨ps_fld ho.pe hv.pe hs, ⟨fun w H S σ δ D Z rs re h lk =>
  hv.z.run w H S σ δ _ _ _ rs re h (fun w1 H1 S1 dy y l1 r1 e1 h1 =>
    ho.z.run w1 H1 S1 σ δ _ _ _ r1 (re.le l1) h1 (fun w2 H2 S2 dx x l2 r2 e2 h2 => by
      obtain ⟨p, ddx, fs, S', hx, hp, hl, r3, q⟩ := setFld_at r2 e2 (Rep.le l2 _ e1) h2
      exact ⟨p, C, ddx, fs, hx, hp, cl, hn, hl, lk.nx w2 _ S' σ δ (l1.trans l2) r3 (re.le (l1.trans l2)) q⟩) ((lk.x re).le l1)) (lk.x re)⟩⟩
/-! targets of all kinds -/
abbrev Tz := D → Env → Store → (Env → Store → Prop) → (Env → XD → Store → Prop) → Prop
structure GZ (X : Cx) (W : WX) (tg : Expr) (g : TG) (t : Tz) : Prop where
  pg : PG X tg g
  z : ∀ w H S σ δ d v Q E N, RS X.K w H S → RepE X.K w δ σ → Rep X.K w d v → t d δ S Q E → (∀ w' H' S' σ' δ', w.le w' → RS X.K w' H' S' → RepE X.K w' δ' σ' → Q δ' S' → N σ' H') → (∀ w' H' S' σ' δ' x cls dd, w.le w' → RS X.K w' H' S' → RepE X.K w' δ' σ' → RepX X.K w' x cls dd → E δ' x S' → W cls dd σ' H') → g v σ H N
structure GsZ (X : Cx) (W : WX) (tgs : List Expr) (g : TGs) (n : Nat) (t : List D → Env → Store → (Env → Store → Prop) → (Env → XD → Store → Prop) → Prop) : Prop where
  pg : PGs X tgs g
  z : ∀ w H S σ δ ds vs Q E N, ds.length = n → RS X.K w H S → RepE X.K w δ σ → RepL X.K w ds vs → t ds δ S Q E → (∀ w' H' S' σ' δ', w.le w' → RS X.K w' H' S' → RepE X.K w' δ' σ' → Q δ' S' → N σ' H') → (∀ w' H' S' σ' δ' x cls dd, w.le w' → RS X.K w' H' S' → RepE X.K w' δ' σ' → RepX X.K w' x cls dd → E δ' x S' → W cls dd σ' H') → g vs σ H N
def nameT (i : Nat) : Tz := fun d δ S Q _ => Q (δ.set i (some d)) S
theorem GZ.name (i : Nat) {x : Str} (h : PG X (.Name x pos) (gName i)) : GZ X W (.Name x pos) (gName i) (nameT i) := ⟨h, fun w H S σ δ d v Q E N rs re rd q lk _ => lk w H S _ _ (Wd.le.refl w) rs (re.set i rd) q⟩
abbrev Tzs := List D → Env → Store → (Env → Store → Prop) → (Env → XD → Store → Prop) → Prop
def nilT : Tzs := fun _ δ S Q _ => Q δ S
def consT (t : Tz) (u : Tzs) : Tzs := fun ds δ S Q E => match ds with
  | d :: r => t d δ S (fun δ' S' => u r δ' S' Q E) E
  | [] => False
theorem GsZ.nil : GsZ X W [] gNil 0 nilT := ⟨pgs_nil, fun w H S σ δ ds vs Q E N hl rs re rd q lk _ => by
  have : ds = [] := List.eq_nil_of_length_eq_zero hl
  subst this
  simp only [RepL] at rd
  exact ⟨rd, lk w H S _ _ (Wd.le.refl w) rs re q⟩⟩
theorem GsZ.cons {tg : Expr} {tgs : List Expr} {g : TG} {gs : TGs} {n : Nat} {t : Tz} {u : Tzs} (h1 : GZ X W tg g t) (h2 : GsZ X W tgs gs n u) (hs : (assignEach (tg :: tgs) X.env).map (·.2) = assign tg X.env :: (assignEach tgs X.env).map (·.2) := by rfl) :
    GsZ X W (tg :: tgs) (gCons g gs) (n + 1) (consT t u) := ⟨pgs_cons h1.pg h2.pg hs, fun w H S σ δ ds vs Q E N hl rs re rd q lk lx => by
  cases ds with
  | nil => cases hl
  | cons d r =>
    simp only [RepL] at rd
    obtain ⟨y, ys, e1, e2, e3⟩ := rd
    subst e1
    refine ⟨y, ys, rfl, h1.z w H S σ δ d y _ E _ rs re e2 q (fun w' H' S' σ' δ' l r' re' q' => ?_) lx⟩
    exact h2.z w' H' S' σ' δ' r ys Q E N (by simpa using hl) r' re' (RepL.le l _ e3) q' (fun w2 H2 S2 σ2 δ2 l2 => lk w2 H2 S2 σ2 δ2 (l.trans l2)) (fun w2 H2 S2 σ2 δ2 x c dd l2 => lx w2 H2 S2 σ2 δ2 x c dd (l.trans l2))⟩
def tupT (n : Nat) (u : Tzs) : Tz := fun d δ S Q E => match d with
  | .tup l => l.length = n ∧ u l δ S Q E
  | _ => False
theorem GZ.tup {tgs : List Expr} {gs : TGs} {n k : Nat} {u : Tzs} (hc : X.calm = true) (h : GsZ X W tgs gs n u) (hn : (assignEach tgs X.env).length = n := by rfl) (hst : (assignEach tgs X.env).findIdx? (·.1) = none := by rfl) :
    GZ X W (.Tuple tgs k pos) (gTup X.K n gs) (tupT n u) := ⟨pg_tup hc h.pg hn hst, fun w H S σ δ d v Q E N rs re rd q lk lx => by
  unfold tupT at q
  split at q
  · obtain ⟨p, xs, hv, hx, hr⟩ := tup_at rs rd
    exact ⟨p, xs, hv, hx, by rw [hr.length]; exact q.1, h.z w H S σ δ _ xs Q E N q.1 rs re hr q.2 lk lx⟩
  · exact q.elim⟩
/-- o[i] = d -/
def setIxQ (o i d : D) (S : Store) (Q : Store → Prop) : Prop := match o with
  | .hnd n => (∃ l k j, S[n]? = some (.lst l) ∧ i = .int k ∧ ixN l.length k = some j ∧ Q (S.set n (.lst (l.set j d)))) ∨ ∃ l k, S[n]? = some (.dic l) ∧ keyD i = some k ∧ l.length < 100000 ∧ Q (S.set n (.dic (putD l k d)))
  | _ => False
def rSetU : TSet := fun o i v H Q => rSetL o i v H Q ∨ rSetD o i v H Q
theorem set_U {k : Nat} (cx : Ctx X W k) : PSet X rSetU := fun pins s σ H o i v ov iv u Q I ro ri rv h => by
  rcases h with h | h
  · exact set_list pins s σ H o i v ov iv u Q I ro ri rv h
  · exact set_dict (by have := cx.hr.un; omega) pins s σ H o i v ov iv u Q I ro ri rv h
theorem setIx_at {w : Wd} {H : Hp} {S : Store} (r : RS K w H S) {x y z : V} {dx dy dz : D} {Q : Store → Prop} {N : Hp → Prop} (rx : Rep K w dx x) (ry : Rep K w dy y) (rz : Rep K w dz z) (h : setIxQ dx dy dz S Q) (lk : ∀ H' S', RS K w H' S' → Q S' → N H') : rSetU x y z H N := by
  unfold setIxQ at h
  split at h
  · rename_i n
    obtain ⟨hv, _⟩ := hnd_at r rx
    rcases h with ⟨l, k, j, h1, h2, h3, q⟩ | ⟨l, k, h1, h2, h3, q⟩
    · obtain ⟨hn, xs, h4, h5⟩ := r.at_ n _ h1
      subst h2
      refine .inl ⟨_, xs, k, j, hv, rep_int ry, h4, by rw [h5.length]; exact h3, lk _ _ (r.write h1 trivial (c := .lst (l.set j dz)) ⟨hn, _, upd_same, RepL.set rz j h5⟩) q⟩
    · obtain ⟨hn, xs, h4, h5⟩ := r.at_ n _ h1
      refine .inr ⟨_, _, hv, ?_, lk _ _ (r.write h1 trivial (c := .dic (putD l k dz)) (o := .dK (putK xs k z)) ⟨hn, _, upd_same, RepK.put rz h5⟩) q⟩
      rw [key_at ry h2]
      exact DPut.k h4 (by rw [h5.length]; exact small.lt h3)
  · exact h.elim
def subT (fo fi : Env → Wm D) : Tz := fun d δ S Q E => fo δ S (fun o S1 => fi δ S1 (fun i S2 => setIxQ o i d S2 fun S3 => Q δ S3) (E δ)) (E δ)
theorem GZ.sub {k : Nat} (cx : Ctx X W k) (ho : EZ X W o ta fa) (hi : EZ X W i tb fb) (h : ∀ v, assign (.Subscript o i pos) X.env v = (do
      let ov ← holding [v] (eval o X.env)
      let iv ← holding [v, ov] (eval i X.env)
      standAt pos
      holding [v, ov, iv] (setItem ov iv v)
      release [v, ov, iv] []) := by intro _; rfl) : GZ X W (.Subscript o i pos) (gSub ta tb rSetU) (subT fa fb) := ⟨pg_sub ho.pe hi.pe (set_U cx) h, fun w H S σ δ d v Q E N rs re rd q lk lx =>
  ho.z.run w H S σ δ _ (E δ) _ rs re q (fun w1 H1 S1 do' o' l1 r1 e1 h1 =>
    hi.z.run w1 H1 S1 σ δ _ (E δ) _ r1 (re.le l1) h1 (fun w2 H2 S2 di i' l2 r2 e2 h2 =>
      setIx_at r2 (Rep.le l2 _ e1) e2 (Rep.le (l1.trans l2) _ rd) h2 fun H' S' r3 q3 => lk w2 H' S' σ δ (l1.trans l2) r3 (re.le (l1.trans l2)) q3)
      (fun w' H' S' x c dd l r' rx q' => lx w' H' S' σ δ x c dd (l1.trans l) r' (re.le (l1.trans l)) rx q')) (fun w' H' S' x c dd l r' rx q' => lx w' H' S' σ δ x c dd l r' (re.le l) rx q')⟩
/-- o.f = d as a target among others -/
def gAttr (K : PySem.W.Frag) (f : Str) (to : TE) : TG := fun v σ H Q => to σ H fun x H2 => ∃ a C dx fs, x = .ref a ∧ H2 a = some (.ins C dx fs) ∧ Cls K C ∧ NoAttr K C f ∧ fs.length < 1000 ∧ Q σ (upd H2 a (.ins C dx (putF f v fs)))
theorem pg_attr {f : Str} (ho : PE X o ta) : PG X (.Attribute o f pos) (gAttr X.K f ta) := by
  refine ⟨fun pins s σ H v u Q I r h => ?_⟩
  show wpAny _ _ (do let ov ← holding [u] (eval o X.env); standAt pos.atName; holding [u, ov] (setAttr ov f u); release [u, ov] []) _ _ _
  refine wpAny_bind (wpAny_holding (thn (ho.run pins s σ H _ I h) fun ov s1 ⟨x, H1, I1, r1, p, C, dx, fs, ex, ea, cl, hn, hl, q⟩ => ?_))
  subst ex
  obtain rfl : ov = Value.ref p := r1
  refine wpAny_bind (wpAny_standAt (wpAny_bind (wpAny_holding (setattr_ok I1 ea cl hn hl r fun s' I' => ?_))))
  exact wpAny_release ⟨σ, _, I', q⟩
def attrT (C : Addr) (f : Str) (fo : Env → Wm D) : Tz := fun d δ S Q E => fo δ S (fun x S1 => setFldQ C f x d S1 fun S2 => Q δ S2) (E δ)
theorem GZ.attr {C : Addr} {f : Str} (cl : Cls X.K C) (hn : NoAttr X.K C f) (ho : EZ X W o ta fa) : GZ X W (.Attribute o f pos) (gAttr X.K f ta) (attrT C f fa) := ⟨pg_attr ho.pe, fun w H S σ δ d v Q E N rs re rd q lk lx =>
  ho.z.run w H S σ δ _ (E δ) _ rs re q (fun w1 H1 S1 dx x l1 r1 e1 h1 => by
    obtain ⟨p, ddx, fs, S', hx, hp, hl, r3, q⟩ := setFld_at r1 e1 (Rep.le l1 _ rd) h1
    exact ⟨p, C, ddx, fs, hx, hp, cl, hn, hl, lk w1 _ S' σ δ l1 r3 (re.le l1) q⟩) (fun w' H' S' x c dd l r' rx q' => lx w' H' S' σ δ x c dd l r' (re.le l) rx q')⟩
def asgTG (f : Env → Wm D) (t : Tz) : Gm := fun D δ S => f δ S (fun d S1 => t d δ S1 D.nx D.xe) (D.xe δ)
theorem SZ.asg {tg : Expr} {g : TG} {t : Tz} (he : EZ X W e te f) (hg : GZ X W tg g t) (hs : swapsWithSole [tg] e pos.line X.env = pure false := by rfl) (hw : swappedStores [tg] e X.env = pure none := by rfl)
    (h1 : (assignEach [tg] X.env).map (·.2) = [assign tg X.env] := by rfl) : SZ X W (.Assign [tg] e pos) (tAsg te g) (asgTG f t) := ⟨ps_asg he.pe hg.pg hs hw h1, ⟨fun w H S σ δ D Z rs re h lk =>
  he.z.run w H S σ δ _ _ _ rs re h (fun w1 H1 S1 d v l1 r1 e1 h1 => hg.z w1 H1 S1 σ δ d v _ _ _ r1 (re.le l1) e1 h1 (fun w' H' S' σ' δ' l => lk.nx w' H' S' σ' δ' (l1.trans l)) (fun w' H' S' σ' δ' x c dd l => lk.xe w' H' S' σ' δ' x c dd (l1.trans l))) (lk.x re)⟩⟩
/-- a, b = x, y over local names -/
def parG (i j : Nat) (fs : Env → Wm (List D)) : Gm := fun D δ S => fs δ S (fun ds S1 => match ds with
  | [d, d'] => D.nx ((δ.set i (some d)).set j (some d')) S1
  | _ => False) (D.xe δ)
theorem SZ.par (i j : Nat) {x y : Str} {px py pt : Pos} {kt k2 : Nat} {pt2 : Pos} {ts : TA} {fs : Env → Wm (List D)} (hc : X.calm = true) (hN : X.N.Nodup) (hi : X.N[i]? = some x) (hj : X.N[j]? = some y) (hij : i ≠ j)
    (hx : X.env.scope.names.lookup x = some .local) (hy : X.env.scope.names.lookup y = some .local) (ha : AZ X W [a, b] ts fs)
    (hw : swappedStores [.Tuple [.Name x px, .Name y py] kt pt] (.Tuple [a, b] k2 pt2) X.env = pure (some [x, y]))
    (hs : swapsWithSole [.Tuple [.Name x px, .Name y py] kt pt] (.Tuple [a, b] k2 pt2) pos.line X.env = pure false := by rfl) :
    SZ X W (.Assign [.Tuple [.Name x px, .Name y py] kt pt] (.Tuple [a, b] k2 pt2) pos) (tPar i j ts) (parG i j fs) := ⟨ps_par hc hN hi hj hij hx hy ha.pe hw hs, ⟨fun w H S σ δ D Z rs re h lk =>
  ha.z.run w H S σ δ _ _ _ rs re h (fun w1 H1 S1 ds vs l1 r1 e1 h1 => by
    split at h1
    · simp only [RepL] at e1
      obtain ⟨v, r, q1, q2, v', r', q3, q4, q5⟩ := e1
      subst q1 q3 q5
      exact ⟨v, v', rfl, lk.nx w1 H1 S1 _ _ l1 r1 (((re.le l1).set i q2).set j q4) h1⟩
    · exact h1.elim) (lk.x re)⟩⟩
def par3G (i j k : Nat) (fs : Env → Wm (List D)) : Gm := fun D δ S => fs δ S (fun ds S1 => match ds with
  | [d, d', d''] => D.nx (((δ.set i (some d)).set j (some d')).set k (some d'')) S1
  | _ => False) (D.xe δ)
theorem SZ.par3 (i j l : Nat) {x y z : Str} {px py pz pt : Pos} {kt k2 : Nat} {pt2 : Pos} {ts : TA} {fs : Env → Wm (List D)} (hc : X.calm = true) (hN : X.N.Nodup) (hi : X.N[i]? = some x) (hj : X.N[j]? = some y) (hl : X.N[l]? = some z) (hij : i ≠ j) (hil : i ≠ l) (hjl : j ≠ l)
    (hx : X.env.scope.names.lookup x = some .local) (hy : X.env.scope.names.lookup y = some .local) (hz : X.env.scope.names.lookup z = some .local) (ha : AZ X W [a, b, c] ts fs)
    (hw : swappedStores [.Tuple [.Name x px, .Name y py, .Name z pz] kt pt] (.Tuple [a, b, c] k2 pt2) X.env = pure (some [x, y, z]))
    (hs : swapsWithSole [.Tuple [.Name x px, .Name y py, .Name z pz] kt pt] (.Tuple [a, b, c] k2 pt2) pos.line X.env = pure false := by rfl) :
    SZ X W (.Assign [.Tuple [.Name x px, .Name y py, .Name z pz] kt pt] (.Tuple [a, b, c] k2 pt2) pos) (tPar3 i j l ts) (par3G i j l fs) := ⟨ps_par3 hc hN hi hj hl hij hil hjl hx hy hz ha.pe hw hs, ⟨fun w H S σ δ D Z rs re h lk =>
  ha.z.run w H S σ δ _ _ _ rs re h (fun w1 H1 S1 ds vs l1 r1 e1 h1 => by
    split at h1
    · simp only [RepL] at e1
      obtain ⟨v, r, q1, q2, v', r', q3, q4, v'', r'', q5, q6, q7⟩ := e1
      subst q1 q3 q5 q7
      exact ⟨v, v', v'', rfl, lk.nx w1 H1 S1 _ _ l1 r1 ((((re.le l1).set i q2).set j q4).set l q6) h1⟩
    · exact h1.elim) (lk.x re)⟩⟩
/-- x op= e -/
def augG (i : Nat) (g : D → D → Wm D) (f : Env → Wm D) : Gm := fun D δ S => match δ[i]? with
  | some (some d) => f δ S (fun y S1 => g d y S1 (fun z S2 => D.nx (δ.set i (some z)) S2) (D.xe δ)) (D.xe δ)
  | _ => False
theorem SZ.aug (i : Nat) {x : Str} {op : Operator} {r : TIp} {g : D → D → Wm D} {pos' : Pos} (hN : X.N.Nodup) (hi : X.N[i]? = some x) (hx : Loc X.env.scope x) (he : EZ X W e te f) (ho : PIp X op r) (hz : OpZ X.K r g) (hf : X.fn x = true ∨ X.env.scope.names.lookup x = some .local := by first | exact .inl rfl | exact .inr rfl | assumption) :
    SZ X W (.AugAssign (.Name x pos') op e pos) (tAug i te r) (augG i g f) := ⟨ps_aug hN hi hx he.pe ho hf, ⟨fun w H S σ δ D Z rs re h lk => by
  unfold augG at h
  split at h
  · rename_i d hd
    obtain ⟨v, h1, h2⟩ := re.at_ i d hd
    refine ⟨v, h1, he.z.run w H S σ δ _ _ _ rs re h (fun w1 H1 S1 dy y l1 r1 e1 h1 => ?_) (lk.x re)⟩
    exact hz w1 H1 S1 v y d dy _ _ _ r1 (Rep.le l1 _ h2) e1 h1 (fun w2 H2 S2 dz z l2 r2 e2 h2 => lk.nx w2 H2 S2 _ _ (l1.trans l2) r2 ((re.le (l1.trans l2)).set i e2) h2)
  · exact h.elim⟩⟩
end
end Z
/-! ZLoop: what is walked; for, while, comprehensions. -/
namespace Z
open PySem L2 PySem.Spec PyProof.Rows
section
variable {X : Cx} {W : WX} {K : PySem.W.Frag} {a b c e o i tg iter elt : Expr} {te ta tb tc : TE} {f fa fb fc fe : Env → Wm D} {pos : Pos}

/-- J gives the things xs one behind the other, as long as the store is as G says -/
structure Walks (K : PySem.W.Frag) (w0 : Wd) (J : It) (xs : List D) (G : Store → Prop) : Prop where
  go : ∀ i w H S, w0.le w → RS K w H S → G S → i < xs.length → J.go i H
  yld : ∀ i w H S x H' d, w0.le w → RS K w H S → G S → xs[i]? = some d → J.yld i H x H' → ∃ w', w.le w' ∧ RS K w' H' S ∧ Rep K w' d x
  stop : ∀ w H S, w0.le w → RS K w H S → G S → J.stop xs.length H
/-- a source -/
abbrev Src := Env → Wm (List D × (Store → Prop))
structure IZ (X : Cx) (W : WX) (tg iter : Expr) (wi : TI) (src : Src) : Prop where
  pi : PI X tg iter wi
  z : ∀ w H S σ δ Q E R, RS X.K w H S → RepE X.K w δ σ → src δ S Q E → (∀ w1 H1 S1 xs G J, w.le w1 → RS X.K w1 H1 S1 → Walks X.K w1 J xs G → Q (xs, G) S1 → R J H1) → LnkX X.K w E W σ → wi σ H R
/-- a list as it stands at each turn | a frozen one, a tuple -/
def srcOf (x : D) (S : Store) (Q : List D × (Store → Prop) → Store → Prop) : Prop := match x with
  | .lst l => Q (l, fun _ => True) S
  | .hnd n => ∃ l, S[n]? = some (.lst l) ∧ Q (l, fun S' => S'[n]? = some (.lst l)) S
  | _ => False
def srcT (x : D) (S : Store) (Q : List D × (Store → Prop) → Store → Prop) : Prop := match x with
  | .tup l => Q (l, fun _ => True) S
  | _ => False
theorem walks_lst {w0 : Wd} {p : Addr} {l : List D} {xs : List V} (h : w0.hs p = some (.lst xs)) (r : RepL K w0 l xs) : Walks K w0 (Itl K p) l (fun _ => True) where
  go := fun i w H S le rs _ hi => by
    obtain ⟨v, hv⟩ : ∃ v, xs[i]? = some v := ⟨xs[i]'(by rw [r.length]; exact hi), List.getElem?_eq_getElem _⟩
    exact ⟨xs, v, SqL.of (rs.ex _ _ (le.hs _ _ h)), hv⟩
  yld := fun i w H S x H' d le rs _ hd y => by
    obtain ⟨e, y⟩ := y
    subst e
    obtain ⟨v, h1, h2⟩ := r.get hd
    have := y xs (SqL.of (rs.ex _ _ (le.hs _ _ h)))
    rw [h1] at this
    cases this
    exact ⟨w, Wd.le.refl w, rs, Rep.le le d h2⟩
  stop := fun w H S le rs _ => ⟨xs, SqL.of (rs.ex _ _ (le.hs _ _ h)), by rw [r.length]; exact Nat.le_refl _⟩
theorem walks_hnd {w0 : Wd} {n : Nat} {l : List D} (hn : n < w0.n) : Walks K w0 (Itl K (w0.rho n)) l (fun S' => S'[n]? = some (.lst l)) where
  go := fun i w H S le rs g hi => by
    obtain ⟨_, xs, h1, h2⟩ := rs.at_ n _ g
    rw [le.rho n hn] at h1
    exact ⟨xs, xs[i]'(by rw [h2.length]; exact hi), SqL.of h1, List.getElem?_eq_getElem _⟩
  yld := fun i w H S x H' d le rs g hd y => by
    obtain ⟨e, y⟩ := y
    subst e
    obtain ⟨_, xs, h1, h2⟩ := rs.at_ n _ g
    rw [le.rho n hn] at h1
    obtain ⟨v, h3, h4⟩ := h2.get hd
    have := y xs (SqL.of h1)
    rw [h3] at this
    cases this
    exact ⟨w, Wd.le.refl w, rs, h4⟩
  stop := fun w H S le rs g => by
    obtain ⟨_, xs, h1, h2⟩ := rs.at_ n _ g
    rw [le.rho n hn] at h1
    exact ⟨xs, SqL.of h1, by rw [h2.length]; exact Nat.le_refl _⟩
theorem SqT_le {w0 w : Wd} {p : Addr} {xs : List V} (le : w0.le w) (h : SqT K w0.hs p xs) : SqT K w.hs p xs := SqT.le le h
theorem walks_tup {w0 : Wd} {p : Addr} {l : List D} {xs : List V} (h : SqT K w0.hs p xs) (r : RepL K w0 l xs) : Walks K w0 (Itt K p) l (fun _ => True) where
  go := fun i w H S le rs _ hi => ⟨xs, xs[i]'(by rw [r.length]; exact hi), SqT.up rs (SqT_le le h), List.getElem?_eq_getElem _⟩
  yld := fun i w H S x H' d le rs _ hd y => by
    obtain ⟨e, y⟩ := y
    subst e
    obtain ⟨v, h1, h2⟩ := r.get hd
    have := y xs (SqT.up rs (SqT_le le h))
    rw [h1] at this
    cases this
    exact ⟨w, Wd.le.refl w, rs, Rep.le le d h2⟩
  stop := fun w H S le rs _ => ⟨xs, SqT.up rs (SqT_le le h), by rw [r.length]; exact Nat.le_refl _⟩
def walkL (fa : Env → Wm D) : Src := fun δ S Q E => fa δ S (fun x S1 => srcOf x S1 Q) E
def walkT (fa : Env → Wm D) : Src := fun δ S Q E => fa δ S (fun x S1 => srcT x S1 Q) E
theorem srcOf_at {w : Wd} {H : Hp} {S : Store} (rs : RS K w H S) {x : D} {v : V} (rx : Rep K w x v) {Q : List D × (Store → Prop) → Store → Prop} (h : srcOf x S Q) : ∃ p l G, v = .ref p ∧ (∃ xs, SqL K H p xs ∧ RepL K w l xs) ∧ Walks K w (Itl K p) l G ∧ Q (l, G) S := by
  unfold srcOf at h
  split at h
  · rename_i l
    simp only [Rep] at rx
    obtain ⟨p, xs, h1, h2, h3⟩ := rx
    exact ⟨p, l, _, h1, ⟨xs, SqL.of (rs.ex _ _ h2), h3⟩, walks_lst h2 h3, h⟩
  · rename_i n
    obtain ⟨l, h1, q⟩ := h
    obtain ⟨hv, hn⟩ := hnd_at rs rx
    obtain ⟨_, xs, h2, h3⟩ := rs.at_ n _ h1
    exact ⟨_, l, _, hv, ⟨xs, SqL.of h2, h3⟩, walks_hnd (by rw [rs.n]; exact hn), q⟩
  · exact h.elim
theorem IZ.list (ha : EZ X W a ta fa) : IZ X W tg a (iList X.K ta) (walkL fa) := ⟨pi_list ha.pe, fun w H S σ δ Q E R rs re h lk lx =>
  ha.z.run w H S σ δ _ E _ rs re h (fun w1 H1 S1 dx x l1 r1 e1 h1 => by
    obtain ⟨p, l, G, hv, ⟨xs, hx, _⟩, hw, q⟩ := srcOf_at r1 e1 h1
    exact ⟨p, hv, ⟨xs, hx⟩, lk w1 H1 S1 l G _ l1 r1 hw q⟩) lx⟩
theorem IZ.tup (ha : EZ X W a ta fa) : IZ X W tg a (iTup X.K ta) (walkT fa) := ⟨pi_tup ha.pe, fun w H S σ δ Q E R rs re h lk lx =>
  ha.z.run w H S σ δ _ E _ rs re h (fun w1 H1 S1 dx x l1 r1 e1 h1 => by
    unfold srcT at h1
    split at h1
    · simp only [Rep] at e1
      obtain ⟨p, xs, h2, h3, h4⟩ := e1
      exact ⟨p, h2, ⟨xs, SqT.up r1 h3⟩, lk w1 H1 S1 _ _ _ l1 r1 (walks_tup h3 h4) h1⟩
    · exact h1.elim) lx⟩
/-- a list or a tuple -/
def iSeq (K : PySem.W.Frag) (tl : TE) : TI := fun σ H R => tl σ H fun x H1 => ∃ a, x = .ref a ∧ (((∃ xs, SqL K H1 a xs) ∧ R (Itl K a) H1) ∨ ((∃ xs, SqT K H1 a xs) ∧ R (Itt K a) H1))
theorem pi_seq {l : Expr} {tl : TE} (hl : PE X l tl) : PI X tg l (iSeq X.K tl) := by
  refine ⟨fun pins s σ H R I h => ?_⟩
  refine thn (hl.run pins s σ H _ I h) fun v s1 ⟨x, H1, I1, r1, q1⟩ => ?_
  obtain ⟨a, e, ⟨⟨xs, hq⟩, q⟩ | ⟨⟨xs, hq⟩, q⟩⟩ := q1
  · subst e
    cases r1
    obtain ⟨its, rv, p, hz⟩ := I1.list hq
    refine wpAny_pyIter_list p.isList ?_
    refine ⟨s1.heap.objs.size, [s1.heap.objs.size], _, _, H1, rfl, I1.kept (t' := s1.toks) fun b o e => Heap.get?_push_of_some _ e, turn_list a _, ⟨_, Heap.get?_push_size _ rfl, rfl, rfl⟩, fun b hb => ?_, q⟩
    have e : b = s1.heap.objs.size := by simpa using hb
    subst e
    exact I1.fpOk (Nat.le_refl _) (I1.hok.fresh (Nat.le_refl _))
  · subst e
    cases r1
    obtain ⟨its, rv, p, hz⟩ := I1.tuple hq
    refine wpAny_pyIter_tuple (show s1.heap.IsTuple a its.toArray from p) ?_
    refine ⟨s1.heap.objs.size, [s1.heap.objs.size], _, _, H1, rfl, I1.kept (t' := s1.toks) fun b o e => Heap.get?_push_of_some _ e, turn_tuple a _, ⟨_, Heap.get?_push_size _ rfl, rfl, rfl⟩, fun b hb => ?_, q⟩
    have e : b = s1.heap.objs.size := by simpa using hb
    subst e
    exact I1.fpOk (Nat.le_refl _) (I1.hok.fresh (Nat.le_refl _))
def srcU (x : D) (S : Store) (Q : List D × (Store → Prop) → Store → Prop) : Prop := match x with
  | .tup l => Q (l, fun _ => True) S
  | .lst l => Q (l, fun _ => True) S
  | .hnd n => ∃ l, S[n]? = some (.lst l) ∧ Q (l, fun S' => S'[n]? = some (.lst l)) S
  | _ => False
def walkU (fa : Env → Wm D) : Src := fun δ S Q E => fa δ S (fun x S1 => srcU x S1 Q) E
theorem srcU_at {w : Wd} {H : Hp} {S : Store} (rs : RS K w H S) {x : D} {v : V} (rx : Rep K w x v) {Q : List D × (Store → Prop) → Store → Prop} (h : srcU x S Q) :
    ∃ p l G, v = .ref p ∧ Q (l, G) S ∧ ((∃ xs, SqL K H p xs ∧ RepL K w l xs ∧ Walks K w (Itl K p) l G) ∨ ∃ xs, SqT K w.hs p xs ∧ RepL K w l xs ∧ Walks K w (Itt K p) l G) := by
  cases x with
  | tup l =>
    simp only [srcU] at h
    simp only [Rep] at rx
    obtain ⟨p, xs, h2, h3, h4⟩ := rx
    exact ⟨p, l, _, h2, h, .inr ⟨xs, h3, h4, walks_tup h3 h4⟩⟩
  | lst l =>
    obtain ⟨p, l', G, h1, ⟨xs, h2, h3⟩, h4, q⟩ := srcOf_at rs rx (Q := Q) (by simpa only [srcU, srcOf] using h)
    exact ⟨p, l', G, h1, q, .inl ⟨xs, h2, h3, h4⟩⟩
  | hnd n =>
    obtain ⟨p, l', G, h1, ⟨xs, h2, h3⟩, h4, q⟩ := srcOf_at rs rx (Q := Q) (by simpa only [srcU, srcOf] using h)
    exact ⟨p, l', G, h1, q, .inl ⟨xs, h2, h3, h4⟩⟩
  | _ => exact h.elim
theorem IZ.seq (ha : EZ X W a ta fa) : IZ X W tg a (iSeq X.K ta) (walkU fa) := ⟨pi_seq ha.pe, fun w H S σ δ Q E R rs re h lk lx =>
  ha.z.run w H S σ δ _ E _ rs re h (fun w1 H1 S1 dx x l1 r1 e1 h1 => by
    obtain ⟨p, l, G, hv, q, ⟨xs, hx, _, hw⟩ | ⟨xs, hx, _, hw⟩⟩ := srcU_at r1 e1 h1
    · exact ⟨p, hv, .inl ⟨⟨xs, hx⟩, lk w1 H1 S1 l G _ l1 r1 hw q⟩⟩
    · exact ⟨p, hv, .inr ⟨⟨xs, SqT.up r1 hx⟩, lk w1 H1 S1 l G _ l1 r1 hw q⟩⟩) lx⟩
/-- ranges -/
def rangeD (lo : Int) (n : Nat) : List D := (List.range n).map fun i => .int (lo + (i : Nat))
theorem walks_range {w0 : Wd} (lo : Int) (n : Nat) : Walks K w0 (Itr lo n) (rangeD lo n) (fun _ => True) where
  go := fun i w H S le rs _ hi => by
    unfold rangeD at hi
    show i < n
    simpa using hi
  yld := fun i w H S x H' d le rs _ hd y => by
    obtain ⟨e, y⟩ := y
    subst e y
    unfold rangeD at hd
    rw [List.getElem?_map] at hd
    cases q : (List.range n)[i]? with
    | none => rw [q] at hd; cases hd
    | some j =>
      rw [q] at hd
      cases hd
      rw [List.getElem?_range (by have := (List.getElem?_eq_some_iff.mp q).1; simpa using this)] at q
      cases q
      exact ⟨w, Wd.le.refl w, rs, cst_int _ w⟩
  stop := fun w H S le rs _ => by unfold rangeD; rw [List.length_map, List.length_range]; exact Nat.le_refl n
def big62 (i : Int) : Prop := -(2 ^ 62) ≤ i ∧ i < 2 ^ 62
def walkR1 (fa : Env → Wm D) : Src := fun δ S Q E => fa δ S (fun x S1 => match x with
  | .int n => big62 n ∧ Q (rangeD 0 n.toNat, fun _ => True) S1
  | _ => False) E
def walkR2 (fa fb : Env → Wm D) : Src := fun δ S Q E => fa δ S (fun x S1 => fb δ S1 (fun y S2 => match x, y with
  | .int lo, .int hi => big62 lo ∧ big62 hi ∧ Q (rangeD lo (hi - lo).toNat, fun _ => True) S2
  | _, _ => False) E) E
theorem IZ.range1 {p : Pos} (hg : Gl X "range") (hm : X.mg "range" = none) (ha : EZ X W a ta fa) (h1 : starEach [a] X.env = [(false, eval a X.env)] := by rfl) : IZ X W tg (.Call (.Name "range" p) [a] [] pos) (iRng1 (tCons ta tNil)) (walkR1 fa) := ⟨pi_range1 hg hm (pa_cons ha.pe pa_nil h1) h1, fun w H S σ δ Q E R rs re h lk lx =>
  ha.z.run w H S σ δ _ E _ rs re h (fun w1 H1 S1 dx x l1 r1 e1 h1 => by
    cases dx with
    | int n => exact ⟨n, by rw [rep_int e1], h1.1.1, h1.1.2, lk w1 H1 S1 _ _ _ l1 r1 (walks_range 0 n.toNat) h1.2⟩
    | _ => exact h1.elim) lx⟩
theorem IZ.range2 {p : Pos} (hg : Gl X "range") (hm : X.mg "range" = none) (ha : EZ X W a ta fa) (hb : EZ X W b tb fb) (h1 : starEach [a, b] X.env = [(false, eval a X.env), (false, eval b X.env)] := by rfl) (h2 : starEach [b] X.env = [(false, eval b X.env)] := by rfl) (h3 : starEach [a, b] X.env = (false, eval a X.env) :: starEach [b] X.env := by rfl) :
    IZ X W tg (.Call (.Name "range" p) [a, b] [] pos) (iRng2 (tCons ta (tCons tb tNil))) (walkR2 fa fb) := ⟨pi_range2 hg hm (pa_cons ha.pe (pa_cons hb.pe pa_nil h2) h3) h1 h2, fun w H S σ δ Q E R rs re h lk lx =>
  ha.z.run w H S σ δ _ E _ rs re h (fun w1 H1 S1 dx x l1 r1 e1 h1 => hb.z.run w1 H1 S1 σ δ _ E _ r1 (re.le l1) h1 (fun w2 H2 S2 dy y l2 r2 e2 h2 => by
    split at h2
    · rename_i lo hi
      exact ⟨lo, hi, by rw [rep_int e1, rep_int e2], ⟨h2.1.1, h2.1.2, h2.2.1.1, h2.2.1.2⟩, lk w2 H2 S2 _ _ _ (l1.trans l2) r2 (walks_range lo _) h2.2.2⟩
    · exact h2.elim) (lx.le l1)) lx⟩
/-- a text, sign by sign -/
def signsD (x : Str) : List D := x.cps.toList.map fun c => .str ⟨#[c]⟩
theorem walks_str {w0 : Wd} (x : Str) : Walks K w0 (Its x) (signsD x) (fun _ => True) where
  go := fun i w H S le rs _ hi => by
    unfold signsD at hi
    show i < x.cps.size
    simpa using hi
  yld := fun i w H S v H' d le rs _ hd y => by
    obtain ⟨e, c, h1, h2⟩ := y
    subst e h2
    unfold signsD at hd
    rw [List.getElem?_map] at hd
    have : x.cps.toList[i]? = some c := by simpa using h1
    rw [this] at hd
    cases hd
    exact ⟨w, Wd.le.refl w, rs, cst_str _ w⟩
  stop := fun w H S le rs _ => by
    show x.cps.size ≤ (signsD x).length
    unfold signsD
    simp
def walkS (fa : Env → Wm D) : Src := fun δ S Q E => fa δ S (fun x S1 => match x with
  | .str z => Q (signsD z, fun _ => True) S1
  | _ => False) E
theorem IZ.str (ha : EZ X W a ta fa) : IZ X W tg a (iStr ta) (walkS fa) := ⟨pi_str ha.pe, fun w H S σ δ Q E R rs re h lk lx =>
  ha.z.run w H S σ δ _ E _ rs re h (fun w1 H1 S1 dx x l1 r1 e1 h1 => by
    cases dx with
    | str z => exact ⟨z, rep_str e1, lk w1 H1 S1 _ _ _ l1 r1 (walks_str z) h1⟩
    | _ => exact h1.elim) lx⟩

/-! ### for -/
def loopZ (G : Store → Prop) (t : Tz) (g : Gm) (Z : Endz) : List D → Env → Store → Prop
  | [], δ, S => G S ∧ Z.nx δ S
  | x :: xs, δ, S => G S ∧ t x δ S (fun δ1 S1 => g { Z with nx := loopZ G t g Z xs, ct := loopZ G t g Z xs, bk := Z.nx } δ1 S1) Z.xe
def forG (src : Src) (t : Tz) (g : Gm) : Gm := fun D δ S => src δ S (fun p S1 => loopZ p.2 t g D p.1 δ S1) (D.xe δ)
theorem zs_for {wi : TI} {src : Src} {gt : TG} {t : Tz} {ts : TS} {g : Gm} (hi : ∀ w H S σ δ Q E R, RS K w H S → RepE K w δ σ → src δ S Q E → (∀ w1 H1 S1 xs G J, w.le w1 → RS K w1 H1 S1 → Walks K w1 J xs G → Q (xs, G) S1 → R J H1) → LnkX K w E W σ → wi σ H R)
    (hg : ∀ w H S σ δ d v Q E N, RS K w H S → RepE K w δ σ → Rep K w d v → t d δ S Q E → (∀ w' H' S' σ' δ', w.le w' → RS K w' H' S' → RepE K w' δ' σ' → Q δ' S' → N σ' H') → (∀ w' H' S' σ' δ' x cls dd, w.le w' → RS K w' H' S' → RepE K w' δ' σ' → RepX K w' x cls dd → E δ' x S' → W cls dd σ' H') → gt v σ H N)
    (hb : Zs K W ts g) : Zs K W (tFor wi gt ts) (forG src t g) := ⟨fun w H S σ δ D Z rs re h lk =>
  hi w H S σ δ _ _ _ rs re h (fun w1 H1 S1 xs G J l1 r1 hw q => by
    refine ⟨fun i m σ' H' => m = xs.length - i ∧ i ≤ xs.length ∧ ∃ w' S' δ', w1.le w' ∧ RS K w' H' S' ∧ RepE K w' δ' σ' ∧ loopZ G t g Z (xs.drop i) δ' S', ⟨_, rfl, Nat.zero_le _, w1, S1, δ, Wd.le.refl w1, r1, re.le l1, q⟩, ?_⟩
    rintro i m σ2 H2 ⟨rfl, hi, w2, S2, δ2, l2, r2, e2, q2⟩
    by_cases hlt : i < xs.length
    · have hd : xs.drop i = xs[i] :: xs.drop (i + 1) := List.drop_eq_getElem_cons hlt
      rw [hd] at q2
      obtain ⟨g2, q2⟩ := q2
      refine .inr ⟨hw.go i w2 H2 S2 l2 r2 g2 hlt, _, fun σ' H' n => ⟨_, (by omega : xs.length - (i + 1) < xs.length - i), rfl, hlt, n⟩, fun x H' y => ?_⟩
      obtain ⟨w3, l3, r3, e3⟩ := hw.yld i w2 H2 S2 x H' xs[i] l2 r2 g2 (List.getElem?_eq_getElem hlt) y
      refine hg w3 H' S2 σ2 δ2 xs[i] x _ _ _ r3 (e2.le l3) e3 q2 (fun w4 H4 S4 σ4 δ4 l4 r4 e4 q4 => ?_) (fun w4 H4 S4 σ4 δ4 x c dd l4 r4 e4 => lk.xe w4 H4 S4 σ4 δ4 x c dd (((l1.trans l2).trans l3).trans l4) r4 e4)
      have l14 : w1.le w4 := (l2.trans l3).trans l4
      refine hb.run w4 H4 S4 σ4 δ4 _ _ r4 e4 q4 ⟨?_, ?_, ?_, ?_, ?_⟩
      · exact fun w5 H5 S5 σ5 δ5 l5 r5 e5 q5 => ⟨w5, S5, δ5, l14.trans l5, r5, e5, q5⟩
      · exact fun w5 H5 S5 d v l5 => lk.rt w5 H5 S5 d v (l1.trans (l14.trans l5))
      · exact fun w5 H5 S5 σ5 δ5 l5 => lk.nx w5 H5 S5 σ5 δ5 (l1.trans (l14.trans l5))
      · exact fun w5 H5 S5 σ5 δ5 l5 r5 e5 q5 => ⟨w5, S5, δ5, l14.trans l5, r5, e5, q5⟩
      · exact fun w5 H5 S5 σ5 δ5 x c dd l5 => lk.xe w5 H5 S5 σ5 δ5 x c dd (l1.trans (l14.trans l5))
    · have e : i = xs.length := by omega
      subst e
      rw [List.drop_length] at q2
      exact .inl ⟨hw.stop w2 H2 S2 l2 r2 q2.1, lk.nx w2 H2 S2 σ2 δ2 (l1.trans l2) r2 e2 q2.2⟩) (lk.x re)⟩
theorem SZ.for_ {body : List Stmt} {wi : TI} {src : Src} {gt : TG} {t : Tz} {ts : TS} {g : Gm} (hp : PassesOwn (model X.prog X.w) X.A X.env X.xe) (hc : X.calm = true) (hi : IZ X W tg iter wi src) (hg : GZ X W tg gt t) (hb : SsZ X W body ts g)
    (hs : ∀ x, foldedSetIterable iter X.env x = pure x := by intro _; rfl) : SZ X W (.For tg iter body [] pos) (tFor wi gt ts) (forG src t g) := ⟨ps_for hp hc hi.pi hg.pg hb.ps hs, zs_for hi.z hg.z hb.z⟩
/-! ### while -/
def whileZ (p : Env → Wm Bool) (g : Gm) (D : Endz) : Nat → Env → Store → Prop
  | 0, _, _ => False
  | n + 1, δ, S => p δ S (fun b S1 => if b = true then g { D with nx := whileZ p g D n, ct := whileZ p g D n, bk := D.nx } δ S1 else D.nx δ S1) (D.xe δ)
def whileG (p : Env → Wm Bool) (g : Gm) : Gm := fun D δ S => ∃ n, whileZ p g D n δ S
theorem zs_while {t : TT} {p : Env → Wm Bool} {ts : TS} {g : Gm} (hc : Zq K W RB t p) (hb : Zs K W ts g) : Zs K W (tWhile t ts) (whileG p g) := ⟨fun w H S σ δ D Z rs re h lk => by
  obtain ⟨n, q⟩ := h
  refine ⟨fun m σ' H' => ∃ w' S' δ', w.le w' ∧ RS K w' H' S' ∧ RepE K w' δ' σ' ∧ whileZ p g Z m δ' S', ⟨n, w, S, δ, Wd.le.refl w, rs, re, q⟩, ?_⟩
  rintro m σ2 H2 ⟨w2, S2, δ2, l2, r2, e2, q2⟩
  cases m with
  | zero => exact q2.elim
  | succ m =>
    refine hc.run w2 H2 S2 σ2 δ2 _ _ _ r2 e2 q2 (fun w3 H3 S3 b' b l3 r3 e3 h3 => ?_) ((lk.le l2).x e2)
    have e3 : b' = b := e3
    subst e3
    have l13 := l2.trans l3
    cases b' with
    | true =>
      refine ⟨fun σ' H' => ∃ w' S' δ', w.le w' ∧ RS K w' H' S' ∧ RepE K w' δ' σ' ∧ whileZ p g Z m δ' S', fun σ' H' h => ⟨m, Nat.lt_succ_self m, h⟩, hb.run w3 H3 S3 σ2 δ2 _ _ r3 (e2.le l3) h3 ⟨?_, ?_, ?_, ?_, ?_⟩⟩
      · exact fun w5 H5 S5 σ5 δ5 l5 r5 e5 q5 => ⟨w5, S5, δ5, l13.trans l5, r5, e5, q5⟩
      · exact fun w5 H5 S5 d v l5 => lk.rt w5 H5 S5 d v (l13.trans l5)
      · exact fun w5 H5 S5 σ5 δ5 l5 => lk.nx w5 H5 S5 σ5 δ5 (l13.trans l5)
      · exact fun w5 H5 S5 σ5 δ5 l5 r5 e5 q5 => ⟨w5, S5, δ5, l13.trans l5, r5, e5, q5⟩
      · exact fun w5 H5 S5 σ5 δ5 x c dd l5 => lk.xe w5 H5 S5 σ5 δ5 x c dd (l13.trans l5)
    | false => exact lk.nx w3 H3 S3 σ2 δ2 l13 r3 (e2.le l3) h3⟩
theorem SZ.while_ {body : List Stmt} {t : TT} {p : Env → Wm Bool} {ts : TS} {g : Gm} (hp : PassesOwn (model X.prog X.w) X.A X.env X.xe) (hc : TZ X W c t p) (hb : SsZ X W body ts g) : SZ X W (.While c body [] pos) (tWhile t ts) (whileG p g) := ⟨ps_while hp hc.pe hb.ps, zs_while hc.z hb.z⟩
/-! ### comprehensions -/
/-- no exception leaves a comprehension -/
abbrev W0 : WX := fun _ _ _ _ => False
abbrev noE : XD → Store → Prop := fun _ _ => False
abbrev noEE : Env → XD → Store → Prop := fun _ _ _ => False
/-- the list being made stands at handle n -/
def lcGo (G : Store → Prop) (t : Tz) (p : Env → Wm Bool) (fe : Env → Wm D) (δ0 : Env) (n : Nat) (Q : Store → Prop) : List D → Store → Prop
  | [], S => G S ∧ Q S
  | x :: xs, S => G S ∧ t x δ0 S (fun δ1 S1 => p δ1 S1 (fun b S2 => if b = true then fe δ1 S2 (fun y S3 => ∃ l, S3[n]? = some (.lst l) ∧ l.length < 100000 ∧ lcGo G t p fe δ0 n Q xs (S3.set n (.lst (l ++ [y])))) noE else lcGo G t p fe δ0 n Q xs S2) noE) noEE
def lcZ (src : Src) (vs : List Nat) (t : Tz) (p : Env → Wm Bool) (fe : Env → Wm D) : Env → Wm D := fun δ S Q E => src δ S (fun q S1 => lcGo q.2 t p fe (wipeE δ vs) S1.length (fun S2 => Q (.hnd S1.length) S2) q.1 (S1 ++ [.lst []])) E
/-- a target that stores names of the block alone -/
def WipeT (gt : TG) (vs : List Nat) : Prop := ∀ v σ H N, gt v σ H N → gt v σ H fun σ' H' => L2.wipe σ' vs = L2.wipe σ vs ∧ N σ' H'
def WipeTs (gt : TGs) (vs : List Nat) : Prop := ∀ v σ H N, gt v σ H N → gt v σ H fun σ' H' => L2.wipe σ' vs = L2.wipe σ vs ∧ N σ' H'
theorem wipe_at (σ : L2.St) (vs : List Nat) (i : Nat) : (L2.wipe σ vs)[i]? = if i ∈ vs then (σ[i]?).map (fun _ => none) else σ[i]? := by
  induction vs with
  | nil => rfl
  | cons v vs ih =>
    unfold L2.wipe
    by_cases h : v = i
    · subst h
      rw [if_pos (List.mem_cons_self ..)]
      by_cases hl : v < σ.length
      · rw [List.getElem?_set_self (by rw [L2.wipe_length]; exact hl), List.getElem?_eq_getElem hl]
        rfl
      · rw [List.getElem?_eq_none (by rw [List.length_set, L2.wipe_length]; omega), List.getElem?_eq_none (by omega)]
        rfl
    · rw [List.getElem?_set_ne h, ih]
      by_cases hm : i ∈ vs
      · rw [if_pos hm, if_pos (List.mem_cons_of_mem _ hm)]
      · rw [if_neg hm, if_neg fun q => (List.mem_cons.mp q).elim (fun e => h e.symm) hm]
theorem wipe_set {σ : L2.St} {vs : List Nat} {j : Nat} (h : j ∈ vs) (x : Option V) : L2.wipe (σ.set j x) vs = L2.wipe σ vs := by
  refine List.ext_getElem? fun i => ?_
  rw [wipe_at, wipe_at]
  by_cases hm : i ∈ vs
  · rw [if_pos hm, if_pos hm]
    by_cases hj : j = i
    · subst hj
      by_cases hl : j < σ.length
      · rw [List.getElem?_set_self hl, List.getElem?_eq_getElem hl]
        rfl
      · rw [List.getElem?_eq_none (by rw [List.length_set]; omega), List.getElem?_eq_none (by omega)]
    · rw [List.getElem?_set_ne hj]
  · rw [if_neg hm, if_neg hm, List.getElem?_set_ne (fun q : j = i => hm (by rw [← q]; exact h))]
theorem wipe_idem (σ : L2.St) (vs : List Nat) : L2.wipe (L2.wipe σ vs) vs = L2.wipe σ vs := by
  refine List.ext_getElem? fun i => ?_
  rw [wipe_at, wipe_at]
  by_cases hm : i ∈ vs
  · rw [if_pos hm, if_pos hm]
    cases σ[i]? <;> rfl
  · rw [if_neg hm, if_neg hm]
theorem wipe_name {j : Nat} {vs : List Nat} (h : j ∈ vs) : WipeT (gName j) vs := fun v σ H N q => ⟨wipe_set h _, q⟩
theorem wipe_nil {vs : List Nat} : WipeTs gNil vs := fun v σ H N q => ⟨q.1, rfl, q.2⟩
def MonoT (gt : TG) : Prop := ∀ v σ H (N N' : L2.St → Hp → Prop), (∀ σ H, N σ H → N' σ H) → gt v σ H N → gt v σ H N'
def MonoTs (gt : TGs) : Prop := ∀ v σ H (N N' : L2.St → Hp → Prop), (∀ σ H, N σ H → N' σ H) → gt v σ H N → gt v σ H N'
theorem mono_name {j : Nat} : MonoT (gName j) := fun v σ H N N' h q => h _ _ q
theorem mono_nil : MonoTs gNil := fun v σ H N N' h q => ⟨q.1, h _ _ q.2⟩
theorem mono_cons {gt : TG} {gu : TGs} (h1 : MonoT gt) (h2 : MonoTs gu) : MonoTs (gCons gt gu) := fun vs σ H N N' h ⟨v, r, e, q⟩ => ⟨v, r, e, h1 _ _ _ _ _ (fun σ' H' q' => h2 _ _ _ _ _ h q') q⟩
theorem mono_tup {n : Nat} {gu : TGs} (h2 : MonoTs gu) : MonoT (gTup K n gu) := fun v σ H N N' h ⟨a, xs, e, hx, hl, q⟩ => ⟨a, xs, e, hx, hl, h2 _ _ _ _ _ h q⟩
theorem wipe_cons {gt : TG} {gu : TGs} {vs : List Nat} (m1 : MonoT gt) (m2 : MonoTs gu) (h1 : WipeT gt vs) (h2 : WipeTs gu vs) : WipeTs (gCons gt gu) vs := fun ws σ H N ⟨v, r, e, q⟩ => ⟨v, r, e, m1 _ _ _ _ _ (fun σ' H' ⟨e1, q'⟩ => m2 _ _ _ _ _ (fun σ2 H2 ⟨e2, q2⟩ => ⟨e2.trans e1, q2⟩) (h2 _ _ _ _ q')) (h1 _ _ _ _ q)⟩
theorem wipe_tup {n : Nat} {gu : TGs} {vs : List Nat} (h : WipeTs gu vs) : WipeT (gTup K n gu) vs := fun v σ H N ⟨a, xs, e, hx, hl, q⟩ => ⟨a, xs, e, hx, hl, h _ _ _ _ q⟩
theorem lnk0 {w : Wd} {σ : L2.St} : LnkX K w noE W0 σ := fun _ _ _ _ _ _ _ _ _ h => h.elim
theorem zq_lc {wi : TI} {src : Src} {gt : TG} {t : Tz} {tt : TT} {p : Env → Wm Bool} {vs : List Nat} (hw : WipeT gt vs) (hi : ∀ w H S σ δ Q E R, RS K w H S → RepE K w δ σ → src δ S Q E → (∀ w1 H1 S1 xs G J, w.le w1 → RS K w1 H1 S1 → Walks K w1 J xs G → Q (xs, G) S1 → R J H1) → LnkX K w E W σ → wi σ H R)
    (hg : ∀ w H S σ δ d v Q E N, RS K w H S → RepE K w δ σ → Rep K w d v → t d δ S Q E → (∀ w' H' S' σ' δ', w.le w' → RS K w' H' S' → RepE K w' δ' σ' → Q δ' S' → N σ' H') → (∀ w' H' S' σ' δ' x cls dd, w.le w' → RS K w' H' S' → RepE K w' δ' σ' → RepX K w' x cls dd → E δ' x S' → W0 cls dd σ' H') → gt v σ H N)
    (ht : Zq K W0 RB tt p) (he : Zq K W0 (Rep K) te fe) : Zq K W (Rep K) (tLc wi gt tt te vs) (lcZ src vs t p fe) := ⟨fun w H S σ δ Q E QV rs re h lk lx =>
  hi w H S σ δ _ _ _ rs re h (fun w1 H1 S1 xs G J l1 r1 hwk q => by
    intro Dl hD
    have la := le_add (w := w1) (p := Dl)
    have ra := r1.newH (c := .lst []) (o := .lst []) hD ⟨r1.fresh hD, [], upd_same, RepL.nil⟩
    have hn : w1.n = S1.length := r1.n
    have hrho : (w1.add Dl).rho S1.length = Dl := by
      show (if S1.length = w1.n then Dl else w1.rho S1.length) = Dl
      rw [if_pos hn.symm]
    have hlt : S1.length < (w1.add Dl).n := by
      show S1.length < w1.n + 1
      rw [hn]
      exact Nat.lt_succ_self _
    refine ⟨fun i m H' => m = xs.length - i ∧ i ≤ xs.length ∧ ∃ w' S', (w1.add Dl).le w' ∧ RS K w' H' S' ∧ lcGo G t p fe (wipeE δ vs) S1.length (fun S2 => Q (.hnd S1.length) S2) (xs.drop i) S', ⟨_, rfl, Nat.zero_le _, _, _, Wd.le.refl _, ra, q⟩, ?_⟩
    rintro i m H2 ⟨rfl, hi, w2, S2, l2, r2, q2⟩
    have l12 : w1.le w2 := la.trans l2
    by_cases hlt2 : i < xs.length
    · have hd : xs.drop i = xs[i] :: xs.drop (i + 1) := List.drop_eq_getElem_cons hlt2
      rw [hd] at q2
      obtain ⟨g2, q2⟩ := q2
      refine .inr ⟨hwk.go i w2 H2 S2 l12 r2 g2 hlt2, _, fun H' n => ⟨_, (by omega : xs.length - (i + 1) < xs.length - i), rfl, hlt2, n⟩, fun x H' y => ?_⟩
      have hw' : ∀ N, gt x (L2.wipe σ vs) H' N → gt x (L2.wipe σ vs) H' fun σ' H' => L2.wipe σ' vs = L2.wipe σ vs ∧ N σ' H' := fun N hN => by
        have z := hw x (L2.wipe σ vs) H' N hN
        rw [wipe_idem σ vs] at z
        exact z
      refine hw' _ ?_
      obtain ⟨w3, l3, r3, e3⟩ := hwk.yld i w2 H2 S2 x H' xs[i] l12 r2 g2 (List.getElem?_eq_getElem hlt2) y
      refine hg w3 H' S2 _ (wipeE δ vs) xs[i] x _ _ _ r3 (((re.le l1).le (l12.trans l3)).wipe vs) e3 q2 (fun w4 H4 S4 σ4 δ4 l4 r4 e4 q4 => ?_) (fun _ _ _ _ _ _ _ _ _ _ _ _ h => h.elim)
      refine ht.run w4 H4 S4 σ4 δ4 _ _ _ r4 e4 q4 (fun w5 H5 S5 b' b l5 r5 e5 q5 => ?_) lnk0
      have e5 : b' = b := e5
      subst e5
      have l25 : w2.le w5 := (l3.trans l4).trans l5
      cases b' with
      | false => exact ⟨w5, S5, l2.trans l25, r5, q5⟩
      | true =>
        refine he.run w5 H5 S5 σ4 δ4 _ _ _ r5 (e4.le l5) q5 (fun w6 H6 S6 d v l6 r6 e6 q6 => ?_) lnk0
        obtain ⟨l, h1, h2, q6⟩ := q6
        have l06 : (w1.add Dl).le w6 := (l2.trans l25).trans l6
        have hr6 : w6.rho S1.length = Dl := by rw [l06.rho _ hlt, hrho]
        obtain ⟨hn6, ys, h3, h4⟩ := r6.at_ _ _ h1
        rw [hr6] at h3 hn6
        have rw6 := r6.write (o := .lst (ys ++ [v])) (c := .lst (l ++ [d])) h1 trivial ⟨by rw [hr6]; exact hn6, ys ++ [v], upd_same, h4.append (.cons e6 .nil)⟩
        rw [hr6] at rw6
        exact ⟨ys, h3, by rw [h4.length]; exact small.lt h2, w6, _, l06, rw6, q6⟩
    · have e : i = xs.length := by omega
      subst e
      rw [List.drop_length] at q2
      refine .inl ⟨hwk.stop w2 H2 S2 l12 r2 q2.1, lk w2 H2 S2 (.hnd S1.length) (.ref Dl) (l1.trans l12) r2 ?_ q2.2⟩
      simp only [Rep]
      exact ⟨Nat.lt_of_lt_of_le hlt l2.n, by rw [l2.rho _ hlt, hrho]⟩) lx⟩
/-! the comprehension's own context -/
theorem takes_blk {s : Shared} {H : Hp} {scope : Scope} {cenv : PySem.Env} {fp : List Addr} : Takes (X.blk s H scope cenv fp) W0 := takes0
structure TsZ (X : Cx) (W : WX) (ifs : List Expr) (tt : TT) (p : Env → Wm Bool) : Prop where
  pe : PTs X ifs tt
  z : Zq X.K W RB tt p
def yesZ : Env → Wm Bool := fun _ S Q _ => Q true S
theorem TsZ.nil : TsZ X W [] tYes yesZ := ⟨pts_nil, ⟨fun w H S σ δ Q E QV rs re h lk lx => lk w H S true true (Wd.le.refl w) rs rfl h⟩⟩
theorem TsZ.one {tt : TT} {p : Env → Wm Bool} (h : TZ X W c tt p) : TsZ X W [c] tt p := ⟨pts_one h.pe, h.z⟩
/-- in every block of the scope -/
def Blk (X : Cx) (scope : Scope) (P : Cx → Prop) : Prop := ∀ (s : Shared) (H : Hp) (C : Addr) (cl : List (Str × Addr)) (fp : List Addr), P (X.blk s H scope (compEnvC scope cl C X.env) fp)
theorem Blk.any {scope : Scope} {P : Cx → Prop} (h : Blk X scope P) : ∃ Y : Cx, Y.K = X.K ∧ P Y := by
  refine ⟨_, ?_, h {} (fun _ => none) 0 [] []⟩
  rfl
theorem EZ.lc {ifs : List Expr} {scope : Scope} {own : List (Str × Nat)} {wi : TI} {src : Src} {gt : TG} {t : Tz} {tt : TT} {p : Env → Wm Bool} (hc : X.calm = true) (hN : X.N.Nodup) (hw : WipeT gt (own.map (·.2))) (hi : IZ X W tg iter wi src) (ok : BlkOk X.N X.env.scope scope own)
    (hg : Blk X scope fun Y => GZ Y W0 tg gt t) (ht : Blk X scope fun Y => TsZ Y W0 ifs tt p) (he : Blk X scope fun Y => EZ Y W0 elt te fe) (hs : ∀ x, foldedSetIterable iter X.env x = pure x := by intro _; rfl) :
    EZ X W (.ListComp elt [⟨tg, iter, ifs, 0⟩] scope pos) (tLc wi gt tt te (own.map (·.2))) (lcZ src (own.map (·.2)) t p fe) := by
  refine ⟨pe_lc hc hN hi.pi ok (fun s H C cl fp => (hg s H C cl fp).pg) (fun s H C cl fp => (ht s H C cl fp).pe) (fun s H C cl fp => (he s H C cl fp).pe) hs, ?_⟩
  obtain ⟨Y1, k1, g1⟩ := hg.any
  obtain ⟨Y2, k2, g2⟩ := ht.any
  obtain ⟨Y3, k3, g3⟩ := he.any
  have z1 := g1.z
  have z2 := g2.z
  have z3 := g3.z
  rw [k1] at z1
  rw [k2] at z2
  rw [k3] at z3
  exact zq_lc hw hi.z z1 z2 z3
/-- name = [..] on one line -/
theorem SZ.setLc (i : Nat) {y : Str} {py spos : Pos} {ifs : List Expr} {scope : Scope} {own : List (Str × Nat)} {wi : TI} {src : Src} {gt : TG} {t : Tz} {tt : TT} {p : Env → Wm Bool} (hc : X.calm = true) (hN : X.N.Nodup) (hy : X.N[i]? = some y) (hyl : X.env.scope.names.lookup y = some .local)
    (hsw : swapsWith (.ListComp elt [⟨tg, iter, ifs, 0⟩] scope pos) (some (.Name y py)) spos.line X.env = pure true) (hw : WipeT gt (own.map (·.2))) (hi : IZ X W tg iter wi src) (ok : BlkOk X.N X.env.scope scope own)
    (hg : Blk X scope fun Y => GZ Y W0 tg gt t) (ht : Blk X scope fun Y => TsZ Y W0 ifs tt p) (he : Blk X scope fun Y => EZ Y W0 elt te fe) (hs : ∀ x, foldedSetIterable iter X.env x = pure x := by intro _; rfl) :
    SZ X W (.Assign [.Name y py] (.ListComp elt [⟨tg, iter, ifs, 0⟩] scope pos) spos) (tAsg (tLc wi gt tt te (own.map (·.2))) (gName i)) (asgG i (lcZ src (own.map (·.2)) t p fe)) := by
  refine ⟨ps_setLc hc hN hy hyl hsw hi.pi ok (fun s H C cl fp => (hg s H C cl fp).pg) (fun s H C cl fp => (ht s H C cl fp).pe) (fun s H C cl fp => (he s H C cl fp).pe) hs, ?_⟩
  obtain ⟨Y1, k1, g1⟩ := hg.any
  obtain ⟨Y2, k2, g2⟩ := ht.any
  obtain ⟨Y3, k3, g3⟩ := he.any
  have z1 := g1.z
  have z2 := g2.z
  have z3 := g3.z
  rw [k1] at z1
  rw [k2] at z2
  rw [k3] at z3
  exact zs_asg i (zq_lc hw hi.z z1 z2 z3)
end
end Z
/-! ZIter: enumerate over lists and tuples. -/
namespace Z
open PySem L2 PySem.Spec PyProof.Rows
open Sem (wp)
theorem meets_enum1 {v : Value} {o : Obj} {H : Heap → Prop} (B : Begins v o H) :
    Meets (Builtin.«enumerate.__new__» ⟨[.type "enumerate", v], []⟩) (fun _ R s => H s.heap ∧
      R (.ok (.ret (.ref (s.heap.push o).objs.size))) { s with heap := (s.heap.push o).push { cls := .type "enumerate", data := .fields #[.none, .bool false, .ref s.heap.objs.size, rawInt 0, .none, .none] } }) :=
  .of_wp fun prog w A R s h => by
    obtain ⟨hp, g, d, tk, os⟩ := s; obtain ⟨h1, h⟩ := h
    have hsub := sub_enumerate
    have q1 : ∀ {A' : Around} {E : Value → Shared → Prop} {Q : Value → Shared → Prop}, Q (.ref hp.objs.size) ⟨hp.push o, g, d, tk, os⟩ → wpAny (model prog w) A' (pyIter v) Q E ⟨hp, g, d, tk, os⟩ :=
      fun q => B.iter prog w _ _ ⟨hp, g, d, tk, os⟩ _ h1 q
    wp_walk using q1
    refine wpAny_stack_any fun st => wpAny_pure ?_
    split
    · rename_i c _ _ _ _ _
      cases (c == Value.type "enumerate")
      · wp_walk using q1
        exact ⟨_, rfl, h⟩
      · wp_walk using q1
        exact ⟨_, rfl, h⟩
    · wp_walk using q1
      exact ⟨_, rfl, h⟩
section
variable {prog : Program} {w : World} {A : Around} {E : Value → Shared → Prop} {s : Shared}
theorem call_enum1 {v : Value} {o : Obj} {H : Heap → Prop} {Q : Value → Shared → Prop} (B : Begins v o H) (h1 : H s.heap)
    (h : ∀ h', IsEnum h' (s.heap.objs.size + 1) s.heap.objs.size 0 .none → h'.get? s.heap.objs.size = some o → h'.objs.size = s.heap.objs.size + 2 →
      (∀ b o, s.heap.get? b = some o → h'.get? b = some o) → Q (.ref (s.heap.objs.size + 1)) { s with heap := h' }) :
    wpAny (model prog w) A (call (.type "enumerate") [v]) Q E s := by
  refine callType_new F.called_enumerate (by decide) (F.typeCall_enumerate_1 _) (F.newCall_enumerate_1 _) (fun obj => F.args_object_init_2 obj _) F.entry_enumerate_new
    (meets_enum1 B) ⟨h1, ?_⟩
  have hz : (s.heap.push o).objs.size = s.heap.objs.size + 1 := Heap.size_push ..
  show _ ∧ _
  rw [hz]
  have he : IsEnum ((s.heap.push o).push { cls := .type "enumerate", data := .fields #[.none, .bool false, .ref s.heap.objs.size, rawInt 0, .none, .none] }) (s.heap.objs.size + 1) s.heap.objs.size 0 .none := by
    have := Heap.get?_push_size (s.heap.push o) (o := { cls := .type "enumerate", data := .fields #[.none, .bool false, .ref s.heap.objs.size, rawInt 0, .none, .none] }) rfl
    rw [hz] at this; exact this
  exact ⟨⟨_, he, rfl⟩, h _ he (Heap.get?_push_of_some _ (Heap.get?_push_size _ B.free)) (by rw [Heap.size_push, hz]) fun b o x => Heap.get?_push_of_some _ (Heap.get?_push_of_some _ x)⟩
end
/-- the tuple at a, counted -/
def IteT (K : PySem.W.Frag) (a : Addr) (n : Nat) : It :=
  ⟨fun i H => ∃ (xs : List V) (x : V), SqT K H a xs ∧ xs.length = n ∧ xs[i]? = some x, fun i H v H' => ∃ T x, v = .ref T ∧ H T = none ∧ H' = upd H T (.tup [.int (i : Nat), x]) ∧ ∀ xs, SqT K H a xs → xs[i]? = some x, fun i H => ∃ xs : List V, SqT K H a xs ∧ xs.length = n ∧ n ≤ i⟩
theorem turn_enumT {P : Program} {w : World} {K : PySem.W.Frag} {elts : List Expr} {kk : Nat} {tpos : Pos} (a e it : Addr) (n : Nat) :
    Turn P w K (.Tuple elts kk tpos) (IteT K a n) [e, it] e (fun i h => (∃ old, IsEnum h e it ((i : Nat) : Int) old) ∧ h.IsTupleIter it a i ∧ e ≠ it ∧ a ≠ it ∧ a ≠ e ∧ i ≤ n) where
  mem := by simp
  obj := fun i h st b hb => by
    obtain ⟨⟨old, he⟩, ⟨o, ho, hc, hd⟩, _⟩ := st
    have e' : b = e ∨ b = it := by simpa using hb
    rcases e' with z | z
    · rw [z]; exact ⟨_, he, fun v q => nomatch q⟩
    · rw [z]; exact ⟨o, ho, fun v q => by rw [hd] at q; cases q⟩
  keep := fun i h h' st k => let ⟨⟨old, he⟩, hi, hne⟩ := st; ⟨⟨old, k e (by simp) _ he⟩, hi.at fun o q => k it (by simp) o q, hne⟩
  item := by
    intro X hP hw hK hc i pins s σ H E I hf st hg
    subst hP hw hK
    obtain ⟨⟨old, he⟩, hit, hne, hai, hae, hin⟩ := st
    obtain ⟨xs, x, hq, hxl, hx⟩ := hg
    have hin2 : i + 1 ≤ n := by have := (List.getElem?_eq_some_iff.mp hx).1; omega
    obtain ⟨its, rv, p, hz⟩ := I.tuple hq
    obtain ⟨u, hu, ru⟩ := rv.get hx
    have hel : e < s.heap.objs.size := Heap.lt_size he
    have hil : it < s.heap.objs.size := by obtain ⟨_, q, _⟩ := hit; exact Heap.lt_size q
    have D := Draws.tuple (prog := X.prog) (w := X.w) (A := X.A.in1) (I.ok.hd hc) it a hai its.toArray
    have hlt : i < its.toArray.size := by
      have := (List.getElem?_eq_some_iff.mp hu).1
      simpa using this
    refine wpAny_pyNext_enum_itemD D he ⟨hit, show s.heap.IsTuple a its.toArray from p⟩ hlt hne (by simp [hne, Ne.symm hae]) fun x' h' tk hP ho hst' hT hsz hk => ?_
    have ex : x' = u := by
      have hu' : its.toArray[i]? = some u := by simpa using hu
      rw [hu'] at hP
      exact (Option.some.inj hP).symm
    subst ex
    refine ⟨_, rfl, wpAny_letOwnedTupleGo_enum (s := { s with heap := h', toks := tk + 1 }) ho fun h'' he' sb => ?_⟩
    have hT2 : h''.get? s.heap.objs.size = some { cls := .type "tuple", data := .seq #[.int i tk, x'] } := (sb.2 _ (Nat.ne_of_gt hel)).trans hT
    have new : ObjOk X.prog X.w (upd H s.heap.objs.size (.tup [.int (i : Nat), x])) h'' s.heap.objs.size (.tup [.int (i : Nat), x]) :=
      ⟨by show 2 ≤ sizeLine; decide, [.int i tk, x'], .cons ⟨_, rfl⟩ (.cons ru .nil), ⟨_, hT2, rfl, _, rfl⟩⟩
    have I1 : Inv X pins σ (upd H s.heap.objs.size (.tup [.int (i : Nat), x])) { s with heap := h'', toks := tk + 1 } :=
      I.turnedNew (ch := [e, it]) (fun b ob hb q => (sb.2 b (fun z => hb (by simp [z]))).trans (hk b ob (fun z => hb (by simp [z])) (fun z => hb (by simp [z])) q)) hf (Nat.le_refl _) new
    refine ⟨.ref s.heap.objs.size, _, I1, rfl, ⟨_, x, rfl, I.hok.fresh (Nat.le_refl _), rfl, fun ys hy => by rw [I.tuple_inj hy hq]; exact hx⟩, ⟨⟨x', ?_⟩, hst'.1.at fun o q => (sb.2 it (Ne.symm hne)).trans q, hne, hai, hae, hin2⟩, fun b hb => ?_⟩
    · have e1 : ((i + 1 : Nat) : Int) = (i : Int) + 1 := by omega
      rw [e1]; exact he'
    · have hb' : b < s.heap.objs.size := by
        have e' : b = e ∨ b = it := by simpa using hb
        rcases e' with z | z
        · rw [z]; exact hel
        · rw [z]; exact hil
      rw [upd_ne (Nat.ne_of_lt hb')]
      exact (hf b hb).1
  done := by
    intro X hP hw hK hc i pins s σ H E I hf st hg
    subst hP hw hK
    obtain ⟨⟨old, he⟩, hit, hne, hai, hae, hin⟩ := st
    obtain ⟨xs, hq, hxl, hx⟩ := hg
    obtain ⟨its, rv, p, hz⟩ := I.tuple hq
    obtain ⟨f0, f1, f2, f3, f4, f5⟩ := hf it (by simp)
    have hl := rv.length
    have e1 : i = its.toArray.size := by simp; omega
    have D := Draws.tuple (prog := X.prog) (w := X.w) (A := X.A.in1) (I.ok.hd hc) it a hai its.toArray
    rw [← e1] at D
    exact wpAny_pyNext_enum_endD D he ⟨hit, show s.heap.IsTuple a its.toArray from p⟩ fun h' eb => ⟨rfl, I.turned (t' := s.toks) (fun b o hb q => eb b o hb q) f0 f1 f3 f4 f5⟩
  self := fun A i s Q E st h => let ⟨⟨_, he⟩, _⟩ := st; wpAny_pyIter_enum he h
def iEnumU (K : PySem.W.Frag) (ta : TA) : TI := fun σ H R => ta σ H fun vs H1 => ∃ a, vs = [.ref a] ∧ (((∃ xs, SqL K H1 a xs) ∧ R (Ite K a) H1) ∨ (∃ xs, SqT K H1 a xs ∧ R (IteT K a xs.length) H1))
theorem pi_enumU {X : Cx} {e : Expr} {ta : TA} {p pos tpos : Pos} {elts : List Expr} {kk : Nat} (hg : Gl X "enumerate") (hm : X.mg "enumerate" = none) (ha : PA X [e] ta) (hs : starEach [e] X.env = [(false, eval e X.env)] := by rfl) :
    PI X (.Tuple elts kk tpos) (.Call (.Name "enumerate" p) [e] [] pos) (iEnumU X.K ta) := by
  refine ⟨fun pins s σ H R I h => ?_⟩
  refine Call_ (ld_blt I hg hm boot_enumerate (PyProof.Rows.callWith_type1 (thn (ha.run pos pins s σ H _ I h) fun us s1 ⟨vs, H1, I1, r1, q1⟩ => ?_) hs rfl))
  obtain ⟨a, ex, q⟩ := q1
  subst ex
  cases r1 with
  | cons r rr =>
    cases rr
    cases r
    have sep : ∀ b, b ∈ [s1.heap.objs.size + 1, s1.heap.objs.size] → FpOk X pins H1 b := fun b hb => by
      have e' : b = s1.heap.objs.size + 1 ∨ b = s1.heap.objs.size := by simpa using hb
      have hle : s1.heap.objs.size ≤ b := by
        rcases e' with z | z
        · rw [z]; exact Nat.le_add_right _ _
        · rw [z]; exact Nat.le_refl _
      exact I1.fpOk hle (I1.hok.fresh hle)
    rcases q with ⟨⟨xs, hq⟩, q⟩ | ⟨xs, hq, q⟩
    · obtain ⟨its, rv, p', hz⟩ := I1.list hq
      refine call_enumerate_list p'.isList fun h' he hit hsz hk => wpAny_pyIter_enum he ?_
      have I2 : Inv X pins σ H1 { s1 with heap := h' } := I1.kept (t' := s1.toks) hk
      exact ⟨s1.heap.objs.size + 1, [s1.heap.objs.size + 1, s1.heap.objs.size], _, _, H1, rfl, I2, turn_enum a (s1.heap.objs.size + 1) s1.heap.objs.size, ⟨⟨.none, he⟩, hit, Nat.succ_ne_self _⟩, sep, q⟩
    · obtain ⟨its, rv, p', hz⟩ := I1.tuple hq
      have p2 : s1.heap.IsTuple a its.toArray := p'
      have hal : a < s1.heap.objs.size := by obtain ⟨o, e1, _⟩ := p2; exact Heap.lt_size e1
      refine call_enum1 (begins_tuple a its.toArray) p2 fun h' he hit hsz hk => wpAny_pyIter_enum he ?_
      have I2 : Inv X pins σ H1 { s1 with heap := h' } := I1.kept (t' := s1.toks) hk
      exact ⟨s1.heap.objs.size + 1, [s1.heap.objs.size + 1, s1.heap.objs.size], _, _, H1, rfl, I2, turn_enumT a (s1.heap.objs.size + 1) s1.heap.objs.size xs.length, ⟨⟨.none, he⟩, ⟨_, hit, rfl, rfl⟩, Nat.succ_ne_self _, Nat.ne_of_lt hal, Nat.ne_of_lt (Nat.lt_succ_of_lt hal), Nat.zero_le _⟩, sep, q⟩
/-! ### over deep values -/
section
variable {X : Cx} {W : WX} {K : PySem.W.Frag} {a e : Expr} {ta : TE} {fa : Env → Wm D} {pos : Pos}
def enumD (l : List D) : List D := (List.range l.length).zipWith (fun i d => .tup [.int (i : Nat), d]) l
theorem enumD_at {l : List D} {i : Nat} {x : D} (h : (enumD l)[i]? = some x) : ∃ d, l[i]? = some d ∧ x = .tup [.int (i : Nat), d] := by
  unfold enumD at h
  rw [List.getElem?_zipWith] at h
  cases e : l[i]? with
  | none => rw [e] at h; cases q : (List.range l.length)[i]? <;> rw [q] at h <;> simp at h
  | some d =>
    have hi : i < l.length := (List.getElem?_eq_some_iff.mp e).1
    rw [e, List.getElem?_range hi] at h
    exact ⟨d, rfl, (by simpa using h.symm)⟩
theorem enumD_len (l : List D) : (enumD l).length = l.length := by simp [enumD]
def pairF {w : Wd} {H : Hp} {S : Store} (r : RS K w H S) {i : Nat} {d : D} {x : V} (hx : Rep K w d x) {T : Addr} (hT : H T = none) : ∃ w', w.le w' ∧ RS K w' (upd H T (.tup [.int (i : Nat), x])) S ∧ Rep K w' (.tup [.int (i : Nat), d]) (.ref T) := by
  have l1 := le_frz (o := .tup [.int (i : Nat), x]) (r.fresh hT)
  refine ⟨_, l1, r.newF _ hT, ?_⟩
  simp only [Rep]
  exact ⟨T, _, rfl, .inl (.inl upd_same), .cons (by simp only [Rep]) (.cons (Rep.le l1 d hx) .nil)⟩
theorem walks_enumL {w0 : Wd} {p : Addr} {l : List D} {xs : List V} (h : w0.hs p = some (.lst xs)) (r : RepL K w0 l xs) : Walks K w0 (Ite K p) (enumD l) (fun _ => True) where
  go := fun i w H S le rs _ hi => by
    rw [enumD_len] at hi
    have e1 : H p = some (.lst xs) := rs.ex _ _ (le.hs _ _ h)
    have hl := r.length
    exact ⟨xs, xs[i], .inl (.inl e1), List.getElem?_eq_getElem (by omega)⟩
  yld := fun i w H S x H' d le rs _ hd y => by
    obtain ⟨d0, e0, rfl⟩ := enumD_at hd
    obtain ⟨T, v, rfl, hT, rfl, q⟩ := y
    have e1 : H p = some (.lst xs) := rs.ex _ _ (le.hs _ _ h)
    obtain ⟨v', e2, e3⟩ := r.get e0
    have := q xs (.inl (.inl e1))
    rw [e2] at this
    cases this
    obtain ⟨w', l', r', p'⟩ := pairF (i := i) rs (Rep.le le d0 e3) hT
    exact ⟨w', l', r', p'⟩
  stop := fun w H S le rs _ => by
    have e1 : H p = some (.lst xs) := rs.ex _ _ (le.hs _ _ h)
    exact ⟨xs, .inl (.inl e1), by rw [enumD_len, r.length]; exact Nat.le_refl _⟩
theorem walks_enumH {w0 : Wd} {n : Nat} {l : List D} (hn : n < w0.n) : Walks K w0 (Ite K (w0.rho n)) (enumD l) (fun S' => S'[n]? = some (.lst l)) where
  go := fun i w H S le rs g hi => by
    rw [enumD_len] at hi
    obtain ⟨_, xs, e1, r⟩ := rs.at_ n _ g
    rw [le.rho n hn] at e1
    have hl := r.length
    exact ⟨xs, xs[i], .inl (.inl e1), List.getElem?_eq_getElem (by omega)⟩
  yld := fun i w H S x H' d le rs g hd y => by
    obtain ⟨d0, e0, rfl⟩ := enumD_at hd
    obtain ⟨T, v, rfl, hT, rfl, q⟩ := y
    obtain ⟨_, xs, e1, r⟩ := rs.at_ n _ g
    rw [le.rho n hn] at e1
    obtain ⟨v', e2, e3⟩ := r.get e0
    have := q xs (.inl (.inl e1))
    rw [e2] at this
    cases this
    obtain ⟨w', l', r', p'⟩ := pairF (i := i) rs e3 hT
    exact ⟨w', l', r', p'⟩
  stop := fun w H S le rs g => by
    obtain ⟨_, xs, e1, r⟩ := rs.at_ n _ g
    rw [le.rho n hn] at e1
    exact ⟨xs, .inl (.inl e1), by rw [enumD_len, r.length]; exact Nat.le_refl _⟩
theorem walks_enumT {w0 : Wd} {p : Addr} {l : List D} {xs : List V} (h : SqT K w0.hs p xs) (r : RepL K w0 l xs) : Walks K w0 (IteT K p xs.length) (enumD l) (fun _ => True) where
  go := fun i w H S le rs _ hi => by
    rw [enumD_len] at hi
    have e1 : SqT K H p xs := SqT.up rs (SqT.le le h)
    have hl := r.length
    exact ⟨xs, xs[i], e1, rfl, List.getElem?_eq_getElem (by omega)⟩
  yld := fun i w H S x H' d le rs _ hd y => by
    obtain ⟨d0, e0, rfl⟩ := enumD_at hd
    obtain ⟨T, v, rfl, hT, rfl, q⟩ := y
    have e1 : SqT K H p xs := SqT.up rs (SqT.le le h)
    obtain ⟨v', e2, e3⟩ := r.get e0
    have := q xs e1
    rw [e2] at this
    cases this
    obtain ⟨w', l', r', p'⟩ := pairF (i := i) rs (Rep.le le d0 e3) hT
    exact ⟨w', l', r', p'⟩
  stop := fun w H S le rs _ => by
    have e1 : SqT K H p xs := SqT.up rs (SqT.le le h)
    exact ⟨xs, e1, rfl, by rw [enumD_len, r.length]; exact Nat.le_refl _⟩
def srcE (x : D) (S : Store) (Q : List D × (Store → Prop) → Store → Prop) : Prop := match x with
  | .tup l => Q (enumD l, fun _ => True) S
  | .lst l => Q (enumD l, fun _ => True) S
  | .hnd n => ∃ l, S[n]? = some (.lst l) ∧ Q (enumD l, fun S' => S'[n]? = some (.lst l)) S
  | _ => False
/-- enumerate(a) -/
def walkE (fa : Env → Wm D) : Src := fun δ S Q E => fa δ S (fun x S1 => srcE x S1 Q) E
theorem IZ.enum {p tpos : Pos} {elts : List Expr} {kk : Nat} (hg : Gl X "enumerate") (hm : X.mg "enumerate" = none) (ha : EZ X W a ta fa) (hs : starEach [a] X.env = [(false, eval a X.env)] := by rfl) (hs' : starEach [a] X.env = (false, eval a X.env) :: starEach [] X.env := by rfl) :
    IZ X W (.Tuple elts kk tpos) (.Call (.Name "enumerate" p) [a] [] pos) (iEnumU X.K (tCons ta tNil)) (walkE fa) := ⟨pi_enumU hg hm (pa_cons ha.pe pa_nil hs') hs, fun w H S σ δ Q E R rs re h lk lx =>
  ha.z.run w H S σ δ _ E _ rs re h (fun w1 H1 S1 dx x l1 r1 e1 h1 => by
    show ∃ b, [x] = [V.ref b] ∧ _
    unfold srcE at h1
    split at h1
    · rename_i l
      simp only [Rep] at e1
      obtain ⟨b, xs, rfl, e2, e3⟩ := e1
      exact ⟨b, rfl, .inr ⟨xs, SqT.up r1 e2, lk w1 H1 S1 _ _ _ l1 r1 (walks_enumT e2 e3) h1⟩⟩
    · rename_i l
      simp only [Rep] at e1
      obtain ⟨b, xs, rfl, e2, e3⟩ := e1
      exact ⟨b, rfl, .inl ⟨⟨xs, .inl (.inl (r1.ex _ _ e2))⟩, lk w1 H1 S1 _ _ _ l1 r1 (walks_enumL e2 e3) h1⟩⟩
    · rename_i n
      obtain ⟨l, g, q⟩ := h1
      simp only [Rep] at e1
      obtain ⟨e2, rfl⟩ := e1
      obtain ⟨_, xs, e3, e4⟩ := r1.at_ n _ g
      exact ⟨_, rfl, .inl ⟨⟨xs, .inl (.inl e3)⟩, lk w1 H1 S1 _ _ _ l1 r1 (walks_enumH e2) q⟩⟩
    · exact h1.elim) lx⟩
end
end Z
/-! ZBuilt: built-in functions and methods over deep values. -/
namespace Z
open PySem L2 PySem.Spec PyProof.Rows
section
variable {X : Cx} {W : WX} {K : PySem.W.Frag} {a b c e o : Expr} {es : List Expr} {te ta tb to : TE} {t : TA} {f fa fb fo : Env → Wm D} {fs : Env → Wm (List D)} {pos p : Pos} {x name : Str} {id T : String}
theorem zq_ca {r : List V → Hp → VK → Prop} {g : List D → Wm D} (hz : CaZ K r g) (ha : Zq K W (RepL K) t fs) : Zq K W (Rep K) (tCB r t) (caZ g fs) := ⟨fun w H S σ δ Q E QV rs re h lk lx =>
  ha.run w H S σ δ _ E _ rs re h (fun w1 H1 S1 dx x l1 r1 e1 h1 => hz w1 H1 S1 x dx Q E QV r1 e1 h1 (lk.le l1)) lx⟩
theorem EZ.callB {r : List V → Hp → VK → Prop} {g : List D → Wm D} (hc : CallR X (.builtin id) r) (hz : CaZ X.K r g) (hg : Gl X x) (hm : X.mg x = none) (hv : bootBuiltins x = some (.builtin id)) (ha : AZ X W (e :: es) t fs) (hn : x ≠ "__name__" := by decide) (hdb : (x == ("__debug__" : Str)) = false := by decide)
    (he : starEach (e :: es) X.env = (false, eval e X.env) :: starEach es X.env := by rfl) (hpl : (backTo pos (starEach es X.env)).any (·.1) = false := by rfl) : EZ X W (.Call (.Name x p) (e :: es) [] pos) (tCB r t) (caZ g fs) := ⟨pe_callB hc hg hm hv ha.pe hn hdb he hpl, zq_ca hz ha.z⟩
theorem EZ.callTy {r : List V → Hp → VK → Prop} {g : List D → Wm D} (hc : CallR X (.type T) r) (hz : CaZ X.K r g) (hg : Gl X x) (hm : X.mg x = none) (hv : bootBuiltins x = some (.type T)) (ha : AZ X W (e :: es) t fs) (hn : x ≠ "__name__" := by decide) (hdb : (x == ("__debug__" : Str)) = false := by decide)
    (he : starEach (e :: es) X.env = (false, eval e X.env) :: starEach es X.env := by rfl) (hpl : (backTo pos (starEach es X.env)).any (·.1) = false := by rfl) : EZ X W (.Call (.Name x p) (e :: es) [] pos) (tCB r t) (caZ g fs) := ⟨pe_callTy hc hg hm hv ha.pe hn hdb he hpl, zq_ca hz ha.z⟩
/-- a lists of one -/
def oneD (g : D → Wm D) : List D → Wm D := fun ds S Q E => match ds with
  | [d] => g d S Q E
  | _ => False
theorem repL_one {w : Wd} {d : D} {xs : List V} (h : RepL K w [d] xs) : ∃ x, xs = [x] ∧ Rep K w d x := by
  simp only [RepL] at h
  obtain ⟨y, r, e1, e2, e3⟩ := h
  subst e3
  exact ⟨y, e1, e2⟩
theorem repL_two {w : Wd} {d d' : D} {xs : List V} (h : RepL K w [d, d'] xs) : ∃ x y, xs = [x, y] ∧ Rep K w d x ∧ Rep K w d' y := by
  simp only [RepL] at h
  obtain ⟨y, r, e1, e2, y', r', e4, e3, e5⟩ := h
  subst e5 e4
  exact ⟨y, y', e1, e2, e3⟩
theorem caz_one {r : List V → Hp → VK → Prop} {g : D → Wm D} (h : ∀ w H S x d Q E QV, RS K w H S → Rep K w d x → g d S Q E → Lnk K (Rep K) w Q QV → r [x] H QV) : CaZ K r (oneD g) := fun w H S xs ds Q E QV rs rl hg lk => by
  unfold oneD at hg
  split at hg
  · obtain ⟨x, rfl, e⟩ := repL_one rl
    exact h w H S x _ Q E QV rs e hg lk
  · exact hg.elim
/-! ### len -/
def lenQ (x : D) (S : Store) (Q : Nat → Prop) : Prop := match x with
  | .str z => z.length ≤ 100000 ∧ Q z.length
  | .tup l => Q l.length
  | .lst l => Q l.length
  | .dic l => Q l.length
  | .hnd n => match S[n]? with
    | some (.lst l) => Q l.length
    | some (.dic l) => Q l.length
    | _ => False
  | _ => False
def rLenU (K : PySem.W.Frag) : List V → Hp → VK → Prop := fun xs H Q => ((∃ p ys, xs = [.ref p] ∧ (SqL K H p ys ∨ SqT K H p ys) ∧ Q (.int ys.length) H) ∨ (∃ z, xs = [.str z] ∧ z.length ≤ sizeLine ∧ Q (.int z.length) H)) ∨ ∃ a kvs, xs = [V.ref a] ∧ H a = some (.dK kvs) ∧ Q (.int kvs.length) H
theorem call_lenU : CallR X (.builtin "len") (rLenU X.K) := (call_len_seq.or call_len_str).or call_lenD
def lenZ : D → Wm D := fun x S Q _ => lenQ x S fun n => Q (.int (n : Nat)) S
theorem fin_int {w : Wd} {H : Hp} {S : Store} {Q : D → Store → Prop} {QV : VK} (rs : RS K w H S) (lk : Lnk K (Rep K) w Q QV) {i : Int} (h : Q (.int i) S) : QV (.int i) H := lk w H S _ _ (Wd.le.refl w) rs (cst_int i w) h
theorem fin_bl {w : Wd} {H : Hp} {S : Store} {Q : D → Store → Prop} {QV : VK} (rs : RS K w H S) (lk : Lnk K (Rep K) w Q QV) {i : Bool} (h : Q (.bl i) S) : QV (.bl i) H := lk w H S _ _ (Wd.le.refl w) rs (cst_bl i w) h
theorem fin_str {w : Wd} {H : Hp} {S : Store} {Q : D → Store → Prop} {QV : VK} (rs : RS K w H S) (lk : Lnk K (Rep K) w Q QV) {i : Str} (h : Q (.str i) S) : QV (.str i) H := lk w H S _ _ (Wd.le.refl w) rs (cst_str i w) h
theorem fin_non {w : Wd} {H : Hp} {S : Store} {Q : D → Store → Prop} {QV : VK} (rs : RS K w H S) (lk : Lnk K (Rep K) w Q QV) (h : Q .non S) : QV .non H := lk w H S _ _ (Wd.le.refl w) rs (cst_non w) h
theorem caz_len : CaZ K (rLenU K) (oneD lenZ) := caz_one fun w H S x d Q E QV rs rx h lk => by
  unfold lenZ lenQ at h
  split at h
  · cases rep_str rx
    exact .inl (.inr ⟨_, rfl, small.ok h.1, fin_int rs lk h.2⟩)
  · obtain ⟨a, xs, rfl, e1, e2⟩ := tup_at rs rx
    exact .inl (.inl ⟨a, xs, rfl, .inr e1, by rw [e2.length]; exact fin_int rs lk h⟩)
  · obtain ⟨a, xs, rfl, e1, e2⟩ := lst_at rs rx rfl
    exact .inl (.inl ⟨a, xs, rfl, .inl (.inl (.inl e1)), by rw [e2.length]; exact fin_int rs lk h⟩)
  · obtain ⟨a, xs, rfl, e1, e2⟩ := dic_at rs rx rfl
    exact .inr ⟨a, xs, rfl, e1, by rw [e2.length]; exact fin_int rs lk h⟩
  · rename_i n
    split at h
    · rename_i l q
      obtain ⟨a, xs, rfl, e1, e2⟩ := lst_at (l := l) rs rx (by simp only [lstOf, q])
      exact .inl (.inl ⟨a, xs, rfl, .inl (.inl (.inl e1)), by rw [e2.length]; exact fin_int rs lk h⟩)
    · rename_i l q
      obtain ⟨a, xs, rfl, e1, e2⟩ := dic_at (l := l) rs rx (by simp only [dicOf, q])
      exact .inr ⟨a, xs, rfl, e1, by rw [e2.length]; exact fin_int rs lk h⟩
    · exact h.elim
  · exact h.elim
/-! ### list(..), tuple(..) -/
def listZ : D → Wm D := fun x S Q _ => ∃ l, seqOf S x = some l ∧ Q (.lst l) S
def listHZ : D → Wm D := fun x S Q _ => ∃ l, seqOf S x = some l ∧ Q (.hnd S.length) (S ++ [.lst l])
def tupleZ : D → Wm D := fun x S Q _ => ∃ l, seqOf S x = some l ∧ Q (.tup l) S
def rListU (K : PySem.W.Frag) : List V → Hp → VK → Prop := fun xs H Q => ∃ p ys, xs = [.ref p] ∧ (SqL K H p ys ∨ SqT K H p ys) ∧ ∀ l, H l = none → Q (.ref l) (upd H l (.lst ys))
theorem call_listU : CallR X (.type "list") (rListU X.K) := call_list_of
theorem caz_list : CaZ K (rListU K) (oneD listZ) := caz_one fun w H S x d Q E QV rs rx ⟨l, e, h⟩ lk => by
  obtain ⟨a, xs, rfl, e1, e2⟩ := seq_at rs rx e
  exact ⟨a, xs, rfl, e1, fin_lstF rs e2 h lk⟩
theorem caz_listH : CaZ K (rListU K) (oneD listHZ) := caz_one fun w H S x d Q E QV rs rx ⟨l, e, h⟩ lk => by
  obtain ⟨a, xs, rfl, e1, e2⟩ := seq_at rs rx e
  exact ⟨a, xs, rfl, e1, fin_lstH rs e2 h lk⟩
def rTupleU (K : PySem.W.Frag) : List V → Hp → VK → Prop := fun xs H Q => ∃ p ys, xs = [.ref p] ∧ ((SqL K H p ys ∧ ∀ l, H l = none → Q (.ref l) (upd H l (.tup ys))) ∨ (SqT K H p ys ∧ Q (.ref p) H))
theorem call_tupleU : CallR X (.type "tuple") (rTupleU X.K) := call_tuple_of
theorem caz_tuple : CaZ K (rTupleU K) (oneD tupleZ) := caz_one fun w H S x d Q E QV rs rx ⟨l, e, h⟩ lk => by
  by_cases ht : ∃ m, d = .tup m
  · obtain ⟨m, rfl⟩ := ht
    have : m = l := by simpa [seqOf] using e
    subst this
    obtain ⟨a, xs, rfl, e1, e2⟩ := tup_at rs rx
    exact ⟨a, xs, rfl, .inr ⟨e1, lk w H S _ _ (Wd.le.refl w) rs rx h⟩⟩
  · by_cases hk : ∃ m, d = .kls m
    · obtain ⟨m, rfl⟩ := hk
      have : m = l := by simpa [seqOf] using e
      subst this
      simp only [Rep] at rx
      obtain ⟨a, xs, rfl, e1, e2⟩ := rx
      exact ⟨a, xs, rfl, .inl ⟨SqL.up rs e1, fin_tupF rs e2 h lk⟩⟩
    · have e' : lstOf S d = some l := by
        cases d with
        | tup m => exact absurd ⟨m, rfl⟩ ht
        | kls m => exact absurd ⟨m, rfl⟩ hk
        | _ => exact e
      obtain ⟨a, xs, rfl, e1, e2⟩ := lst_at rs rx e'
      exact ⟨a, xs, rfl, .inl ⟨.inl (.inl e1), fin_tupF rs e2 h lk⟩⟩
/-! ### sorted texts, all, any, int, str -/
def sortedSZ : D → Wm D := fun x S Q _ => ∃ xs : List Str, lstOf S x = some (xs.map D.str) ∧ xs.length < 64 ∧ ∀ ys : List Str, ys.Perm xs → sortedS ys = true → Q (.lst (ys.map D.str)) S
theorem caz_sortedS : CaZ K (rSortedS K) (oneD sortedSZ) := caz_one fun w H S x d Q E QV rs rx ⟨xs, e, hl, h⟩ lk => by
  obtain ⟨a, vs, rfl, e1, e2⟩ := lst_at rs rx e
  have := RepL.strs e2
  subst this
  exact ⟨a, xs, rfl, .inl (.inl e1), hl, fun ys p hp hs hn => fin_lstF rs (RepL.ofStrs ys) (h ys hp hs) lk p hn⟩
def allZ : D → Wm D := fun x S Q _ => ∃ bs : List Bool, lstOf S x = some (bs.map D.bl) ∧ Q (.bl (bs.all fun b => b)) S
def anyZ : D → Wm D := fun x S Q _ => ∃ bs : List Bool, lstOf S x = some (bs.map D.bl) ∧ Q (.bl (bs.any fun b => b)) S
theorem caz_all : CaZ K (rAll K) (oneD allZ) := caz_one fun w H S x d Q E QV rs rx ⟨xs, e, h⟩ lk => by
  obtain ⟨a, vs, rfl, e1, e2⟩ := lst_at rs rx e
  have := RepL.bls e2
  subst this
  exact ⟨a, xs, rfl, .inl (.inl e1), fin_bl rs lk h⟩
theorem caz_any : CaZ K (rAny K) (oneD anyZ) := caz_one fun w H S x d Q E QV rs rx ⟨xs, e, h⟩ lk => by
  obtain ⟨a, vs, rfl, e1, e2⟩ := lst_at rs rx e
  have := RepL.bls e2
  subst this
  exact ⟨a, xs, rfl, .inl (.inl e1), fin_bl rs lk h⟩
def rInt1 : List V → Hp → VK → Prop := fun xs H Q => (∃ i, xs = [.int i] ∧ Q (.int i) H) ∨ ∃ k, xs = [.bl k] ∧ Q (.int (if k then 1 else 0)) H
theorem call_intU : CallR X (.type "int") rInt1 := call_int1
def intZ1 : D → Wm D := fun x S Q _ => match x with
  | .int i => Q (.int i) S
  | .bl k => Q (.int (if k then 1 else 0)) S
  | _ => False
theorem caz_int : CaZ K rInt1 (oneD intZ1) := caz_one fun w H S x d Q E QV rs rx h lk => by
  unfold intZ1 at h
  split at h
  · cases rep_int rx
    exact .inl ⟨_, rfl, fin_int rs lk h⟩
  · cases rep_bl rx
    exact .inr ⟨_, rfl, fin_int rs lk h⟩
  · exact h.elim
def rStrI : List V → Hp → VK → Prop := fun xs H Q => ∃ i : Int, xs = [.int i] ∧ i.natAbs.log2 < 1920 ∧ Q (.str (toString i)) H
theorem call_strI : CallR X (.type "str") rStrI := call_str_int
def strIZ : D → Wm D := fun x S Q _ => match x with
  | .int i => i.natAbs.log2 < 1920 ∧ Q (.str (toString i)) S
  | _ => False
theorem caz_strI : CaZ K rStrI (oneD strIZ) := caz_one fun w H S x d Q E QV rs rx h lk => by
  unfold strIZ at h
  split at h
  · cases rep_int rx
    exact ⟨_, rfl, h.1, fin_str rs lk h.2⟩
  · exact h.elim
/-! ### text * int -/
def mulS (x : Str) (n : Int) : Str := if n < 1 then Str.empty else if (n == 1 || x.length == 0) = true then x else ⟨(List.replicate n.toNat x.cps).foldl (· ++ ·) #[]⟩
def rMulS : R2 := fun x y H Q => ∃ z n, x = .str z ∧ y = .int n ∧ n ≤ 1 ∧ -(2 ^ 62) ≤ n ∧ z.length ≤ sizeLine ∧ Q (.str (mulS z n)) H
theorem op_mulS : OpR X (binaryOp .Mult) rMulS := by
  intro pins s σ H x y v u Q I rx ry h
  obtain ⟨z, n, rfl, rfl, h1, h2, h3, q⟩ := h
  obtain ⟨t, rfl⟩ := rx
  obtain ⟨t', rfl⟩ := ry
  refine P.mul_str ?_ ?_ ?_ ?_
  · have a1 : ¬ n < -(2 ^ 63 : Int) := by omega
    have a2 : ¬ n ≥ 2 ^ 63 := by omega
    rw [decide_eq_false a1, decide_eq_false a2]
    rfl
  · intro hn hz
    have : n = 1 := by omega
    subst this
    simp at hz
  · intro hn hz
    have : n = 1 := by omega
    subst this
    simp at hz
  · by_cases hn : n < 1
    · rw [if_pos hn]
      have e : mulS z n = Str.empty := if_pos hn
      rw [e] at q
      exact ⟨by decide, .str Str.empty, H, I.tok _, ⟨_, rfl⟩, q⟩
    · have : n = 1 := by omega
      subst this
      rw [if_neg hn, if_pos (by simp)]
      have e : mulS z 1 = z := by simp [mulS]
      rw [e] at q
      exact ⟨.str z, H, I, ⟨_, rfl⟩, q⟩
def mulSZ : D → D → Wm D := fun x y S Q _ => match x, y with
  | .str z, .int n => n ≤ 1 ∧ -(2 ^ 62) ≤ n ∧ z.length ≤ 100000 ∧ Q (.str (mulS z n)) S
  | _, _ => False
theorem oz_mulS : OpZ K rMulS mulSZ := fun w H S x y dx dy Q E QV rs rx ry h lk => by
  unfold mulSZ at h
  split at h
  · cases rep_str rx
    cases rep_int ry
    exact ⟨_, _, rfl, rfl, h.1, h.2.1, small.ok h.2.2.1, fin_str rs lk h.2.2.2⟩
  · exact h.elim
/-! ### own classes: what isinstance, == ask of them -/
structure Own (K : PySem.W.Frag) (C : Addr) : Prop where
  cl : Cls K C
  ha : PySem.W.findIn K (.ref C) "__class__" = some (some (.builtin "object.__class__"))
  hn : PySem.W.specialIn K (.builtin "object.__class__") "__get__" = some (some (.builtin "getset_descriptor.__get__"))
  tk : PySem.W.takesIn K (.builtin "object.__class__") = some true
  hm : PySem.W.mroIn K C (.type "object") = some true
def tyD (S : Store) : D → Option Value
  | .non => some (.type "NoneType")
  | .bl _ => some (.type "bool")
  | .int _ => some (.type "int")
  | .str _ => some (.type "str")
  | .tup _ => some (.type "tuple")
  | .lst _ => some (.type "list")
  | .dic _ => some (.type "dict")
  | .ins C _ => some (.ref C)
  | .hnd n => match S[n]? with
    | some (.lst _) => some (.type "list")
    | some (.dic _) => some (.type "dict")
    | some (.ins C _) => some (.ref C)
    | _ => none
  | _ => none
theorem ty_at {w : Wd} {H : Hp} {S : Store} (rs : RS K w H S) {d : D} {v : V} {t : Value} (ho : ∀ C, t = .ref C → Own K C) (rx : Rep K w d v) (e : tyD S d = some t) : TyX K H v t := by
  have own : ∀ {a C dx : Addr} {fs : List (Str × V)}, H a = some (.ins C dx fs) → Own K C → TyX K H (.ref a) (.ref C) := fun h o => .base (.ins h o.cl o.ha o.hn o.tk o.hm)
  cases d with
  | non => cases e; cases rep_non rx; exact .base .non
  | bl b => cases e; cases rep_bl rx; exact .base (.bl _)
  | int b => cases e; cases rep_int rx; exact .base (.int _)
  | str b => cases e; cases rep_str rx; exact .base (.str _)
  | tup l =>
    cases e
    obtain ⟨a, xs, rfl, e1, e2⟩ := tup_at rs rx
    rcases e1 with (e1 | ⟨o, e1⟩) | e1
    · exact .base (.tup e1)
    · exact .fTuple e1
    · obtain ⟨k1, its, n, k2, k3, _⟩ := e1
      exact .kTuple k2 k3
  | lst l =>
    cases e
    obtain ⟨a, xs, rfl, e1, e2⟩ := lst_at rs rx rfl
    exact .base (.lst e1)
  | dic l =>
    cases e
    obtain ⟨a, xs, rfl, e1, e2⟩ := dic_at rs rx rfl
    exact .base (.dK e1)
  | ins C l =>
    cases e
    obtain ⟨a, dx, xs, rfl, e1, e2⟩ := ins_at rs rx rfl
    exact own e1 (ho C rfl)
  | hnd n =>
    simp only [tyD] at e
    split at e
    · rename_i l q
      cases e
      obtain ⟨a, xs, rfl, e1, e2⟩ := lst_at (l := l) rs rx (by simp only [lstOf, q])
      exact .base (.lst e1)
    · rename_i l q
      cases e
      obtain ⟨a, xs, rfl, e1, e2⟩ := dic_at (l := l) rs rx (by simp only [dicOf, q])
      exact .base (.dK e1)
    · rename_i C l q
      cases e
      obtain ⟨a, dx, xs, rfl, e1, e2⟩ := ins_at (p := (C, l)) rs rx (by simp only [insOf, q])
      exact own e1 (ho C rfl)
    · cases e
  | _ => cases e
end
end Z
/-! ZOwn: own methods that built-ins call, isinstance, repr of data, f-strings, methods of built-in types, dict displays and comprehensions. -/
namespace Z
open PySem L2 PySem.Spec PyProof.Rows
section
variable {X : Cx} {W : WX} {K : PySem.W.Frag} {k : Nat} {f C : Addr} {fd : FuncData} {ps : List Str} {sp : Sp}
abbrev NX : XK := fun _ _ _ => False
theorem run_fnA {A : Around} {pins : List (Addr × Obj)} {σ : L2.St} {H : Hp} {s : Shared} {Q : VK} {us : List Value} {vs : List V} (F : FnG X.prog X.w X.K X.mg X.base k f fd ps sp) (hr : Room k A) (hg : A.guards = some []) (e0 : Env0 X.prog X.w X.K X.mg X.base A X.stack s H) (hb : Binds X.K fd ps [])
    (I : Inv X pins σ H s) (r : Vals vs us) (h : sp vs H Q NX) : wpAny (model X.prog X.w) A (call (.ref f) us) (EP X pins σ Q) X.xe s := by
  have hl : us.length = ps.length := by rw [← r.length]; exact F.len _ _ _ _ h
  have b := hb s us I.kIn (by rw [List.append_nil]; exact hl)
  rw [List.append_nil] at b
  refine wpAny_call (codeAny_mono (F.run A X.stack s H ⟨us, []⟩ us vs Q NX hr hg e0 b r h) fun r s' hq => ?_)
  cases r with
  | error e => exact passAt (takes0 (X := X)) σ pins H s e s' I hq
  | ok fl =>
    cases fl with
    | ret u => exact I.after hq
    | next => exact False.elim hq
    | brk => exact False.elim hq
    | cont => exact False.elim hq
theorem sp_one {w : Wd} {H : Hp} {S : Store} {x : V} {d : D} {m : Fz} {Q : D → Store → Prop} {QV : VK} (rs : RS K w H S) (rx : Rep K w d x) (h : m [d] S Q noE) (lk : Lnk K (Rep K) w Q QV) : spZ K 1 m [x] H QV NX :=
  ⟨w, S, [d], Q, noE, rfl, rs, .cons rx .nil, h, lk, fun _ _ _ _ _ _ _ _ _ h => h.elim⟩
theorem sp_two {w : Wd} {H : Hp} {S : Store} {x y : V} {d d' : D} {m : Fz} {Q : D → Store → Prop} {QV : VK} (rs : RS K w H S) (rx : Rep K w d x) (ry : Rep K w d' y) (h : m [d, d'] S Q noE) (lk : Lnk K (Rep K) w Q QV) : spZ K 2 m [x, y] H QV NX :=
  ⟨w, S, [d, d'], Q, noE, rfl, rs, .cons rx (.cons ry .nil), h, lk, fun _ _ _ _ _ _ _ _ _ h => h.elim⟩
/-! ### len, str, repr of own objects -/
def rOwn1 (C : Addr) (sp : Sp) (P : V → Prop) : List V → Hp → VK → Prop := fun xs H Q => ∃ a dx fs, xs = [.ref a] ∧ H a = some (.ins C dx fs) ∧ sp [.ref a] H (fun v H' => P v ∧ Q v H') NX
def PLen (v : V) : Prop := ∃ n : Nat, v = .int n ∧ n < 2 ^ 62
def PStr (v : V) : Prop := ∃ x : Str, v = .str x
theorem call_lenOwn (F : FnG X.prog X.w X.K X.mg X.base k f fd ps sp) (c : Ctx X W (k + 1)) (hm : Meth X.K C "__len__" f) (hb : Binds X.K fd ps []) : CallR X (.builtin "len") (rOwn1 C sp PLen) := by
  intro pins s σ H xs us Q I r h
  obtain ⟨a, dx, fs, rfl, e, q⟩ := h
  obtain ⟨u, rfl, ru⟩ := r.one
  cases (show u = Value.ref a from ru)
  obtain ⟨mA, O, _⟩ := ins_get I.hok e
  obtain ⟨od, J, _⟩ := O.look
  obtain ⟨m, hF⟩ := I.fr
  refine PySem.W.len_K hF I.ok.mod.kin J hm.at_ hm.fn (wpAny_mono (run_fnA (us := [.ref a]) (vs := [.ref a]) F c.hr.in1 c.hg I.env0.in1 hb I (.cons rfl .nil) q) (fun v s' z => ?_) fun _ _ x => x)
  obtain ⟨z', H', I', rz, ⟨n, ez, hn⟩, qz⟩ := z
  subst ez
  obtain ⟨t, e⟩ := (show ∃ t, v = Value.int (n : Nat) t from rz)
  cases e
  exact ⟨⟨by omega, by omega⟩, .int n, H', I'.tok _, ⟨_, rfl⟩, qz⟩
theorem call_strOwn (F : FnG X.prog X.w X.K X.mg X.base k f fd ps sp) (c : Ctx X W (k + 2)) (hm : Meth X.K C "__str__" f) (hb : Binds X.K fd ps []) : CallR X (.type "str") (rOwn1 C sp PStr) := by
  intro pins s σ H xs us Q I r h
  obtain ⟨a, dx, fs, rfl, e, q⟩ := h
  obtain ⟨u, rfl, ru⟩ := r.one
  cases (show u = Value.ref a from ru)
  obtain ⟨mA, O, _⟩ := ins_get I.hok e
  obtain ⟨od, J, _⟩ := O.look
  have hr2 : Room (k + 1) X.A.in1 := c.hr.in1
  have hu : X.A.in1.in1.units < cLine := by have := hr2.in1.un; exact Nat.lt_of_le_of_lt (by omega) this
  refine PySem.W.kso_call hu I.kIn J hm.at_ hm.fn (wpAny_mono (run_fnA (us := [.ref a]) (vs := [.ref a]) F hr2.in1 c.hg I.env0.in1.in1 hb I (.cons rfl .nil) q) (fun v s' z => ?_) fun _ _ x => x)
  obtain ⟨z', H', I', rz, ⟨y, ez⟩, qz⟩ := z
  subst ez
  obtain ⟨t, e⟩ := (show ∃ t, v = Value.str y t from rz)
  cases e
  exact ⟨.str y, H', I', ⟨_, rfl⟩, qz⟩
theorem call_reprOwn (F : FnG X.prog X.w X.K X.mg X.base k f fd ps sp) (c : Ctx X W (k + 1)) (hm : Meth X.K C "__repr__" f) (hb : Binds X.K fd ps []) : CallR X (.builtin "repr") (rOwn1 C sp PStr) := by
  intro pins s σ H xs us Q I r h
  obtain ⟨a, dx, fs, rfl, e, q⟩ := h
  obtain ⟨u, rfl, ru⟩ := r.one
  cases (show u = Value.ref a from ru)
  obtain ⟨mA, O, _⟩ := ins_get I.hok e
  obtain ⟨od, J, _⟩ := O.look
  obtain ⟨m, hF⟩ := I.fr
  have hu : X.A.in1.units < cLine := by have := c.hr.in1.un; exact Nat.lt_of_le_of_lt (by omega) this
  refine PySem.W.repr_K hu hF I.ok.mod.kin J hm.at_ hm.fn (wpAny_mono (run_fnA (us := [.ref a]) (vs := [.ref a]) F c.hr.in1 c.hg I.env0.in1 hb I (.cons rfl .nil) q) (fun v s' z => ?_) fun _ _ x => x)
  obtain ⟨z', H', I', rz, ⟨y, ez⟩, qz⟩ := z
  subst ez
  obtain ⟨t, e⟩ := (show ∃ t, v = Value.str y t from rz)
  cases e
  exact ⟨.str y, H', I', ⟨_, rfl⟩, qz⟩
def lenOwnZ (C : Addr) (m : Fz) : D → Wm D := fun x S Q _ => (∃ l, insOf S x = some (C, l)) ∧ m [x] S (fun v S' => (∃ n : Nat, v = .int n ∧ n < 2 ^ 62) ∧ Q v S') noE
def strOwnZ (C : Addr) (m : Fz) : D → Wm D := fun x S Q _ => (∃ l, insOf S x = some (C, l)) ∧ m [x] S (fun v S' => (∃ n : Str, v = .str n) ∧ Q v S') noE
theorem caz_lenOwn {m : Fz} : CaZ K (rOwn1 C (spZ K 1 m) PLen) (oneD (lenOwnZ C m)) := caz_one fun w H S x d Q E QV rs rx ⟨⟨l, e⟩, h⟩ lk => by
  obtain ⟨a, dx, fs, rfl, e1, e2⟩ := ins_at rs rx e
  refine ⟨a, dx, fs, rfl, e1, sp_one rs rx h fun w' H' S' d' v l r e q => ?_⟩
  obtain ⟨⟨n, rfl, hn⟩, q⟩ := q
  cases rep_int e
  exact ⟨⟨n, rfl, hn⟩, lk w' H' S' _ _ l r e q⟩
theorem caz_strOwn {m : Fz} : CaZ K (rOwn1 C (spZ K 1 m) PStr) (oneD (strOwnZ C m)) := caz_one fun w H S x d Q E QV rs rx ⟨⟨l, e⟩, h⟩ lk => by
  obtain ⟨a, dx, fs, rfl, e1, e2⟩ := ins_at rs rx e
  refine ⟨a, dx, fs, rfl, e1, sp_one rs rx h fun w' H' S' d' v l r e q => ?_⟩
  obtain ⟨⟨n, rfl⟩, q⟩ := q
  cases rep_str e
  exact ⟨⟨n, rfl⟩, lk w' H' S' _ _ l r e q⟩
/-! ### own ==, != by default -/
def rEqOwn (K : PySem.W.Frag) (C : Addr) (sp : Sp) (g : Bool → Bool) : R2 := fun x y H Q => ∃ a dx fs t, x = .ref a ∧ H a = some (.ins C dx fs) ∧ TyX K H y t ∧ PySem.W.notFirst K C t = true ∧ sp [x, y] H (fun v H' => ∃ b, v = .bl b ∧ Q (.bl (g b)) H') NX
theorem op_eqOwn (F : FnG X.prog X.w X.K X.mg X.base k f fd ps sp) (c : Ctx X W k) (hm : Meth X.K C "__eq__" f) (hb : Binds X.K fd ps []) : OpR X (compareOp .Eq) (rEqOwn X.K C sp id) := by
  intro pins s σ H x y v u Q I rx ry h
  obtain ⟨a, dx, fs, t, rfl, e, ty, hn, q⟩ := h
  cases (show v = Value.ref a from rx)
  obtain ⟨mA, O, _⟩ := ins_get I.hok e
  obtain ⟨od, J, _⟩ := O.look
  obtain ⟨m, hF⟩ := I.fr
  obtain ⟨P, Zk, p, _⟩ := kit_of I ry ty
  have hu : X.A.units < cLine := by have := c.hr.un; exact Nat.lt_of_le_of_lt (by omega) this
  show wpAny _ _ (richCompare .Eq (.ref a) u) _ _ _
  refine PySem.W.cmp_K (op := .Eq) hu hF I.ok.mod.kin J (Zk.ty _ _ I.kIn p) hn hm.at_ hm.fn (wpAny_mono (run_fnA (us := [.ref a, u]) (vs := [.ref a, y]) F c.hr c.hg I.env0 hb I (.cons rfl (.cons ry .nil)) q) (fun v s' z => ?_) fun _ _ x => x)
  obtain ⟨z', H', I', rz, b, ez, qz⟩ := z
  subst ez
  cases (show v = Value.bool b from rz)
  exact ⟨.bl b, H', I', rfl, qz⟩
def eqOwnQ (C : Addr) (m : Fz) (ts : List Value) (g : Bool → Bool) : D → D → Wm D := fun x y S Q _ => (∃ l, insOf S x = some (C, l)) ∧ (∃ t, tyD S y = some t ∧ t ∈ ts) ∧ m [x, y] S (fun v S' => ∃ b, v = .bl b ∧ Q (.bl (g b)) S') noE
theorem oz_eqOwn {m : Fz} {ts : List Value} {g : Bool → Bool} (ht : ∀ t, t ∈ ts → PySem.W.notFirst K C t = true) (ho : ∀ C', .ref C' ∈ ts → Own K C') : OpZ K (rEqOwn K C (spZ K 2 m) g) (eqOwnQ C m ts g) := fun w H S x y dx dy Q E QV rs rx ry h lk => by
  obtain ⟨⟨l, e⟩, ⟨t, e3, e4⟩, h⟩ := h
  obtain ⟨a, ddx, fs, rfl, e1, e2⟩ := ins_at rs rx e
  refine ⟨a, ddx, fs, t, rfl, e1, ty_at rs (fun C' q => ho C' (q ▸ e4)) ry e3, ht t e4, sp_two rs rx ry h fun w' H' S' d' v l r e q => ?_⟩
  obtain ⟨b, rfl, q⟩ := q
  cases rep_bl e
  exact ⟨b, rfl, lk w' H' S' _ _ l r (cst_bl _ w') q⟩
/-! ### isinstance(x, C) -/
def isOwnQ (yes no : List Value) (C : Addr) : List D → Wm D := fun ds S Q _ => match ds with
  | [x, .ref c] => c = C ∧ ∃ t, tyD S x = some t ∧ ((t ∈ yes ∧ Q (.bl true) S) ∨ (t ∈ no ∧ Q (.bl false) S))
  | _ => False
theorem caz_isOwn {yes no : List Value} (hy : ∀ t, t ∈ yes → PySem.W.kitOne K t (.ref C) = some true) (hn : ∀ t, t ∈ no → PySem.W.kitOne K t (.ref C) = some false) (ho : ∀ C', .ref C' ∈ yes ∨ .ref C' ∈ no → Own K C') : CaZ K (rIsi K) (isOwnQ yes no C) := fun w H S xs ds Q E QV rs rl h lk => by
  unfold isOwnQ at h
  split at h
  · rename_i x c
    obtain ⟨rfl, t, e, h⟩ := h
    obtain ⟨v, v', rfl, r1, r2⟩ := repL_two rl
    have r2 : v' = .ref c := by simpa only [Rep] using r2
    subst r2
    rcases h with ⟨h1, h⟩ | ⟨h1, h⟩
    · exact ⟨v, .ref c, t, .ref c, true, rfl, .own c, ty_at rs (fun C' q => ho C' (.inl (q ▸ h1))) r1 e, hy t h1, fin_bl rs lk h⟩
    · exact ⟨v, .ref c, t, .ref c, false, rfl, .own c, ty_at rs (fun C' q => ho C' (.inr (q ▸ h1))) r1 e, hn t h1, fin_bl rs lk h⟩
  · exact h.elim
/-! ### repr of data -/
mutual
theorem IsP.noDict {S : Store} : ∀ (p : PyData) {d : D}, IsP S p d → PyData.hasDict p = false
  | .none, _, _ => rfl
  | .bool _, _, _ => rfl
  | .int _, _, _ => rfl
  | .str _, _, _ => rfl
  | .list l, d, h => by
    simp only [IsP] at h
    obtain ⟨m, _, h⟩ := h
    exact IsPs.noDict l h
  | .tuple l, d, h => by
    simp only [IsP] at h
    obtain ⟨m, _, h⟩ := h
    exact IsPs.noDict l h
  | .dict _, d, h => by simp only [IsP] at h
theorem IsPs.noDict {S : Store} : ∀ (l : List PyData) {m : List D}, IsPs S l m → PyData.hasDictAll l = false
  | [], _, _ => rfl
  | p :: l, m, h => by
    simp only [IsPs] at h
    obtain ⟨d, r, _, h1, h2⟩ := h
    show (PyData.hasDict p || PyData.hasDictAll l) = false
    rw [IsP.noDict p h1, IsPs.noDict l h2]
    rfl
end
def rRepr (K : PySem.W.Frag) : List V → Hp → VK → Prop := fun xs H Q => ∃ (a : Addr) (p : PyData), xs = [.ref a] ∧ Dp K H (.ref a) p ∧ PyData.showable p = true ∧ PyData.hasDict p = false ∧ PyData.depth p ≤ 50 ∧ (PyData.shown p).length ≤ sizeLine ∧ Q (.str (PyData.shown p)) H
theorem call_reprD (c : Ctx X W k) : CallR X (.builtin "repr") (rRepr X.K) := by
  intro pins s σ H xs us Q I r h
  obtain ⟨a, p, rfl, hd, hs, hn, hdp, hl, q⟩ := h
  obtain ⟨u, rfl, ru⟩ := r.one
  cases (show u = Value.ref a from ru)
  obtain ⟨as, rd⟩ := Dp.reads I p _ _ hd rfl
  have hu : X.A.units + (PyData.depth p + 1) < cLine := by have := c.hr.un; exact Nat.lt_of_le_of_lt (by omega) this
  exact PySem.repr_of_reads' rd hs (fun h => by rw [hn] at h; cases h) c.hg hu (fun _ _ e => e) (fun h' u tk hk => ⟨.str (PyData.shown p), H, I.kept hk, ⟨_, rfl⟩, q⟩) hl
def reprZ : D → Wm D := fun x S Q _ => ∃ p, IsP S p x ∧ (∃ l, seqOf S x = some l) ∧ PyData.showable p = true ∧ PyData.depth p ≤ 50 ∧ (PyData.shown p).length ≤ 16777216 ∧ Q (.str (PyData.shown p)) S
theorem caz_repr : CaZ K (rRepr K) (oneD reprZ) := caz_one fun w H S x d Q E QV rs rx ⟨p, h1, ⟨l, h5⟩, h2, h3, h4, h⟩ lk => by
  obtain ⟨a, xs, rfl, e1, e2⟩ := seq_at rs rx h5
  exact ⟨a, p, rfl, IsP.dp rs p h1 rx, h2, IsP.noDict p h1, h3, Nat.le_trans h4 (by decide), fin_str rs lk h⟩
end
/-! ### f-strings -/
section
variable {X : Cx} {W : WX} {K : PySem.W.Frag} {a b c e o : Expr} {es : List Expr} {te ta tb to : TE} {fa fb fo : Env → Wm D} {pos : Pos}
def fmtZ : D → Wm D := fun x S Q _ => match x with
  | .str y => y.length ≤ 100000 ∧ Q (.str y) S
  | .int i => i.natAbs.log2 < 1920 ∧ Q (.str (toString i)) S
  | _ => False
theorem EZ.fmt (ha : EZ X W a ta fa) : EZ X W (.FormattedValue a (-1) none pos) (tFmt ta) (unZ fmtZ fa) := ⟨pe_fmt ha.pe, ⟨fun w H S σ δ Q E QV rs re h lk lx =>
  ha.z.run w H S σ δ _ E _ rs re h (fun w1 H1 S1 dx x l1 r1 e1 h1 => by
    unfold fmtZ at h1
    split at h1
    · cases rep_str e1
      exact .inl ⟨_, rfl, small.ok h1.1, fin_str r1 (lk.le l1) h1.2⟩
    · cases rep_int e1
      exact .inr ⟨_, rfl, h1.1, fin_str r1 (lk.le l1) h1.2⟩
    · exact h1.elim) lx⟩⟩
abbrev Jz := Str → Env → Wm Str
structure FZ (X : Cx) (W : WX) (es : List Expr) (ts : List TE) (g : Jz) : Prop where
  pj : PJ X es ts
  z : ∀ acc, Zq X.K W (fun _ (a b : Str) => a = b) (tJs ts acc) (g acc)
def jnilZ : Jz := fun acc _ S Q _ => Q acc S
def jconsZ (fa : Env → Wm D) (g : Jz) : Jz := fun acc δ S Q E => fa δ S (fun x S1 => match x with
  | .str y => (acc ++ y).length ≤ 100000 ∧ g (acc ++ y) δ S1 Q E
  | _ => False) E
theorem FZ.nil : FZ X W [] [] jnilZ := ⟨.nil, fun acc => ⟨fun w H S σ δ Q E QV rs re h lk lx => lk w H S _ _ (Wd.le.refl w) rs rfl h⟩⟩
theorem FZ.cons {ts : List TE} {g : Jz} (ha : EZ X W a ta fa) (hr : FZ X W es ts g) : FZ X W (a :: es) (ta :: ts) (jconsZ fa g) := ⟨.cons ha.pe hr.pj, fun acc => ⟨fun w H S σ δ Q E QV rs re h lk lx =>
  ha.z.run w H S σ δ _ E _ rs re h (fun w1 H1 S1 dx x l1 r1 e1 h1 => by
    split at h1
    · cases rep_str e1
      exact ⟨_, rfl, small.ok h1.1, (hr.z _).run w1 H1 S1 σ δ Q E QV r1 (re.le l1) h1.2 (lk.le l1) (lx.le l1)⟩
    · exact h1.elim) lx⟩⟩
def joinedZ (g : Jz) : Env → Wm D := fun δ S Q E => g Str.empty δ S (fun out S1 => Q (.str out) S1) E
theorem EZ.joined {v1 v2 : Expr} {rest : List Expr} {ts : List TE} {g : Jz} (h : FZ X W (v1 :: v2 :: rest) ts g) : EZ X W (.JoinedStr (v1 :: v2 :: rest) pos) (fun σ H Q => tJs ts Str.empty σ H fun out H1 => Q (.str out) H1) (joinedZ g) := ⟨pe_joined h.pj, ⟨fun w H S σ δ Q E QV rs re hf lk lx =>
  (h.z Str.empty).run w H S σ δ _ E _ rs re hf (fun w1 H1 S1 dx x l1 r1 e1 h1 => by
    have e1 : dx = x := e1
    subst e1
    exact fin_str r1 (lk.le l1) h1) lx⟩⟩
theorem EZ.joined1 (h : EZ X W a ta fa) : EZ X W (.JoinedStr [a] pos) ta fa := ⟨pe_joined1 h.pe, h.z⟩
/-! ### methods of built-in types -/
variable {T id : String} {name : Str} {apos cpos : Pos} {t : TA} {fs : Env → Wm (List D)}
def MtZ (K : PySem.W.Frag) (T : String) (r : V → List V → Hp → VK → Prop) (ty : D → Store → Prop) (g : D → List D → Wm D) : Prop :=
  (∀ w H S x dx, RS K w H S → Rep K w dx x → ty dx S → tyV K T x H) ∧ ∀ w H S x xs dx ds Q E QV, RS K w H S → Rep K w dx x → RepL K w ds xs → g dx ds S Q E → Lnk K (Rep K) w Q QV → r x xs H QV
def bmZ (ty : D → Store → Prop) (g : D → List D → Wm D) (fa : Env → Wm D) (fs : Env → Wm (List D)) : Env → Wm D := fun δ S Q E => fa δ S (fun x S1 => ty x S1 ∧ fs δ S1 (fun xs S2 => g x xs S2 Q E) E) E
theorem zq_bm {r : V → List V → Hp → VK → Prop} {ty : D → Store → Prop} {g : D → List D → Wm D} (hz : MtZ K T r ty g) (ho : Zq K W (Rep K) to fo) (ha : Zq K W (RepL K) t fs) : Zq K W (Rep K) (tBM K T r to t) (bmZ ty g fo fs) := ⟨fun w H S σ δ Q E QV rs re h lk lx =>
  ho.run w H S σ δ _ E _ rs re h (fun w1 H1 S1 dx x l1 r1 e1 h1 => ⟨hz.1 w1 H1 S1 x dx r1 e1 h1.1,
    ha.run w1 H1 S1 σ δ _ E _ r1 (re.le l1) h1.2 (fun w2 H2 S2 ds xs l2 r2 e2 h2 => hz.2 w2 H2 S2 x xs dx ds Q E QV r2 (Rep.le l2 dx e1) e2 h2 (lk.le (l1.trans l2))) (lx.le l1)⟩) lx⟩
theorem EZ.bm {r : V → List V → Hp → VK → Prop} {ty : D → Store → Prop} {g : D → List D → Wm D} (pa : PlainAttrs T) (slot : Slot T name id) (hty : typeOf (.builtin id) = pure (.type "method_descriptor")) (hm : MtR X id r) (hz : MtZ X.K T r ty g) (ho : EZ X W o to fo) (ha : AZ X W (e :: es) t fs)
    (hbase : attributeBase o name X.env (eval o X.env) = eval o X.env := by rfl)
    (hfew : ((backTo cpos (starEach (e :: es) X.env)).all (fun x => !x.1) && (backToKw cpos (keywordEach [] X.env)).all (fun x => x.1.isSome)
      && decide ((e :: es).length + ([] : List Keyword).length + (if ([] : List Keyword).isEmpty then 0 else 1) < 30)) = true := by rfl)
    (hline : (apos.endLine == cpos.line) = true := by rfl) (hs : starEach (e :: es) X.env = (false, eval e X.env) :: starEach es X.env := by rfl) (hplain : (backTo cpos (starEach es X.env)).any (·.1) = false := by rfl) :
    EZ X W (.Call (.Attribute o name apos) (e :: es) [] cpos) (tBM X.K T r to t) (bmZ ty g fo fs) := ⟨pe_bm pa slot hty hm ho.pe ha.pe hbase hfew hline hs hplain, zq_bm hz ho.z ha.z⟩
theorem EZ.bm0 {r : V → List V → Hp → VK → Prop} {ty : D → Store → Prop} {g : D → List D → Wm D} (pa : PlainAttrs T) (slot : Slot T name id) (hty : typeOf (.builtin id) = pure (.type "method_descriptor")) (hm : MtR X id r) (hz : MtZ X.K T r ty g) (ho : EZ X W o to fo)
    (hbase : attributeBase o name X.env (eval o X.env) = eval o X.env := by rfl) (hline : (apos.endLine == cpos.line) = true := by rfl) :
    EZ X W (.Call (.Attribute o name apos) [] [] cpos) (tBM0 X.K T r to) (bmZ ty g fo nilZ) := ⟨pe_bm0 pa slot hty hm ho.pe hbase hline, ⟨fun w H S σ δ Q E QV rs re h lk lx =>
  ho.z.run w H S σ δ _ E _ rs re h (fun w1 H1 S1 dx x l1 r1 e1 h1 => ⟨hz.1 w1 H1 S1 x dx r1 e1 h1.1, hz.2 w1 H1 S1 x [] dx [] Q E QV r1 e1 .nil h1.2 (lk.le l1)⟩) lx⟩⟩
def tyL (x : D) (S : Store) : Prop := ∃ l, lstOf S x = some l
def tyS (x : D) (_ : Store) : Prop := ∃ z, x = .str z
def tyDi (x : D) (S : Store) : Prop := ∃ l, dicOf S x = some l
theorem tyL_at {w : Wd} {H : Hp} {S : Store} {x : V} {dx : D} (rs : RS K w H S) (rx : Rep K w dx x) (h : tyL dx S) : tyV K "list" x H := by
  obtain ⟨l, h⟩ := h
  obtain ⟨a, xs, rfl, e1, e2⟩ := lst_at rs rx h
  exact .inl ⟨rfl, xs, .inl (.inl e1)⟩
theorem tyS_at {w : Wd} {H : Hp} {S : Store} {x : V} {dx : D} (rs : RS K w H S) (rx : Rep K w dx x) (h : tyS dx S) : tyV K "str" x H := by
  obtain ⟨l, rfl⟩ := h
  cases rep_str rx
  rfl
theorem tyDi_at {w : Wd} {H : Hp} {S : Store} {x : V} {dx : D} (rs : RS K w H S) (rx : Rep K w dx x) (h : tyDi dx S) : tyV K "dict" x H := by
  obtain ⟨l, h⟩ := h
  obtain ⟨a, xs, rfl, e1, e2⟩ := dic_at rs rx h
  exact .inr (.inr (.inl ⟨rfl, .inl ⟨xs, e1⟩⟩))
/-- a handle's list, to be written -/
theorem lstH_at {w : Wd} {H : Hp} {S : Store} {n : Nat} {l : List D} {v : V} (rs : RS K w H S) (e : S[n]? = some (.lst l)) (rx : Rep K w (.hnd n) v) : ∃ xs, v = .ref (w.rho n) ∧ H (w.rho n) = some (.lst xs) ∧ RepL K w l xs ∧ ∀ (m : List D) (ys : List V), RepL K w m ys → RS K w (upd H (w.rho n) (.lst ys)) (S.set n (.lst m)) := by
  obtain ⟨h1, xs, h2, h3⟩ := rs.at_ n _ e
  simp only [Rep] at rx
  exact ⟨xs, rx.2, h2, h3, fun m ys hm => rs.write e trivial ⟨h1, ys, upd_same, hm⟩⟩
def appendZ : D → List D → Wm D := fun x ds S Q _ => match x, ds with
  | .hnd n, [y] => ∃ l, S[n]? = some (.lst l) ∧ l.length < 100000 ∧ Q .non (S.set n (.lst (l ++ [y])))
  | _, _ => False
theorem mz_append : MtZ K "list" rAppend tyL appendZ := ⟨fun w H S x dx => tyL_at, fun w H S x xs dx ds Q E QV rs rx rl h lk => by
  unfold appendZ at h
  split at h
  · rename_i n y
    obtain ⟨l, h1, h2, h⟩ := h
    obtain ⟨v, rfl, rv⟩ := repL_one rl
    obtain ⟨ys, rfl, h3, h4, wr⟩ := lstH_at rs h1 rx
    exact ⟨_, ys, v, rfl, rfl, h3, by rw [h4.length]; exact small.lt h2, fin_non (wr _ _ (h4.append (.cons rv .nil))) lk h⟩
  · exact h.elim⟩
def extendZ : D → List D → Wm D := fun x ds S Q _ => match x, ds with
  | .hnd n, [y] => ∃ l m, S[n]? = some (.lst l) ∧ lstOf S y = some m ∧ l.length + m.length ≤ 100000 ∧ Q .non (S.set n (.lst (l ++ m)))
  | _, _ => False
theorem mz_extend : MtZ K "list" rExtend tyL extendZ := ⟨fun w H S x dx => tyL_at, fun w H S x xs dx ds Q E QV rs rx rl h lk => by
  unfold extendZ at h
  split at h
  · rename_i n y
    obtain ⟨l, m, h1, h5, h2, h⟩ := h
    obtain ⟨v, rfl, rv⟩ := repL_one rl
    obtain ⟨ys, rfl, h3, h4, wr⟩ := lstH_at rs h1 rx
    obtain ⟨a, zs, rfl, e1, e2⟩ := lst_at rs rv h5
    exact ⟨_, a, ys, zs, rfl, rfl, h3, e1, by rw [h4.length, e2.length]; exact small.ok h2, fin_non (wr _ _ (h4.append e2)) lk h⟩
  · exact h.elim⟩
def rInsert : V → List V → Hp → VK → Prop := fun x vs H Q => ∃ (l : Addr) (xs : List V) (i : Int) (y : V), x = .ref l ∧ vs = [.int i, y] ∧ H l = some (.lst xs) ∧ xs.length < sizeLine ∧ 0 ≤ i ∧ i < 2 ^ 63 ∧
    Q .non (upd H l (.lst (xs.take i.toNat ++ [y] ++ xs.drop i.toNat)))
theorem mt_insertU : MtR X "list.insert" rInsert := mt_insert
def insertZ : D → List D → Wm D := fun x ds S Q _ => match x, ds with
  | .hnd n, [.int i, y] => ∃ l, S[n]? = some (.lst l) ∧ l.length < 100000 ∧ 0 ≤ i ∧ i < 2 ^ 62 ∧ Q .non (S.set n (.lst (l.take i.toNat ++ [y] ++ l.drop i.toNat)))
  | _, _ => False
theorem mz_insert : MtZ K "list" rInsert tyL insertZ := ⟨fun w H S x dx => tyL_at, fun w H S x xs dx ds Q E QV rs rx rl h lk => by
  unfold insertZ at h
  split at h
  · rename_i n i y
    obtain ⟨l, h1, h2, h5, h6, h⟩ := h
    obtain ⟨v0, v, rfl, r0, rv⟩ := repL_two rl
    cases rep_int r0
    obtain ⟨ys, rfl, h3, h4, wr⟩ := lstH_at rs h1 rx
    exact ⟨_, ys, i, v, rfl, rfl, h3, by rw [h4.length]; exact small.lt h2, h5, by omega, fin_non (wr _ _ (((h4.take _).append (.cons rv .nil)).append (h4.drop _))) lk h⟩
  · exact h.elim⟩
theorem strsAre_of {ns : List Str} : ∀ {us : List Value}, Vals (ns.map V.str) us → StrsAre us ns := by
  induction ns with
  | nil => intro us r; rw [List.map_nil] at r; cases r; exact .nil
  | cons n ns ih =>
    intro us r
    rw [List.map_cons] at r
    cases r with
    | cons r1 r2 =>
      obtain ⟨t, e⟩ := r1
      subst e
      exact .cons n t (ih r2)
def rCountS (K : PySem.W.Frag) : V → List V → Hp → VK → Prop := fun x vs H Q => ∃ (l : Addr) (xs : List Str) (y : Str), x = .ref l ∧ vs = [.str y] ∧ SqL K H l (xs.map V.str) ∧ Q (.int (countIn (.str y) (xs.map PyData.str))) H
theorem mt_countS : MtR X "list.count" (rCountS X.K) := by
  intro pins s σ H x vs v us Q I rx rv h
  obtain ⟨l, xs, y, rfl, rfl, hH, q⟩ := h
  cases rx
  obtain ⟨u, rfl, ru⟩ := rv.one
  obtain ⟨t, rfl⟩ := ru
  obtain ⟨its, r, p, _⟩ := I.list hH
  exact count_list_strs p.isList (strsAre_of r) ⟨.int _, H, I.tok _, ⟨_, rfl⟩, q⟩
def countSZ : D → List D → Wm D := fun x ds S Q _ => match ds with
  | [.str y] => ∃ xs : List Str, lstOf S x = some (xs.map D.str) ∧ Q (.int (countIn (.str y) (xs.map PyData.str))) S
  | _ => False
theorem mz_countS : MtZ K "list" (rCountS K) tyL countSZ := ⟨fun w H S x dx => tyL_at, fun w H S x xs dx ds Q E QV rs rx rl h lk => by
  unfold countSZ at h
  split at h
  · rename_i y
    obtain ⟨l, h1, h⟩ := h
    obtain ⟨v, rfl, rv⟩ := repL_one rl
    cases rep_str rv
    obtain ⟨a, zs, rfl, e1, e2⟩ := lst_at rs rx h1
    have := RepL.strs e2
    subst this
    exact ⟨a, l, y, rfl, rfl, .inl (.inl e1), fin_int rs lk h⟩
  · exact h.elim⟩
def rJoin (K : PySem.W.Frag) : V → List V → Hp → VK → Prop := fun x xs H Q => ∃ a p, ∃ ys : List Str, x = .str a ∧ xs = [.ref p] ∧ (SqL K H p (ys.map V.str) ∨ SqT K H p (ys.map V.str)) ∧
    (ys.map (·.length)).sum + ys.length * a.length ≤ 16777216 ∧ Q (.str (Txt.join a ys)) H
theorem mt_joinU : MtR X "str.join" (rJoin X.K) := mt_join
def joinZ : D → List D → Wm D := fun x ds S Q _ => match x, ds with
  | .str a, [y] => ∃ ys : List Str, seqOf S y = some (ys.map D.str) ∧ (ys.map (·.length)).sum + ys.length * a.length ≤ 16777216 ∧ Q (.str (Txt.join a ys)) S
  | _, _ => False
theorem mz_join : MtZ K "str" (rJoin K) tyS joinZ := ⟨fun w H S x dx => tyS_at, fun w H S x xs dx ds Q E QV rs rx rl h lk => by
  unfold joinZ at h
  split at h
  · rename_i a y
    obtain ⟨ys, h1, h2, h⟩ := h
    obtain ⟨v, rfl, rv⟩ := repL_one rl
    cases rep_str rx
    obtain ⟨p, zs, rfl, e1, e2⟩ := seq_at rs rv h1
    have := RepL.strs e2
    subst this
    exact ⟨a, p, ys, rfl, rfl, e1, h2, fin_str rs lk h⟩
  · exact h.elim⟩
end
end Z
/-! ZDeep: deep freezing, abstract cells, wrappers of makings, own != by default, dict displays and comprehensions, is with bools. -/
namespace Z
open PySem L2 PySem.Spec PyProof.Rows
section
variable {K : PySem.W.Frag} {X : Cx} {W : WX}
/-! ### deep freezing -/
def kill (A : Nat → Bool) (S : Store) : Store := S.mapIdx fun i c => if A i then .dead else c
theorem kill_len (A : Nat → Bool) (S : Store) : (kill A S).length = S.length := by simp [kill]
theorem kill_at (A : Nat → Bool) (S : Store) (n : Nat) : (kill A S)[n]? = (S[n]?).map fun c => if A n then .dead else c := by simp [kill]
open Classical in
noncomputable def Wd.frzA (w : Wd) (H : Hp) (S : Store) (A : Nat → Bool) : Wd := { w with hs := fun a => if ∃ n c, A n = true ∧ S[n]? = some c ∧ c.live ∧ w.rho n = a then H a else w.hs a }
open Classical in
theorem RS.frzA_le {w : Wd} {H : Hp} {S : Store} (r : RS K w H S) (A : Nat → Bool) : w.le (w.frzA H S A) := ⟨Nat.le_refl _, fun _ _ => rfl, fun a o e => by
  show (if ∃ n c, A n = true ∧ S[n]? = some c ∧ c.live ∧ w.rho n = a then H a else w.hs a) = some o
  split
  · exact r.ex a o e
  · exact e⟩
open Classical in
theorem frzA_yes {w : Wd} {H : Hp} {S : Store} {A : Nat → Bool} {n : Nat} {c : C} (h1 : A n = true) (h2 : S[n]? = some c) (h3 : c.live) : (w.frzA H S A).hs (w.rho n) = H (w.rho n) := by
  show (if ∃ m c, A m = true ∧ S[m]? = some c ∧ c.live ∧ w.rho m = w.rho n then H (w.rho n) else w.hs (w.rho n)) = _
  rw [if_pos ⟨n, c, h1, h2, h3, rfl⟩]
open Classical in
theorem RS.frzA {w : Wd} {H : Hp} {S : Store} (r : RS K w H S) (A : Nat → Bool) : RS K (w.frzA H S A) H (kill A S) where
  ex := fun a o e => by
    have e : (if ∃ n c, A n = true ∧ S[n]? = some c ∧ c.live ∧ w.rho n = a then H a else w.hs a) = some o := e
    split at e
    · exact e
    · exact r.ex a o e
  n := by rw [kill_len]; exact r.n
  inj := fun m n c c' e e' l l' q => by
    have key : ∀ (m : Nat) (c : C), (kill A S)[m]? = some c → c.live → S[m]? = some c := fun m c e l => by
      rw [kill_at] at e
      cases h : S[m]? with
      | none => rw [h] at e; cases e
      | some c0 =>
        rw [h] at e
        simp only [Option.map_some, Option.some.injEq] at e
        split at e
        · subst e; exact l.elim
        · rw [e]
    exact r.inj m n c c' (key m c e l) (key n c' e' l') l l' q
  at_ := fun n c e => by
    rw [kill_at] at e
    cases h : S[n]? with
    | none => rw [h] at e; cases e
    | some c0 =>
      rw [h] at e
      simp only [Option.map_some, Option.some.injEq] at e
      split at e
      · subst e; exact True.intro
      · rename_i hA
        subst e
        have z := r.at_ n c0 h
        rcases C.live_or c0 with l | l
        · refine RepC.move (r.frzA_le A) ?_ (fun _ q => q) z
          show (if ∃ m c, A m = true ∧ S[m]? = some c ∧ c.live ∧ w.rho m = w.rho n then H (w.rho n) else w.hs (w.rho n)) = none
          rw [if_neg]
          · exact RepC.hs l z
          · rintro ⟨m, c, h1, h2, h3, h4⟩
            rw [r.inj m n c c0 h2 h h3 l h4] at h1
            exact hA h1
        · subst l; exact True.intro
mutual
inductive FzD (S : Store) (A : Nat → Bool) : D → D → Prop
  | same (d : D) : FzD S A d d
  | tup {l m : List D} : FzL S A l m → FzD S A (.tup l) (.tup m)
  | lst {l m : List D} : FzL S A l m → FzD S A (.lst l) (.lst m)
  | hlst {n : Nat} {l m : List D} : A n = true → S[n]? = some (.lst l) → FzL S A l m → FzD S A (.hnd n) (.lst m)
  | hdic {n : Nat} {l m : List (Key × D)} : A n = true → S[n]? = some (.dic l) → FzK S A l m → FzD S A (.hnd n) (.dic m)
  | hins {n : Nat} {C : Addr} {l m : List (Key × D)} : A n = true → S[n]? = some (.ins C l) → FzK S A l m → FzD S A (.hnd n) (.ins C m)
inductive FzL (S : Store) (A : Nat → Bool) : List D → List D → Prop
  | nil : FzL S A [] []
  | cons {d e : D} {l m : List D} : FzD S A d e → FzL S A l m → FzL S A (d :: l) (e :: m)
inductive FzK (S : Store) (A : Nat → Bool) : List (Key × D) → List (Key × D) → Prop
  | nil : FzK S A [] []
  | cons {k : Key} {d e : D} {l m : List (Key × D)} : FzD S A d e → FzK S A l m → FzK S A ((k, d) :: l) ((k, e) :: m)
end
section
variable {w : Wd} {H : Hp} {S : Store} {A : Nat → Bool}
mutual
theorem FzD.rep (r : RS K w H S) : ∀ {d e : D} {v : V}, FzD S A d e → Rep K w d v → Rep K (w.frzA H S A) e v
  | _, _, _, .same d, h => Rep.le (r.frzA_le A) d h
  | _, _, _, .tup hl, h => by
    simp only [Rep] at h ⊢
    obtain ⟨a, xs, e1, e2, e3⟩ := h
    exact ⟨a, xs, e1, SqT.le (r.frzA_le A) e2, FzL.rep r hl e3⟩
  | _, _, _, .lst hl, h => by
    simp only [Rep] at h ⊢
    obtain ⟨a, xs, e1, e2, e3⟩ := h
    exact ⟨a, xs, e1, (r.frzA_le A).hs _ _ e2, FzL.rep r hl e3⟩
  | _, _, _, .hlst (n := n) hA hS hl, h => by
    simp only [Rep] at h ⊢
    obtain ⟨_, xs, e1, e2⟩ := r.at_ n _ hS
    exact ⟨w.rho n, xs, h.2, (frzA_yes hA hS trivial).trans e1, FzL.rep r hl e2⟩
  | _, _, _, .hdic (n := n) hA hS hl, h => by
    simp only [Rep] at h ⊢
    obtain ⟨_, xs, e1, e2⟩ := r.at_ n _ hS
    exact ⟨w.rho n, xs, h.2, (frzA_yes hA hS trivial).trans e1, FzK.rep r hl e2⟩
  | _, _, _, .hins (n := n) hA hS hl, h => by
    simp only [Rep] at h ⊢
    obtain ⟨_, dx, xs, e1, e2⟩ := r.at_ n _ hS
    exact ⟨w.rho n, dx, xs, h.2, (frzA_yes hA hS trivial).trans e1, FzK.rep r hl e2⟩
theorem FzL.rep (r : RS K w H S) : ∀ {l m : List D} {ys : List V}, FzL S A l m → RepL K w l ys → RepL K (w.frzA H S A) m ys
  | _, _, _, .nil, h => by simp only [RepL] at h ⊢; exact h
  | _, _, _, .cons hd hl, h => by
    simp only [RepL] at h ⊢
    obtain ⟨y, q, e1, e2, e3⟩ := h
    exact ⟨y, q, e1, FzD.rep r hd e2, FzL.rep r hl e3⟩
theorem FzK.rep (r : RS K w H S) : ∀ {l m : List (Key × D)} {ys : List (Key × V)}, FzK S A l m → RepK K w l ys → RepK K (w.frzA H S A) m ys
  | _, _, _, .nil, h => by simp only [RepK] at h ⊢; exact h
  | _, _, _, .cons hd hl, h => by
    simp only [RepK] at h ⊢
    obtain ⟨y, q, e1, e2, e3⟩ := h
    exact ⟨y, q, e1, FzD.rep r hd e2, FzK.rep r hl e3⟩
end
end
/-- what comes, frozen through and through -/
def deepQ (S0 : Store) (Q : D → Store → Prop) (x : D) (S1 : Store) : Prop := ∃ A d S2, FzD S1 A x d ∧ Fewer S0 (kill A S1) S2 ∧ d.sc S0.length ∧ Q d S2
theorem deep_lnk {w : Wd} {H : Hp} {S : Store} (rs : RS K w H S) {Q : D → Store → Prop} {QV : VK} (lk : Lnk K (Rep K) w Q QV) : Lnk K (Rep K) w (deepQ S Q) QV := by
  intro w1 H1 S1 d v l r1 e1 h1
  obtain ⟨A, d', S2, h1, h3, h4, q⟩ := h1
  have r2 := r1.frzA A
  have l2 := r1.frzA_le A
  obtain ⟨r3, l3⟩ := RS.fewer rs r2 (l.trans l2) h3
  exact lk _ H1 S2 d' v l3 r3 (Rep.cut d' (FzD.rep r1 h1 e1) (by rw [rs.n]; exact h4)) q
def deepE (fa : Env → Wm D) : Env → Wm D := fun δ S Q E => fa δ S (deepQ S Q) E
theorem EZ.deep {e : Expr} {te : TE} {f : Env → Wm D} (h : EZ X W e te f) : EZ X W e te (deepE f) := ⟨h.pe, ⟨fun w H S σ δ Q E QV rs re hf lk lx => h.z.run w H S σ δ _ E _ rs re hf (deep_lnk rs lk) lx⟩⟩
theorem FnZ.deep {P : Program} {w : World} {mg : Str → Option Value} {base : Heap} {k : Nat} {f : Addr} {fd : FuncData} {ps : List Str} {m : Fz} (F : FnZ P w K mg base k f fd ps m) : FnZ P w K mg base k f fd ps (fun ds S Q E => m ds S (deepQ S Q) E) := by
  refine ⟨fun vs H Q E hs => ?_, fun A outer s H args us vs Q E hr hg e0 hb r hs => F.run A outer s H args us vs Q E hr hg e0 hb r ?_⟩
  · obtain ⟨w', S', ds, _, _, hl, _, hd, _⟩ := hs
    rw [hd.length, hl]
  · obtain ⟨w', S', ds, Qd, Ed, hl, rs, hd, hm, lkQ, lkE⟩ := hs
    exact ⟨w', S', ds, _, Ed, hl, rs, hd, hm, deep_lnk rs lkQ, lkE⟩
def newA (n : Nat) : Nat → Bool := fun m => decide (n ≤ m)
theorem deepQ_new {S0 S0' T : Store} {Q : D → Store → Prop} {x d : D} (h0 : S0'.length = S0.length) (hs : ∀ (n : Nat) (c : C), S0'[n]? = some c → S0[n]? = some c ∨ c.sc S0.length) (h1 : FzD (S0' ++ T) (newA S0.length) x d) (h2 : d.sc S0.length) (h : Q d S0') : deepQ S0 Q x (S0' ++ T) :=
  ⟨newA S0.length, d, S0', h1, ⟨h0, by rw [kill_len, List.length_append]; omega, fun n c e => .inr ⟨by
    have hn : n < S0'.length := (List.getElem?_eq_some_iff.mp e).1
    have hA : newA S0.length n = false := decide_eq_false (by omega)
    rw [kill_at, List.getElem?_append_left hn, e]
    simp [hA], hs n c e⟩⟩, h2, h⟩
theorem deepQ_same {S0 T : Store} {Q : D → Store → Prop} {x d : D} (h1 : FzD (S0 ++ T) (newA S0.length) x d) (h2 : d.sc S0.length) (h : Q d S0) : deepQ S0 Q x (S0 ++ T) := deepQ_new rfl (fun _ _ e => .inl e) h1 h2 h
/-- at a def's end: what it made for itself is forgotten -/
theorem end_new {S0 S0' T : Store} {Q : D → Store → Prop} {d : D} (h0 : S0'.length = S0.length) (hs : ∀ (n : Nat) (c : C), S0'[n]? = some c → S0[n]? = some c ∨ c.sc S0.length) (h2 : d.sc S0.length) (h : Q d S0') : endZ S0 Q d (S0' ++ T) := .inr ⟨S0', ⟨h0, by rw [List.length_append]; omega, fun n c e => .inr ⟨by
    rw [List.getElem?_append_left (List.getElem?_eq_some_iff.mp e).1]; exact e, hs n c e⟩⟩, h2, h⟩
theorem end_same {S0 T : Store} {Q : D → Store → Prop} {d : D} (h2 : d.sc S0.length) (h : Q d S0) : endZ S0 Q d (S0 ++ T) := end_new rfl (fun _ _ e => .inl e) h2 h
/-! ### abstract cells -/
theorem RS.reabs {w : Wd} {H : Hp} {S : Store} (r : RS K w H S) {n : Nat} {l : List D} {p : List D → Prop} (e : S[n]? = some (.lst l)) (hp : p l) (hs : ∀ k, scL k l) : RS K w H (S.set n (.abs p)) where
  ex := r.ex
  n := by rw [List.length_set]; exact r.n
  inj := fun m m' c1 c2 e1 e2 l1 l2 q => by
    have key : ∀ (m : Nat) (c1 : C), (S.set n (.abs p))[m]? = some c1 → c1.live → ∃ c3, S[m]? = some c3 ∧ c3.live := fun m c1 e1 l1 => by
      by_cases hm : n = m
      · subst hm; exact ⟨_, e, trivial⟩
      · rw [List.getElem?_set_ne hm] at e1; exact ⟨c1, e1, l1⟩
    obtain ⟨c3, q1, k1⟩ := key m c1 e1 l1
    obtain ⟨c4, q2, k2⟩ := key m' c2 e2 l2
    exact r.inj m m' c3 c4 q1 q2 k1 k2 q
  at_ := fun m c' e' => by
    by_cases hm : n = m
    · subst hm
      rw [List.getElem?_set_self (List.getElem?_eq_some_iff.mp e).1] at e'
      cases e'
      obtain ⟨h1, xs, h2, h3⟩ := r.at_ n _ e
      exact ⟨h1, l, ⟨hp, hs⟩, xs, h2, h3⟩
    · rw [List.getElem?_set_ne hm] at e'
      exact r.at_ m c' e'
theorem RS.unabs {w : Wd} {H : Hp} {S : Store} (r : RS K w H S) {n : Nat} {p : List D → Prop} (e : S[n]? = some (.abs p)) : ∃ l, p l ∧ (∀ k, scL k l) ∧ RS K w H (S.set n (.lst l)) := by
  obtain ⟨h1, l, ⟨hp, hs⟩, xs, h2, h3⟩ := r.at_ n _ e
  refine ⟨l, hp, hs, r.ex, by rw [List.length_set]; exact r.n, fun m m' c1 c2 e1 e2 l1 l2 q => ?_, fun m c' e' => ?_⟩
  · have key : ∀ (m : Nat) (c1 : C), (S.set n (.lst l))[m]? = some c1 → c1.live → ∃ c3, S[m]? = some c3 ∧ c3.live := fun m c1 e1 l1 => by
      by_cases hm : n = m
      · subst hm; exact ⟨_, e, trivial⟩
      · rw [List.getElem?_set_ne hm] at e1; exact ⟨c1, e1, l1⟩
    obtain ⟨c3, q1, k1⟩ := key m c1 e1 l1
    obtain ⟨c4, q2, k2⟩ := key m' c2 e2 l2
    exact r.inj m m' c3 c4 q1 q2 k1 k2 q
  · by_cases hm : n = m
    · subst hm
      rw [List.getElem?_set_self (List.getElem?_eq_some_iff.mp e).1] at e'
      cases e'
      exact ⟨h1, xs, h2, h3⟩
    · rw [List.getElem?_set_ne hm] at e'
      exact r.at_ m c' e'
/-- a def that reads and writes the abstract cell of its first argument -/
def absF (m : Fz) : Fz := fun ds S Q E => ∃ n p r, ds = .hnd n :: r ∧ S[n]? = some (.abs p) ∧ ∀ l, p l → (∀ k, scL k l) → m ds (S.set n (.lst l)) (fun d S' => ∃ l', S'[n]? = some (.lst l') ∧ p l' ∧ (∀ k, scL k l') ∧ Q d (S'.set n (.abs p))) noE
theorem FnZ.absF {P : Program} {w : World} {mg : Str → Option Value} {base : Heap} {k : Nat} {f : Addr} {fd : FuncData} {ps : List Str} {m : Fz} (F : FnZ P w K mg base k f fd ps m) : FnZ P w K mg base k f fd ps (Z.absF m) := by
  refine ⟨fun vs H Q E hs => ?_, fun A outer s H args us vs Q E hr hg e0 hb r hs => F.run A outer s H args us vs Q E hr hg e0 hb r ?_⟩
  · obtain ⟨w', S', ds, _, _, hl, _, hd, _⟩ := hs
    rw [hd.length, hl]
  · obtain ⟨w', S', ds, Qd, Ed, hl, rs, hd, ⟨n, p, rr, h1, h2, h3⟩, lkQ, lkE⟩ := hs
    obtain ⟨l, hp, hsc, rs'⟩ := rs.unabs h2
    refine ⟨w', _, ds, _, noE, hl, rs', hd, h3 l hp hsc, fun w2 H2 S2 d v le r2 e q => ?_, fun _ _ _ _ _ _ _ _ _ h => h.elim⟩
    obtain ⟨l', q1, q2, q3, q4⟩ := q
    exact lkQ w2 H2 _ d v le (r2.reabs q1 q2 q3) e q4
/-- a def whose result is a new list that is told by a property alone -/
def absOut (p : List D → Prop) (m : Fz) : Fz := fun ds S Q E => m ds S (fun d S' => ∃ n l, d = .hnd n ∧ S'[n]? = some (.lst l) ∧ p l ∧ (∀ k, scL k l) ∧ Q d (S'.set n (.abs p))) E
theorem FnZ.absOut {P : Program} {w : World} {mg : Str → Option Value} {base : Heap} {k : Nat} {f : Addr} {fd : FuncData} {ps : List Str} {m : Fz} (p : List D → Prop) (F : FnZ P w K mg base k f fd ps m) : FnZ P w K mg base k f fd ps (Z.absOut p m) := by
  refine ⟨fun vs H Q E hs => ?_, fun A outer s H args us vs Q E hr hg e0 hb r hs => F.run A outer s H args us vs Q E hr hg e0 hb r ?_⟩
  · obtain ⟨w', S', ds, _, _, hl, _, hd, _⟩ := hs
    rw [hd.length, hl]
  · obtain ⟨w', S', ds, Qd, Ed, hl, rs, hd, hm, lkQ, lkE⟩ := hs
    refine ⟨w', S', ds, _, Ed, hl, rs, hd, hm, fun w2 H2 S2 d v le r2 e q => ?_, lkE⟩
    obtain ⟨n, l, rfl, q1, q2, q3, q4⟩ := q
    exact lkQ w2 H2 _ _ v le (r2.reabs q1 q2 q3) e q4
end
/-! ### makings -/
section
variable {X : Cx} {W : WX} {k n : Nat} {f C : Addr} {fd : FuncData} {ps ks : List Str} {dvs : List V} {ds : List Value} {d0 : List D} {x m : Str} {p pos apos : Pos} {e : Expr} {es : List Expr} {kws : List Keyword} {t tk : TA} {g : List Value → List Value → List Value} {gV : List V → List V → List V} {gD : List D → List D → List D} {mZ : Fz} {fs fk : Env → Wm (List D)}
theorem EZ.make (M : Mk X.K C f) (F : FnZ X.prog X.w X.K X.mg X.base k f fd ps mZ) (c : Ctx X W (k + 1)) (hg : Gl X x) (hm : X.mg x = some (.ref C)) (hb : Binds X.K fd ps ds) (hd : Vals dvs ds) (h0 : CstL X.K d0 dvs)
    (ha : AZ X W (e :: es) t fs) (hdb : (x == ("__debug__" : Str)) = false := by decide) (he : starEach (e :: es) X.env = (false, eval e X.env) :: starEach es X.env := by rfl) (hpl : (backTo pos (starEach es X.env)).any (·.1) = false := by rfl) :
    EZ X W (.Call (.Name x p) (e :: es) [] pos) (tMakeG C (spZ X.K ps.length mZ) dvs W t) (makeZ C ps.length mZ d0 fs) := ⟨pe_makeG M F c hg hm hb hd ha.pe hdb he hpl, zq_make h0 ha.z⟩
theorem EZ.make0 (M : Mk X.K C f) (F : FnZ X.prog X.w X.K X.mg X.base k f fd ps mZ) (c : Ctx X W (k + 1)) (hg : Gl X x) (hm : X.mg x = some (.ref C)) (hb : Binds X.K fd ps ds) (hd : Vals dvs ds) (h0 : CstL X.K d0 dvs)
    (hdb : (x == ("__debug__" : Str)) = false := by decide) : EZ X W (.Call (.Name x p) [] [] pos) (tMakeG C (spZ X.K ps.length mZ) dvs W tNil) (makeZ C ps.length mZ d0 nilZ) := ⟨pe_makeG0 M F c hg hm hb hd hdb, zq_make h0 AZ.nil.z⟩
structure KZ (X : Cx) (W : WX) (kws : List Keyword) (t : TA) (f : Env → Wm (List D)) : Prop where
  pk : PK X kws t
  z : Zq X.K W (RepL X.K) t f
theorem EZ.makeN (M : Mk X.K C f) (F : FnZ X.prog X.w X.K X.mg X.base k f fd ps mZ) (c : Ctx X W (k + 1)) (hg : Gl X x) (hm : X.mg x = some (.ref C)) (hb : KBn X.K fd ps (n + 1) ks g gV) (h0 : RelG X.K gD gV)
    (hset : ∀ (a : Value) (us ws : List Value), g (a :: us) ws = (g (.none :: us) ws).set 0 a) (hsetV : ∀ (a : V) (us ws : List V), gV (a :: us) ws = (gV (.non :: us) ws).set 0 a) (ha : AZ X W (e :: es) t fs) (hkw : KZ X W kws tk fk)
    (hall : (backToKw pos (keywordEach kws X.env)).all (·.1.isSome) = true := by rfl) (hks : (backToKw pos (keywordEach kws X.env)).filterMap (·.1) = ks := by rfl) (hdb : (x == ("__debug__" : Str)) = false := by decide)
    (he : starEach (e :: es) X.env = (false, eval e X.env) :: starEach es X.env := by rfl) (hpl : ((backTo pos (starEach (e :: es) X.env)).any (·.1) || (backToKw pos (keywordEach kws X.env)).any (·.1.isNone)) = false := by rfl) :
    EZ X W (.Call (.Name x p) (e :: es) kws pos) (tMakeGN C n ks.length (spZ X.K ps.length mZ) gV W t tk) (makeNZ C n ks.length ps.length mZ gD fs fk) := ⟨pe_makeGN M F c hg hm hb hset hsetV ha.pe hkw.pk hall hks hdb he hpl, zq_makeN h0 ha.z hkw.z⟩
theorem KZ.nil : KZ X W [] tNil nilZ := ⟨pk_nil, AZ.nil.z⟩
theorem KZ.cons {nm : Option Str} {te : TE} {fa : Env → Wm D} {kpos : Pos} (ha : EZ X W e te fa) (hr : KZ X W kws tk fk)
    (hs : keywordEach (⟨nm, e, kpos⟩ :: kws) X.env = (nm, eval e X.env) :: keywordEach kws X.env := by rfl) : KZ X W (⟨nm, e, kpos⟩ :: kws) (tCons te tk) (consZ fa fk) := ⟨pk_cons ha.pe hr.pk, zq_cons ha.z hr.z⟩
end
/-! ### is True, is not False -/
section
variable {X : Cx} {W : WX} {K : PySem.W.Frag}
def rIsBl (g : Bool → Bool) : R2 := fun x y H Q => ∃ a b, x = .bl a ∧ y = .bl b ∧ Q (.bl (g (decide (a = b)))) H
theorem op_isBl1 : OpR X (compareOp .Is) (rIsBl id) := op_is_bl
theorem op_isBl2 : OpR X (compareOp .IsNot) (rIsBl not) := op_isnot_bl
def isBlZ (g : Bool → Bool) : D → D → Wm D := fun x y S Q _ => match x, y with
  | .bl a, .bl b => Q (.bl (g (decide (a = b)))) S
  | _, _ => False
theorem oz_isBl {g : Bool → Bool} : OpZ K (rIsBl g) (isBlZ g) := fun w H S x y dx dy Q E QV rs rx ry h lk => by
  unfold isBlZ at h
  split at h
  · cases rep_bl rx
    cases rep_bl ry
    exact ⟨_, _, rfl, rfl, fin_bl rs lk h⟩
  · exact h.elim
/-! ### != by default, == being the class's own -/
theorem ifBound_slot {M : Model} {A : Around} {E : Value → Shared → Prop} {s : Shared} {x C : Addr} {ox : Obj} {od : Option Obj} {name : Str} {id : String} {args : List Value} {Q : Option Value → Shared → Prop} (Xk : K.In s.heap) (I : PySem.W.InstAt s.heap x ox C od) (hs : PySem.W.findIn K (.ref C) name = some (some (.builtin id)))
    (hb : ∀ self, bindSpecial (.builtin id) self = pure (.builtin id, [self])) (h : wpAny M A (call (.builtin id) (.ref x :: args)) (fun v => Q (some v)) E s) : wpAny M A (callSpecialIfBound? (.ref x) name args) Q E s := by
  simp only [callSpecialIfBound?, bindSpecialIfBound?]
  refine wpAny_holding (wpAny_bind (wpAny_bind (wpAny_bind (I.type.here ((PySem.W.looks_findIn Xk hs).here ?_)))))
  refine wpAny_bind (wpAny_askSetting (wpAny_ite ?_))
  have fin : wpAny M A (call (.builtin id) ([.ref x] ++ args) >>= fun v => pure (some v)) Q E s := wpAny_bind (wpAny_mono h (fun v s' h' => wpAny_pure h') fun _ _ h' => h')
  split
  · exact wpAny_bind ((PySem.W.Looks.of_pure (hb _)).here (wpAny_pure (by exact fin)))
  · exact wpAny_tryCatch (wpAny_bind ((PySem.W.Looks.of_pure (hb _)).here (wpAny_pure (by exact fin))))
end
end Z
/-! ZNe: != by default; dict displays, dict comprehensions. -/
namespace Z
open PySem L2 PySem.Spec PyProof.Rows
section
variable {prog : Program} {w : World} {A : Around} {E : Value → Shared → Prop} {s : Shared} {K : PySem.W.Frag} {x C f : Addr} {ox : Obj} {od : Option Obj}
open Builtin in
theorem call_objNe {b : Value} {Q : Value → Shared → Prop} (hu : A.in1.units < cLine) (Xk : K.In s.heap) (I : PySem.W.InstAt s.heap x ox C od) (hm : PySem.W.mroIn K C (.type "object") = some true) (hs : PySem.W.findIn K (.ref C) "__eq__" = some (some (.ref f))) (hf : PySem.W.isFn K (.ref f) = true)
    (h : wpAny (model prog w) A.in1 (call (.ref f) [.ref x, b]) (fun v s' => ∃ r, v = .bool r ∧ Q (.bool (!r)) s') E s) : wpAny (model prog w) A (call (.builtin "object.__ne__") [.ref x, b]) Q E s := by
  refine wpAny_call (codeAny_call_builtin PySem.F.cmp_object.ne.plain PySem.F.cmpEntry_ne (PySem.W.check_slot (i := "object.__ne__") (owner := "object") (n := "__ne__") (by decide +kernel) (by decide +kernel) (I.type.andThen (PySem.W.looks_mroIn Xk hm)) (PySem.F.cmpArgs_ne _ _) ?_))
  unfold Builtin.«object.__ne__»
  refine wpAny_bind (m := slotArgs "__ne__" 1 _) (wpAny_pure ?_)
  refine wpAny_bind (m := cRoomFor _ _) (wpAny_cRoomFor hu ?_)
  refine wpAny_bind (m := callSpecialIfBound? (.ref x) (Str.ofString "__eq__") _) (PySem.W.ifBound_K Xk I hs hf (wpAny_mono h (fun r s' hq => ?_) fun _ _ y => y))
  obtain ⟨r, rfl, hq⟩ := hq
  exact wpAny_bind (m := truthy _) (wpAny_pure (wpAny_pure hq))
theorem ne_K {h₀ : Heap} {L : Addr} {m : Str → Option Value} {b tb : Value} {Q : Value → Shared → Prop} (hu : A.units + 1 < cLine) (F : Fr h₀ L s.heap m) (X₀ : K.In h₀) (I : PySem.W.InstAt s.heap x ox C od) (hb : PySem.W.Looks (model prog w) s.heap (typeOf b) tb) (hn : PySem.W.notFirst K C tb = true)
    (hne : PySem.W.findIn K (.ref C) "__ne__" = some (some (.builtin "object.__ne__"))) (hm : PySem.W.mroIn K C (.type "object") = some true) (hs : PySem.W.findIn K (.ref C) "__eq__" = some (some (.ref f))) (hf : PySem.W.isFn K (.ref f) = true)
    (h : wpAny (model prog w) A.in1 (call (.ref f) [.ref x, b]) (fun v s' => ∃ r, v = .bool r ∧ Q (.bool (!r)) s') E s) : wpAny (model prog w) A (richCompare .NotEq (.ref x) b) Q E s := by
  have Xk := X₀.keeps F.keep
  have one : wpAny (model prog w) A (tryCompare (.ref x) (cmpInfo .NotEq).2.1 b) (fun r s' => ∃ v, r = some v ∧ Q v s') E s := by
    unfold tryCompare
    refine wpAny_bind (ifBound_slot Xk I hne PySem.F.cmp_object.ne.bind (call_objNe (by exact hu) Xk I hm hs hf (wpAny_mono h (fun v s' hv => ?_) fun _ _ e => e)))
    obtain ⟨r, rfl, q⟩ := hv
    exact ⟨r, rfl, wpAny_pure ⟨_, rfl, q⟩⟩
  unfold richCompare
  simp only [oneThing_ref]
  refine wpAny_holding (wpAny_bind (wpAny_cRoomFor (by omega) ?_))
  refine wpAny_bind (I.type.here (wpAny_bind (hb.here ?_)))
  split
  · rename_i q
    have e : PySem.W.subIn K tb (.ref C) = some false := by
      rcases Bool.or_eq_true_iff.mp hn with e | e
      · rw [beq_iff_eq.mp e] at q; simp at q
      · exact beq_iff_eq.mp e
    refine wpAny_bind ((PySem.W.looks_subIn Xk e).here ?_)
    simp only [Bool.false_eq_true, if_false]
    refine wpAny_bind (wpAny_mono one (fun r s' z => ?_) fun _ _ e => e)
    obtain ⟨v, rfl, hq⟩ := z
    exact wpAny_pure hq
  · refine wpAny_bind (wpAny_pure ?_)
    simp only [Bool.false_eq_true, if_false]
    refine wpAny_bind (wpAny_mono one (fun r s' z => ?_) fun _ _ e => e)
    obtain ⟨v, rfl, hq⟩ := z
    exact wpAny_pure hq
end
section
variable {X : Cx} {W : WX} {k : Nat} {f C : Addr} {fd : FuncData} {ps : List Str} {sp : Sp}
theorem op_neOwn (F : FnG X.prog X.w X.K X.mg X.base k f fd ps sp) (c : Ctx X W (k + 1)) (hm : Meth X.K C "__eq__" f) (hne : PySem.W.findIn X.K (.ref C) "__ne__" = some (some (.builtin "object.__ne__"))) (hob : PySem.W.mroIn X.K C (.type "object") = some true) (hb : Binds X.K fd ps []) : OpR X (compareOp .NotEq) (rEqOwn X.K C sp not) := by
  intro pins s σ H x y v u Q I rx ry h
  obtain ⟨a, dx, fs, t, rfl, e, ty, hn, q⟩ := h
  cases (show v = Value.ref a from rx)
  obtain ⟨mA, O, _⟩ := ins_get I.hok e
  obtain ⟨od, J, _⟩ := O.look
  obtain ⟨m, hF⟩ := I.fr
  obtain ⟨P, Zk, p, _⟩ := kit_of I ry ty
  have hu : X.A.units + 1 < cLine := by have := c.hr.un; exact Nat.lt_of_le_of_lt (by omega) this
  show wpAny _ _ (richCompare .NotEq (.ref a) u) _ _ _
  refine ne_K hu hF I.ok.mod.kin J (Zk.ty _ _ I.kIn p) hn hne hob hm.at_ hm.fn (wpAny_mono (run_fnA (us := [.ref a, u]) (vs := [.ref a, y]) F c.hr.in1 c.hg I.env0.in1 hb I (.cons rfl (.cons ry .nil)) q) (fun v s' z => ?_) fun _ _ x => x)
  obtain ⟨z', H', I', rz, b, ez, qz⟩ := z
  subst ez
  cases (show v = Value.bool b from rz)
  exact ⟨b, rfl, .bl (!b), H', I', rfl, qz⟩
end
/-! ### {k: v, ..} -/
section
variable {X : Cx} {W : WX} {K : PySem.W.Frag} {a b c e o i tg iter elt kx vx : Expr} {te ta tb tc tk tv : TE} {f fa fb fc fe fk fv : Env → Wm D} {pos : Pos}
abbrev Pz := Env → Wm (List (D × D))
structure PsZ (X : Cx) (W : WX) (pos : Pos) (keys : List (Option Expr)) (values : List Expr) (trs : List (TE × TE)) (g : Pz) : Prop where
  pp : PPs X pos keys values trs
  z : Zq X.K W (fun w (ds : List (D × D)) (ps : List (V × V)) => RepL X.K w (ds.map (·.1)) (ps.map (·.1)) ∧ RepL X.K w (ds.map (·.2)) (ps.map (·.2))) (tPairs trs) g
def pnilZ : Pz := fun _ S Q _ => Q [] S
def pconsZ (fk fv : Env → Wm D) (g : Pz) : Pz := fun δ S Q E => fk δ S (fun x S1 => fv δ S1 (fun y S2 => g δ S2 (fun r S3 => Q ((x, y) :: r) S3) E) E) E
theorem PsZ.nil : PsZ X W pos [] [] [] pnilZ := ⟨pps_nil, ⟨fun w H S σ δ Q E QV rs re h lk lx => lk w H S _ _ (Wd.le.refl w) rs ⟨RepL.nil, RepL.nil⟩ h⟩⟩
theorem PsZ.cons {ks : List (Option Expr)} {vs : List Expr} {trs : List (TE × TE)} {g : Pz} (hk : EZ X W kx tk fk) (hv : EZ X W vx tv fv) (hr : PsZ X W pos ks vs trs g) : PsZ X W pos (some kx :: ks) (vx :: vs) ((tk, tv) :: trs) (pconsZ fk fv g) := ⟨pps_cons hk.pe hv.pe hr.pp, ⟨fun w H S σ δ Q E QV rs re h lk lx =>
  hk.z.run w H S σ δ _ E _ rs re h (fun w1 H1 S1 dx x l1 r1 e1 h1 =>
    hv.z.run w1 H1 S1 σ δ _ E _ r1 (re.le l1) h1 (fun w2 H2 S2 dy y l2 r2 e2 h2 =>
      hr.z.run w2 H2 S2 σ δ _ E _ r2 (re.le (l1.trans l2)) h2 (fun w3 H3 S3 ds ps l3 r3 e3 h3 =>
        lk w3 H3 S3 ((dx, dy) :: ds) ((x, y) :: ps) (l1.trans (l2.trans l3)) r3 ⟨.cons (Rep.le (l2.trans l3) _ e1) e3.1, .cons (Rep.le l3 _ e2) e3.2⟩ h3) (lx.le (l1.trans l2))) (lx.le l1)) lx⟩⟩
def keysD : List (D × D) → Option (List (Key × D))
  | [] => some []
  | (k, d) :: r => (keyD k).bind fun k' => (keysD r).map fun r' => (k', d) :: r'
def mergeD (l more : List (Key × D)) : List (Key × D) := more.foldl (fun acc kv => putD acc kv.1 kv.2) l
theorem RepK.merge {w : Wd} : ∀ {more : List (Key × D)} {rs : List (Key × V)} {l : List (Key × D)} {vs : List (Key × V)}, RepK K w more rs → RepK K w l vs → RepK K w (mergeD l more) (mergeK vs rs)
  | [], rs, l, vs, h, h0 => by simp only [RepK] at h; subst h; exact h0
  | (k, d) :: m, rs, l, vs, h, h0 => by
    simp only [RepK] at h
    obtain ⟨y, r, rfl, e2, e3⟩ := h
    exact RepK.merge (l := putD l k d) (vs := putK vs k y) e3 (RepK.put e2 h0)
theorem keys_at {w : Wd} : ∀ {ds : List (D × D)} {ps : List (V × V)} {l : List (Key × D)}, RepL K w (ds.map (·.1)) (ps.map (·.1)) → RepL K w (ds.map (·.2)) (ps.map (·.2)) → keysD ds = some l → ∃ kvs : List (Key × V), ps = kvs.map (fun kv => (kV kv.1, kv.2)) ∧ RepK K w l kvs
  | [], ps, l, h1, h2, h => by
    simp only [keysD] at h
    cases h
    simp only [List.map_nil, RepL, List.map_eq_nil_iff] at h1
    exact ⟨[], by rw [h1]; rfl, RepK.nil⟩
  | (k, d) :: ds, ps, l, h1, h2, h => by
    simp only [keysD] at h
    cases ps with
    | nil => simp only [List.map_nil, List.map_cons, RepL] at h1; obtain ⟨_, _, e, _⟩ := h1; cases e
    | cons p ps =>
      obtain ⟨x, y⟩ := p
      simp only [List.map_cons, RepL] at h1 h2
      obtain ⟨_, _, e1, e2, e3⟩ := h1
      cases e1
      obtain ⟨_, _, f1, f2, f3⟩ := h2
      cases f1
      cases hk : keyD k with
      | none => rw [hk] at h; cases h
      | some k' =>
        rw [hk] at h
        cases hr : keysD ds with
        | none => rw [hr] at h; cases h
        | some l' =>
          rw [hr] at h
          cases h
          obtain ⟨kvs, e, q⟩ := keys_at e3 f3 hr
          exact ⟨(k', y) :: kvs, by rw [List.map_cons, key_at e2 hk, e], .cons f2 q⟩
theorem len_mergeD : ∀ (ds : List (D × D)) (l : List (Key × D)), keysD ds = some l → l.length = ds.length
  | [], l, h => by simp only [keysD] at h; cases h; rfl
  | (k, d) :: ds, l, h => by
    simp only [keysD] at h
    cases hk : keyD k with
    | none => rw [hk] at h; cases h
    | some k' =>
      rw [hk] at h
      cases hr : keysD ds with
      | none => rw [hr] at h; cases h
      | some l' =>
        rw [hr] at h
        cases h
        rw [List.length_cons, List.length_cons, len_mergeD ds l' hr]
/-- the new dict is laid first; its handle comes -/
def dispZ (g : Pz) : Env → Wm D := fun δ S Q E => g δ (S ++ [.dic []]) (fun ds S1 => S1[S.length]? = some (.dic []) ∧ ∃ l, keysD ds = some l ∧ l.length ≤ 15 ∧ Q (.hnd S.length) (S1.set S.length (.dic (mergeD [] l)))) E
theorem EZ.disp {keys : List (Option Expr)} {values : List Expr} {trs : List (TE × TE)} {g : Pz} (h : PsZ X W pos keys values trs g) (hall : keys.all (·.isSome) = true) (hl : keys.length = values.length) (h0 : keys ≠ []) (h15 : keys.length ≤ 15) : EZ X W (.Dict keys values pos) (tDisp trs) (dispZ g) := ⟨pe_disp h.pp hall hl h0 h15, ⟨fun w H S σ δ Q E QV rs re hf lk lx => by
  intro p hp
  have la := le_add (w := w) (p := p)
  have ra := rs.newH (c := .dic []) (o := .dK []) hp ⟨rs.fresh hp, [], upd_same, RepK.nil⟩
  have hrho : (w.add p).rho S.length = p := by
    show (if S.length = w.n then p else w.rho S.length) = p
    rw [if_pos rs.n.symm]
  have hlt : S.length < (w.add p).n := by
    show S.length < w.n + 1
    rw [rs.n]
    exact Nat.lt_succ_self _
  refine h.z.run _ _ _ σ δ _ E _ ra (re.le la) hf (fun w1 H1 S1 ds ps l1 r1 e1 h1 => ?_) (lx.le la)
  obtain ⟨h1, l, h2, h3, h4⟩ := h1
  obtain ⟨kvs, h5, h6⟩ := keys_at e1.1 e1.2 h2
  have hr1 : w1.rho S.length = p := by rw [l1.rho _ hlt, hrho]
  obtain ⟨hn1, ys, h7, h8⟩ := r1.at_ _ _ h1
  simp only [RepK] at h8
  subst h8
  rw [hr1] at h7 hn1
  refine ⟨h7, kvs, h5, by rw [h6.length]; exact h3, ?_⟩
  have rw6 := r1.write (o := .dK (mergeK [] kvs)) (c := .dic (mergeD [] l)) h1 trivial ⟨by rw [hr1]; exact hn1, mergeK [] kvs, upd_same, RepK.merge h6 RepK.nil⟩
  rw [hr1] at rw6
  refine lk w1 _ _ (.hnd S.length) (.ref p) (la.trans l1) rw6 ?_ h4
  simp only [Rep]
  exact ⟨Nat.lt_of_lt_of_le hlt l1.n, by rw [hr1]⟩⟩⟩
/-! ### {k: v for .. in ..} -/
abbrev dcGo (G : Store → Prop) (t : Tz) (p : Env → Wm Bool) (fk fv : Env → Wm D) (δ0 : Env) (n : Nat) (Q : Store → Prop) : List D → Store → Prop
  | [], S => G S ∧ Q S
  | x :: xs, S => G S ∧ t x δ0 S (fun δ1 S1 => p δ1 S1 (fun b S2 => if b = true then fk δ1 S2 (fun y S3 => fv δ1 S3 (fun z S4 => ∃ l k, keyD y = some k ∧ S4[n]? = some (.dic l) ∧ l.length < 100000 ∧ dcGo G t p fk fv δ0 n Q xs (S4.set n (.dic (putD l k z)))) noE) noE else dcGo G t p fk fv δ0 n Q xs S2) noE) noEE
def dcZ (src : Src) (vs : List Nat) (t : Tz) (p : Env → Wm Bool) (fk fv : Env → Wm D) : Env → Wm D := fun δ S Q E => src δ S (fun q S1 => dcGo q.2 t p fk fv (wipeE δ vs) S1.length (fun S2 => Q (.hnd S1.length) S2) q.1 (S1 ++ [.dic []])) E
theorem zq_dc {wi : TI} {src : Src} {gt : TG} {t : Tz} {tt : TT} {p : Env → Wm Bool} {vs : List Nat} (hw : WipeT gt vs) (hi : ∀ w H S σ δ Q E R, RS K w H S → RepE K w δ σ → src δ S Q E → (∀ w1 H1 S1 xs G J, w.le w1 → RS K w1 H1 S1 → Walks K w1 J xs G → Q (xs, G) S1 → R J H1) → LnkX K w E W σ → wi σ H R)
    (hg : ∀ w H S σ δ d v Q E N, RS K w H S → RepE K w δ σ → Rep K w d v → t d δ S Q E → (∀ w' H' S' σ' δ', w.le w' → RS K w' H' S' → RepE K w' δ' σ' → Q δ' S' → N σ' H') → (∀ w' H' S' σ' δ' x cls dd, w.le w' → RS K w' H' S' → RepE K w' δ' σ' → RepX K w' x cls dd → E δ' x S' → W0 cls dd σ' H') → gt v σ H N)
    (ht : Zq K W0 RB tt p) (hk : Zq K W0 (Rep K) tk fk) (hv : Zq K W0 (Rep K) tv fv) : Zq K W (Rep K) (tDc wi gt tt tk tv vs) (dcZ src vs t p fk fv) := ⟨fun w H S σ δ Q E QV rs re h lk lx =>
  hi w H S σ δ _ _ _ rs re h (fun w1 H1 S1 xs G J l1 r1 hwk q => by
    intro Dl hD
    have la := le_add (w := w1) (p := Dl)
    have ra := r1.newH (c := .dic []) (o := .dK []) hD ⟨r1.fresh hD, [], upd_same, RepK.nil⟩
    have hn : w1.n = S1.length := r1.n
    have hrho : (w1.add Dl).rho S1.length = Dl := by
      show (if S1.length = w1.n then Dl else w1.rho S1.length) = Dl
      rw [if_pos hn.symm]
    have hlt : S1.length < (w1.add Dl).n := by
      show S1.length < w1.n + 1
      rw [hn]
      exact Nat.lt_succ_self _
    refine ⟨fun i m H' => m = xs.length - i ∧ i ≤ xs.length ∧ ∃ w' S', (w1.add Dl).le w' ∧ RS K w' H' S' ∧ dcGo G t p fk fv (wipeE δ vs) S1.length (fun S2 => Q (.hnd S1.length) S2) (xs.drop i) S', ⟨_, rfl, Nat.zero_le _, _, _, Wd.le.refl _, ra, q⟩, ?_⟩
    rintro i m H2 ⟨rfl, hi, w2, S2, l2, r2, q2⟩
    have l12 : w1.le w2 := la.trans l2
    by_cases hlt2 : i < xs.length
    · have hd : xs.drop i = xs[i] :: xs.drop (i + 1) := List.drop_eq_getElem_cons hlt2
      rw [hd] at q2
      obtain ⟨g2, q2⟩ := q2
      refine .inr ⟨hwk.go i w2 H2 S2 l12 r2 g2 hlt2, _, fun H' n => ⟨_, (by omega : xs.length - (i + 1) < xs.length - i), rfl, hlt2, n⟩, fun x H' y => ?_⟩
      have hw' : ∀ N, gt x (L2.wipe σ vs) H' N → gt x (L2.wipe σ vs) H' fun σ' H' => L2.wipe σ' vs = L2.wipe σ vs ∧ N σ' H' := fun N hN => by
        have z := hw x (L2.wipe σ vs) H' N hN
        rw [wipe_idem σ vs] at z
        exact z
      refine hw' _ ?_
      obtain ⟨w3, l3, r3, e3⟩ := hwk.yld i w2 H2 S2 x H' xs[i] l12 r2 g2 (List.getElem?_eq_getElem hlt2) y
      refine hg w3 H' S2 _ (wipeE δ vs) xs[i] x _ _ _ r3 (((re.le l1).le (l12.trans l3)).wipe vs) e3 q2 (fun w4 H4 S4 σ4 δ4 l4 r4 e4 q4 => ?_) (fun _ _ _ _ _ _ _ _ _ _ _ _ h => h.elim)
      refine ht.run w4 H4 S4 σ4 δ4 _ _ _ r4 e4 q4 (fun w5 H5 S5 b' b l5 r5 e5 q5 => ?_) lnk0
      have e5 : b' = b := e5
      subst e5
      have l25 : w2.le w5 := (l3.trans l4).trans l5
      cases b' with
      | false => exact ⟨w5, S5, l2.trans l25, r5, q5⟩
      | true =>
        refine hk.run w5 H5 S5 σ4 δ4 _ _ _ r5 (e4.le l5) q5 (fun w6 H6 S6 d v l6 r6 e6 q6 => ?_) lnk0
        refine hv.run w6 H6 S6 σ4 δ4 _ _ _ r6 (e4.le (l5.trans l6)) q6 (fun w7 H7 S7 dz z l7 r7 e7 q7 => ?_) lnk0
        obtain ⟨l, k, hk1, h1, h2, q7⟩ := q7
        have l07 : (w1.add Dl).le w7 := ((l2.trans l25).trans l6).trans l7
        have hr7 : w7.rho S1.length = Dl := by rw [l07.rho _ hlt, hrho]
        obtain ⟨hn7, ys, h3, h4⟩ := r7.at_ _ _ h1
        rw [hr7] at h3 hn7
        have rw7 := r7.write (o := .dK (putK ys k z)) (c := .dic (putD l k dz)) h1 trivial ⟨by rw [hr7]; exact hn7, putK ys k z, upd_same, RepK.put e7 h4⟩
        rw [hr7] at rw7
        exact ⟨ys, k, key_at (Rep.le l7 _ e6) hk1, h3, by rw [h4.length]; exact small.lt h2, w7, _, l07, rw7, q7⟩
    · have e : i = xs.length := by omega
      subst e
      rw [List.drop_length] at q2
      refine .inl ⟨hwk.stop w2 H2 S2 l12 r2 q2.1, lk w2 H2 S2 (.hnd S1.length) (.ref Dl) (l1.trans l12) r2 ?_ q2.2⟩
      simp only [Rep]
      exact ⟨Nat.lt_of_lt_of_le hlt l2.n, by rw [l2.rho _ hlt, hrho]⟩) lx⟩
theorem EZ.dc {ifs : List Expr} {scope : Scope} {own : List (Str × Nat)} {wi : TI} {src : Src} {gt : TG} {t : Tz} {tt : TT} {p : Env → Wm Bool} (hc : X.calm = true) (hN : X.N.Nodup) (hw : WipeT gt (own.map (·.2))) (hi : IZ X W tg iter wi src) (ok : BlkOk X.N X.env.scope scope own)
    (hg : Blk X scope fun Y => GZ Y W0 tg gt t) (ht : Blk X scope fun Y => TsZ Y W0 ifs tt p) (hk : Blk X scope fun Y => EZ Y W0 kx tk fk) (hv : Blk X scope fun Y => EZ Y W0 vx tv fv) (hs : ∀ x, foldedSetIterable iter X.env x = pure x := by intro _; rfl) :
    EZ X W (.DictComp kx vx [⟨tg, iter, ifs, 0⟩] scope pos) (tDc wi gt tt tk tv (own.map (·.2))) (dcZ src (own.map (·.2)) t p fk fv) := by
  refine ⟨pe_dc hc hN hi.pi ok (fun s H C cl fp => (hg s H C cl fp).pg) (fun s H C cl fp => (ht s H C cl fp).pe) (fun s H C cl fp => (hk s H C cl fp).pe) (fun s H C cl fp => (hv s H C cl fp).pe) hs, ?_⟩
  obtain ⟨Y1, k1, g1⟩ := hg.any
  obtain ⟨Y2, k2, g2⟩ := ht.any
  obtain ⟨Y3, k3, g3⟩ := hk.any
  obtain ⟨Y4, k4, g4⟩ := hv.any
  have z1 := g1.z
  have z2 := g2.z
  have z3 := g3.z
  have z4 := g4.z
  rw [k1] at z1
  rw [k2] at z2
  rw [k3] at z3
  rw [k4] at z4
  exact zq_dc hw hi.z z1 z2 z3 z4
end
end Z
/-! ZGen: what the printed derivations name. -/
namespace Z
open PySem L2 PySem.Spec PyProof.Rows
section
variable {P : Program} {w : World} {K : PySem.W.Frag} {mg : Str → Option Value} {base : Heap}
/-- THE RULE of a def, its context written out -/
theorem FunD.zx {x qual : Str} {params : Arguments} {body : List Stmt} {scope : Scope} {dvs : List V} {kws : List (Str × V)} {f : Addr} {fd : FuncData} {N ps : List Str} {k : Nat} {g : Gm} (F : FunD K x qual params body scope dvs kws f fd) (S : FnScope N ps scope)
    (h : ∀ (cdv : Value) (A : Around) (outer : List PySem.Env) (s : Shared) (H : Hp) (E : XK), Ctx (cxOf (L2.CX P w) P w K mg base N qual scope f cdv A outer s H E) (fun cls d _ H => E cls d H) k →
      PassesOwn (model P w) (cxOf (L2.CX P w) P w K mg base N qual scope f cdv A outer s H E).A (cxOf (L2.CX P w) P w K mg base N qual scope f cdv A outer s H E).env (cxOf (L2.CX P w) P w K mg base N qual scope f cdv A outer s H E).xe →
      ∃ t, SsZ (cxOf (L2.CX P w) P w K mg base N qual scope f cdv A outer s H E) (fun cls d _ H => E cls d H) body t g) : FnZ P w K mg base (k + 1) f fd ps (bodyZ N.length g) := by
  obtain ⟨oc, od, dV, kV, doc, pm, an, cdv, ct, osl, rfl, lk, hcd, _, _⟩ := F.ex
  refine fn_ofG lk hcd S (fun vs H Q E hs => ?_) fun A outer s H vs Q E hr hg hs => ?_
  · obtain ⟨w', S', ds, _, _, hl, _, hd, _⟩ := hs
    rw [hd.length, hl]
  · obtain ⟨w', S', ds, Qd, Ed, hl, rs, hd, hm, lkQ, lkE⟩ := hs
    obtain ⟨t, ht⟩ := h cdv A outer s H E ⟨hr, hg, takes_fn, rfl⟩ (passes_of rfl)
    refine ⟨t, ht.ps, ht.z.run w' H S' (start N vs) _ _ _ rs (RepE.start N hd) hm ⟨?_, ?_, ?_, ?_, ?_⟩⟩
    · intro w2 H2 S2 σ2 δ2 l r2 _ q
      exact end_lnk rs lkQ w2 H2 S2 _ _ l r2 (cst_non w2) q
    · intro w2 H2 S2 d v l r2 e q
      exact end_lnk rs lkQ w2 H2 S2 _ _ l r2 e q
    · intro w2 H2 S2 σ2 δ2 l r2 _ q
      exact q.elim
    · intro w2 H2 S2 σ2 δ2 l r2 _ q
      exact q.elim
    · intro w2 H2 S2 σ2 δ2 x cls dd l r2 _ rx q
      rcases q with q | ⟨S3, fw, sc, q⟩
      · exact lkE w2 H2 S2 x cls dd l r2 rx q
      · obtain ⟨r3, l3⟩ := RS.fewer rs r2 l fw
        obtain ⟨e1, d, fvs, e2, e3, e4⟩ := rx
        exact lkE _ H2 S3 x cls dd l3 r3 ⟨e1, d, fvs, e2, e3, RepK.cut _ e4 (by rw [rs.n]; exact sc)⟩ q
end
section
variable {X : Cx} {W : WX} {k : Nat} {K : PySem.W.Frag}
theorem Ctx.blk {s : Shared} {H : Hp} {scope : Scope} {cenv : PySem.Env} {fp : List Addr} (c : Ctx X W k) : Ctx (X.blk s H scope cenv fp) W0 k := ⟨c.hr, c.hg, takes0, c.calm⟩
theorem Ctx.u64 (c : Ctx X W k) : X.A.units + 64 < cLine := Nat.lt_of_le_of_lt (by omega) c.hr.un
theorem oz_ipI {f : Int → Int → Int} : OpZ K (ipI f) (intZ0 fun i j => .int (f i j)) := fun w H S x y dx dy Q E QV rs rx ry h lk => by
  unfold intZ0 at h
  split at h
  · cases rep_int rx
    cases rep_int ry
    exact ⟨_, _, rfl, rfl, fin_int rs lk h⟩
  · exact h.elim
/-! ### the operators by short names -/
section
variable {a b : Expr} {ta tb : TE} {fa fb : Env → Wm D} {pos : Pos}
theorem eAdd (ha : EZ X W a ta fa) (hb : EZ X W b tb fb) : EZ X W (.BinOp a .Add b pos) (tOp (rAddA X.K) ta tb) (binZ addZ fa fb) := EZ.op op_addA oz_add ha hb
theorem eSub (ha : EZ X W a ta fa) (hb : EZ X W b tb fb) : EZ X W (.BinOp a .Sub b pos) (tOp (rI0 fun i j => .int (i - j)) ta tb) (binZ subZ fa fb) := EZ.op op_sub (oz_int0 fun _ _ => cst_int _) ha hb
theorem eMul (ha : EZ X W a ta fa) (hb : EZ X W b tb fb) : EZ X W (.BinOp a .Mult b pos) (tOp (rI CMul fun i j => .int (i * j)) ta tb) (binZ mulZ fa fb) := EZ.op op_mul (oz_int fun _ _ => cst_int _) ha hb
theorem eMulS (ha : EZ X W a ta fa) (hb : EZ X W b tb fb) : EZ X W (.BinOp a .Mult b pos) (tOp rMulS ta tb) (binZ mulSZ fa fb) := EZ.op op_mulS oz_mulS ha hb
theorem eRep (ha : EZ X W a ta fa) (hb : EZ X W b tb fb) : EZ X W (.BinOp a .Mult b pos) (tOp rRep ta tb) (binZ repZ fa fb) := EZ.op op_rep oz_rep ha hb
theorem eRepH (ha : EZ X W a ta fa) (hb : EZ X W b tb fb) : EZ X W (.BinOp a .Mult b pos) (tOp rRep ta tb) (binZ repHZ fa fb) := EZ.op op_rep oz_repH ha hb
theorem eFdv (ha : EZ X W a ta fa) (hb : EZ X W b tb fb) : EZ X W (.BinOp a .FloorDiv b pos) (tOp (rI CDiv fun i j => .int (i / j)) ta tb) (binZ fdivZ fa fb) := EZ.op op_fdiv (oz_int fun _ _ => cst_int _) ha hb
theorem eMod (ha : EZ X W a ta fa) (hb : EZ X W b tb fb) : EZ X W (.BinOp a .Mod b pos) (tOp (rI (fun _ j => 0 < j) fun i j => .int (i % j)) ta tb) (binZ modZ fa fb) := EZ.op op_mod (oz_int fun _ _ => cst_int _) ha hb
theorem ePow (ha : EZ X W a ta fa) (hb : EZ X W b tb fb) : EZ X W (.BinOp a .Pow b pos) (tOp (rI CPow fun i j => .int (i ^ j.toNat)) ta tb) (binZ powZ fa fb) := EZ.op op_pow (oz_int fun _ _ => cst_int _) ha hb
theorem eShl (ha : EZ X W a ta fa) (hb : EZ X W b tb fb) : EZ X W (.BinOp a .LShift b pos) (tOp (rI CPow fun i j => .int (i * 2 ^ j.toNat)) ta tb) (binZ shlZ fa fb) := EZ.op op_shl (oz_int fun _ _ => cst_int _) ha hb
theorem eShr (ha : EZ X W a ta fa) (hb : EZ X W b tb fb) : EZ X W (.BinOp a .RShift b pos) (tOp (rI (fun _ j => 0 ≤ j) fun i j => .int (i / 2 ^ j.toNat)) ta tb) (binZ shrZ fa fb) := EZ.op op_shr (oz_int fun _ _ => cst_int _) ha hb
theorem eBand (ha : EZ X W a ta fa) (hb : EZ X W b tb fb) : EZ X W (.BinOp a .BitAnd b pos) (tOp (rI0 fun i j => .int (Builtin.bitAnd i j)) ta tb) (binZ andIZ fa fb) := EZ.op op_and (oz_int0 fun _ _ => cst_int _) ha hb
theorem eBor (ha : EZ X W a ta fa) (hb : EZ X W b tb fb) : EZ X W (.BinOp a .BitOr b pos) (tOp (rI0 fun i j => .int (Builtin.bitOr i j)) ta tb) (binZ orIZ fa fb) := EZ.op op_or (oz_int0 fun _ _ => cst_int _) ha hb
theorem eBxor (ha : EZ X W a ta fa) (hb : EZ X W b tb fb) : EZ X W (.BinOp a .BitXor b pos) (tOp (rI0 fun i j => .int (Builtin.bitXor i j)) ta tb) (binZ xorIZ fa fb) := EZ.op op_xor (oz_int0 fun _ _ => cst_int _) ha hb
theorem eLt (ha : EZ X W a ta fa) (hb : EZ X W b tb fb) (hm : behindInMarks .Lt b = false := by rfl) : EZ X W (.Compare a [.Lt] [b] pos) (tOp (rI0 fun i j => .bl (decide (i < j))) ta tb) (binZ ltZ fa fb) := EZ.cmp op_lt (oz_int0 fun _ _ => cst_bl _) ha hb hm
theorem eLe (ha : EZ X W a ta fa) (hb : EZ X W b tb fb) (hm : behindInMarks .LtE b = false := by rfl) : EZ X W (.Compare a [.LtE] [b] pos) (tOp (rI0 fun i j => .bl (decide (i ≤ j))) ta tb) (binZ leZ fa fb) := EZ.cmp op_le (oz_int0 fun _ _ => cst_bl _) ha hb hm
theorem eGt (ha : EZ X W a ta fa) (hb : EZ X W b tb fb) (hm : behindInMarks .Gt b = false := by rfl) : EZ X W (.Compare a [.Gt] [b] pos) (tOp (rI0 fun i j => .bl (decide (j < i))) ta tb) (binZ gtZ fa fb) := EZ.cmp op_gt (oz_int0 fun _ _ => cst_bl _) ha hb hm
theorem eGe (ha : EZ X W a ta fa) (hb : EZ X W b tb fb) (hm : behindInMarks .GtE b = false := by rfl) : EZ X W (.Compare a [.GtE] [b] pos) (tOp (rI0 fun i j => .bl (decide (j ≤ i))) ta tb) (binZ geZ fa fb) := EZ.cmp op_ge (oz_int0 fun _ _ => cst_bl _) ha hb hm
theorem eEq (c : Ctx X W k) (ha : EZ X W a ta fa) (hb : EZ X W b tb fb) (hm : behindInMarks .Eq b = false := by rfl) : EZ X W (.Compare a [.Eq] [b] pos) (tOp (rEqA X.K) ta tb) (binZ eqZ fa fb) := EZ.cmp (op_eqA c.u64) oz_eq ha hb hm
theorem eNe (c : Ctx X W k) (ha : EZ X W a ta fa) (hb : EZ X W b tb fb) (hm : behindInMarks .NotEq b = false := by rfl) : EZ X W (.Compare a [.NotEq] [b] pos) (tOp (rNeA X.K) ta tb) (binZ neZ fa fb) := EZ.cmp (op_neA c.u64) oz_ne ha hb hm
theorem eIn (ha : EZ X W a ta fa) (hb : EZ X W b tb fb) (hm : behindInMarks .In b = false := by rfl) : EZ X W (.Compare a [.In] [b] pos) (tOp (rInU X.K false) ta tb) (binZ (inZ false) fa fb) := EZ.cmp op_inU (oz_in false) ha hb hm
theorem eNin (ha : EZ X W a ta fa) (hb : EZ X W b tb fb) (hm : behindInMarks .NotIn b = false := by rfl) : EZ X W (.Compare a [.NotIn] [b] pos) (tOp (rInU X.K true) ta tb) (binZ (inZ true) fa fb) := EZ.cmp op_ninU (oz_in true) ha hb hm
theorem eIsBl (ha : EZ X W a ta fa) (hb : EZ X W b tb fb) (hm : behindInMarks .Is b = false := by rfl) : EZ X W (.Compare a [.Is] [b] pos) (tOp (rIsBl id) ta tb) (binZ (isBlZ id) fa fb) := EZ.cmp op_isBl1 oz_isBl ha hb hm
theorem eIsntBl (ha : EZ X W a ta fa) (hb : EZ X W b tb fb) (hm : behindInMarks .IsNot b = false := by rfl) : EZ X W (.Compare a [.IsNot] [b] pos) (tOp (rIsBl not) ta tb) (binZ (isBlZ not) fa fb) := EZ.cmp op_isBl2 oz_isBl ha hb hm
theorem eIsN (ha : EZ X W a ta fa) (hb : EZ X W b tb fb) (hm : behindInMarks .Is b = false := by rfl) : EZ X W (.Compare a [.Is] [b] pos) (tOp rIsN' ta tb) (binZ isNZ fa fb) := EZ.cmp op_isN' oz_isN ha hb hm
theorem eIsntN (ha : EZ X W a ta fa) (hb : EZ X W b tb fb) (hm : behindInMarks .IsNot b = false := by rfl) : EZ X W (.Compare a [.IsNot] [b] pos) (tOp rNotN' ta tb) (binZ isNotNZ fa fb) := EZ.cmp op_notN' oz_isNotN ha hb hm
theorem tLt (ha : EZ X W a ta fa) (hb : EZ X W b tb fb) (hm : behindInMarks .Lt b = false := by rfl) : TZ X W (.Compare a [.Lt] [b] pos) (tTest (tOp (rI0 fun i j => .bl (decide (i < j))) ta tb)) (boolZ (binZ ltZ fa fb)) := TZ.cmp op_lt (oz_int0 fun _ _ => cst_bl _) ha hb hm
theorem tLe (ha : EZ X W a ta fa) (hb : EZ X W b tb fb) (hm : behindInMarks .LtE b = false := by rfl) : TZ X W (.Compare a [.LtE] [b] pos) (tTest (tOp (rI0 fun i j => .bl (decide (i ≤ j))) ta tb)) (boolZ (binZ leZ fa fb)) := TZ.cmp op_le (oz_int0 fun _ _ => cst_bl _) ha hb hm
theorem tGt (ha : EZ X W a ta fa) (hb : EZ X W b tb fb) (hm : behindInMarks .Gt b = false := by rfl) : TZ X W (.Compare a [.Gt] [b] pos) (tTest (tOp (rI0 fun i j => .bl (decide (j < i))) ta tb)) (boolZ (binZ gtZ fa fb)) := TZ.cmp op_gt (oz_int0 fun _ _ => cst_bl _) ha hb hm
theorem tGe (ha : EZ X W a ta fa) (hb : EZ X W b tb fb) (hm : behindInMarks .GtE b = false := by rfl) : TZ X W (.Compare a [.GtE] [b] pos) (tTest (tOp (rI0 fun i j => .bl (decide (j ≤ i))) ta tb)) (boolZ (binZ geZ fa fb)) := TZ.cmp op_ge (oz_int0 fun _ _ => cst_bl _) ha hb hm
theorem tEq (c : Ctx X W k) (ha : EZ X W a ta fa) (hb : EZ X W b tb fb) (hm : behindInMarks .Eq b = false := by rfl) : TZ X W (.Compare a [.Eq] [b] pos) (tTest (tOp (rEqA X.K) ta tb)) (boolZ (binZ eqZ fa fb)) := TZ.cmp (op_eqA c.u64) oz_eq ha hb hm
theorem tNe (c : Ctx X W k) (ha : EZ X W a ta fa) (hb : EZ X W b tb fb) (hm : behindInMarks .NotEq b = false := by rfl) : TZ X W (.Compare a [.NotEq] [b] pos) (tTest (tOp (rNeA X.K) ta tb)) (boolZ (binZ neZ fa fb)) := TZ.cmp (op_neA c.u64) oz_ne ha hb hm
theorem tIn (ha : EZ X W a ta fa) (hb : EZ X W b tb fb) (hm : behindInMarks .In b = false := by rfl) : TZ X W (.Compare a [.In] [b] pos) (tTest (tOp (rInU X.K false) ta tb)) (boolZ (binZ (inZ false) fa fb)) := TZ.cmp op_inU (oz_in false) ha hb hm
theorem tNin (ha : EZ X W a ta fa) (hb : EZ X W b tb fb) (hm : behindInMarks .NotIn b = false := by rfl) : TZ X W (.Compare a [.NotIn] [b] pos) (tTest (tOp (rInU X.K true) ta tb)) (boolZ (binZ (inZ true) fa fb)) := TZ.cmp op_ninU (oz_in true) ha hb hm
theorem tIsBl (ha : EZ X W a ta fa) (hb : EZ X W b tb fb) (hm : behindInMarks .Is b = false := by rfl) : TZ X W (.Compare a [.Is] [b] pos) (tTest (tOp (rIsBl id) ta tb)) (boolZ (binZ (isBlZ id) fa fb)) := TZ.cmp op_isBl1 oz_isBl ha hb hm
theorem tIsntBl (ha : EZ X W a ta fa) (hb : EZ X W b tb fb) (hm : behindInMarks .IsNot b = false := by rfl) : TZ X W (.Compare a [.IsNot] [b] pos) (tTest (tOp (rIsBl not) ta tb)) (boolZ (binZ (isBlZ not) fa fb)) := TZ.cmp op_isBl2 oz_isBl ha hb hm
theorem tIsN (ha : EZ X W a ta fa) (hb : EZ X W b tb fb) (hm : behindInMarks .Is b = false := by rfl) : TZ X W (.Compare a [.Is] [b] pos) (tTest (tOp rIsN' ta tb)) (boolZ (binZ isNZ fa fb)) := TZ.cmp op_isN' oz_isN ha hb hm
theorem tIsntN (ha : EZ X W a ta fa) (hb : EZ X W b tb fb) (hm : behindInMarks .IsNot b = false := by rfl) : TZ X W (.Compare a [.IsNot] [b] pos) (tTest (tOp rNotN' ta tb)) (boolZ (binZ isNotNZ fa fb)) := TZ.cmp op_notN' oz_isNotN ha hb hm
end
/-! ### comprehensions: the parts' readings forgotten, the own slots said first -/
/-- the reading that a mirror gives by itself -/
def canZ {α β : Type} (K : PySem.W.Frag) (W : WX) (R : Wd → α → β → Prop) (f : Env → Wm α) : L2.St → Hp → (β → Hp → Prop) → Prop := fun σ H Q => ∃ w S δ Qd Ed, RS K w H S ∧ RepE K w δ σ ∧ f δ S Qd Ed ∧ Lnk K R w Qd Q ∧ LnkX K w Ed W σ
theorem zq_can {α β : Type} {R : Wd → α → β → Prop} {f : Env → Wm α} : Zq K W R (canZ K W R f) f := ⟨fun w H S σ δ Q E QV r re hf lk lx => ⟨w, S, δ, Q, E, r, re, hf, lk, lx⟩⟩
section
variable {a b c e o i tg iter elt kx vx : Expr} {te ta tb tc tk tv : TE} {fe fk fv : Env → Wm D} {pos : Pos}
theorem EZ.can (h : EZ X W e te fe) : EZ X W e (canZ X.K W (Rep X.K) fe) fe := ⟨⟨fun pins s σ H Q I ⟨w, S, δ, Qd, Ed, r, re, hf, lk, lx⟩ => h.pe.run pins s σ H Q I (h.z.run w H S σ δ Qd Ed Q r re hf lk lx)⟩, zq_can⟩
theorem TsZ.can {ifs : List Expr} {tt : TT} {p : Env → Wm Bool} (h : TsZ X W ifs tt p) : TsZ X W ifs (canZ X.K W RB p) p := ⟨⟨fun pins s σ H Q I ⟨w, S, δ, Qd, Ed, r, re, hf, lk, lx⟩ => h.pe.run pins s σ H Q I (h.z.run w H S σ δ Qd Ed Q r re hf lk lx)⟩, zq_can⟩
theorem gtup {K : PySem.W.Frag} {tgs : List Expr} {gs : TGs} {n k : Nat} {u : Tzs} (hc : X.calm = true) (h : GsZ X W tgs gs n u) (hK : X.K = K := by rfl) (hn : (assignEach tgs X.env).length = n := by rfl) (hst : (assignEach tgs X.env).findIdx? (·.1) = none := by rfl) : GZ X W (.Tuple tgs k pos) (gTup K n gs) (tupT n u) := by
  subst hK
  exact GZ.tup hc h hn hst
theorem lcE (own : List (Str × Nat)) {vs : List Nat} {ifs : List Expr} {scope : Scope} {wi : TI} {src : Src} {gt : TG} {t : Tz} {p : Env → Wm Bool} (hv : own.map (·.2) = vs) (hc : X.calm = true) (hN : X.N.Nodup) (hi : IZ X W tg iter wi src)
    (hg : Blk X scope fun Y => GZ Y W0 tg gt t) (ht : Blk X scope fun Y => ∃ tt, TsZ Y W0 ifs tt p) (he : Blk X scope fun Y => ∃ te, EZ Y W0 elt te fe) (hw : WipeT gt vs) (ok : BlkOk X.N X.env.scope scope own) (hs : ∀ x, foldedSetIterable iter X.env x = pure x := by intro _; rfl) :
    EZ X W (.ListComp elt [⟨tg, iter, ifs, 0⟩] scope pos) (tLc wi gt (canZ X.K W0 RB p) (canZ X.K W0 (Rep X.K) fe) vs) (lcZ src vs t p fe) := by
  subst hv
  exact EZ.lc hc hN hw hi ok hg (fun s H C cl fp => (ht s H C cl fp).elim fun _ h => h.can) (fun s H C cl fp => (he s H C cl fp).elim fun _ h => h.can) hs
theorem dcE (own : List (Str × Nat)) {vs : List Nat} {ifs : List Expr} {scope : Scope} {wi : TI} {src : Src} {gt : TG} {t : Tz} {p : Env → Wm Bool} (hv : own.map (·.2) = vs) (hc : X.calm = true) (hN : X.N.Nodup) (hi : IZ X W tg iter wi src)
    (hg : Blk X scope fun Y => GZ Y W0 tg gt t) (ht : Blk X scope fun Y => ∃ tt, TsZ Y W0 ifs tt p) (hk : Blk X scope fun Y => ∃ te, EZ Y W0 kx te fk) (he : Blk X scope fun Y => ∃ te, EZ Y W0 vx te fv) (hw : WipeT gt vs) (ok : BlkOk X.N X.env.scope scope own) (hs : ∀ x, foldedSetIterable iter X.env x = pure x := by intro _; rfl) :
    EZ X W (.DictComp kx vx [⟨tg, iter, ifs, 0⟩] scope pos) (tDc wi gt (canZ X.K W0 RB p) (canZ X.K W0 (Rep X.K) fk) (canZ X.K W0 (Rep X.K) fv) vs) (dcZ src vs t p fk fv) := by
  subst hv
  exact EZ.dc hc hN hw hi ok hg (fun s H C cl fp => (ht s H C cl fp).elim fun _ h => h.can) (fun s H C cl fp => (hk s H C cl fp).elim fun _ h => h.can) (fun s H C cl fp => (he s H C cl fp).elim fun _ h => h.can) hs
theorem setLcE (i : Nat) (own : List (Str × Nat)) {vs : List Nat} {y : Str} {py spos : Pos} {ifs : List Expr} {scope : Scope} {wi : TI} {src : Src} {gt : TG} {t : Tz} {p : Env → Wm Bool} (hv : own.map (·.2) = vs) (hc : X.calm = true) (hN : X.N.Nodup) (hi : IZ X W tg iter wi src)
    (hg : Blk X scope fun Y => GZ Y W0 tg gt t) (ht : Blk X scope fun Y => ∃ tt, TsZ Y W0 ifs tt p) (he : Blk X scope fun Y => ∃ te, EZ Y W0 elt te fe) (hw : WipeT gt vs) (ok : BlkOk X.N X.env.scope scope own) (hy : X.N[i]? = some y) (hyl : X.env.scope.names.lookup y = some .local)
    (hsw : swapsWith (.ListComp elt [⟨tg, iter, ifs, 0⟩] scope pos) (some (.Name y py)) spos.line X.env = pure true) (hs : ∀ x, foldedSetIterable iter X.env x = pure x := by intro _; rfl) :
    SZ X W (.Assign [.Name y py] (.ListComp elt [⟨tg, iter, ifs, 0⟩] scope pos) spos) (tAsg (tLc wi gt (canZ X.K W0 RB p) (canZ X.K W0 (Rep X.K) fe) vs) (gName i)) (asgG i (lcZ src vs t p fe)) := by
  subst hv
  exact SZ.setLc i hc hN hy hyl hsw hw hi ok hg (fun s H C cl fp => (ht s H C cl fp).elim fun _ h => h.can) (fun s H C cl fp => (he s H C cl fp).elim fun _ h => h.can) hs
end
/-! ### calls, the number of parameters said apart -/
section
variable {n n1 n2 : Nat} {f C : Addr} {fd : FuncData} {ps ks : List Str} {dvs : List V} {ds : List Value} {d0 : List D} {x m : Str} {p pos apos : Pos} {e o : Expr} {es : List Expr} {kws : List Keyword} {ta : TE} {t tk : TA} {g : List Value → List Value → List Value} {gV : List V → List V → List V} {gD : List D → List D → List D} {mZ : Fz} {fa : Env → Wm D} {fs fk : Env → Wm (List D)}
theorem eCall (F : FnZ X.prog X.w X.K X.mg X.base k f fd ps mZ) (c : Ctx X W k) (hg : Gl X x) (hm : X.mg x = some (.ref f)) (hk : PySem.W.keepIn X.K (.ref f) = true) (hb : Binds X.K fd ps ds) (hd : Vals dvs ds) (h0 : CstL X.K d0 dvs)
    (ha : AZ X W (e :: es) t fs) (hn : ps.length = n := by rfl) (hdb : (x == ("__debug__" : Str)) = false := by decide) (he : starEach (e :: es) X.env = (false, eval e X.env) :: starEach es X.env := by rfl) (hpl : (backTo pos (starEach es X.env)).any (·.1) = false := by rfl) :
    EZ X W (.Call (.Name x p) (e :: es) [] pos) (tCallG (spZ X.K n mZ) dvs W t) (callZ n mZ d0 fs) := by
  subst hn
  exact EZ.call F c hg hm hk hb hd h0 ha hdb he hpl
theorem eCall0 (F : FnZ X.prog X.w X.K X.mg X.base k f fd ps mZ) (c : Ctx X W k) (hg : Gl X x) (hm : X.mg x = some (.ref f)) (hk : PySem.W.keepIn X.K (.ref f) = true) (hb : Binds X.K fd ps ds) (hd : Vals dvs ds) (h0 : CstL X.K d0 dvs)
    (hn : ps.length = n := by rfl) (hdb : (x == ("__debug__" : Str)) = false := by decide) : EZ X W (.Call (.Name x p) [] [] pos) (tCallG (spZ X.K n mZ) dvs W tNil) (callZ n mZ d0 nilZ) := by
  subst hn
  exact EZ.call0 F c hg hm hk hb hd h0 hdb
theorem eMeth {pl : Sem Bool} (F : FnZ X.prog X.w X.K X.mg X.base k f fd ps mZ) (c : Ctx X W k) (cl : Cls X.K C) (hm : Meth X.K C m f) (hb : Binds X.K fd ps ds) (hd : Vals dvs ds) (h0 : CstL X.K d0 dvs)
    (ho : EZ X W o ta fa) (ha : AZ X W (e :: es) t fs) (hn : ps.length = n := by rfl) (hst : starEach (e :: es) X.env = (false, eval e X.env) :: starEach es X.env := by rfl) (hpl : (backTo pos (starEach es X.env)).any (·.1) = false := by rfl)
    (ht : eval (.Call (.Attribute o m apos) (e :: es) [] pos) X.env = (do
      let ov ← eval o X.env
      standAt apos.atName
      let (f, first) ← holding [ov] (getMethod ov m pl)
      callWith pos f first (backTo pos (starEach (e :: es) X.env)) (backToKw pos (keywordEach [] X.env))) := by rfl) :
    EZ X W (.Call (.Attribute o m apos) (e :: es) [] pos) (tMethG C m (spZ X.K n mZ) dvs W ta t) (methZ C m n mZ d0 fa fs) := by
  subst hn
  exact EZ.meth F c cl hm hb hd h0 ho ha hst hpl ht
theorem eMeth0 {pl : Sem Bool} (F : FnZ X.prog X.w X.K X.mg X.base k f fd ps mZ) (c : Ctx X W k) (cl : Cls X.K C) (hm : Meth X.K C m f) (hb : Binds X.K fd ps ds) (hd : Vals dvs ds) (h0 : CstL X.K d0 dvs)
    (ho : EZ X W o ta fa) (hn : ps.length = n := by rfl) (ht : eval (.Call (.Attribute o m apos) [] [] pos) X.env = (do
      let ov ← eval o X.env
      standAt apos.atName
      let (f, first) ← holding [ov] (getMethod ov m pl)
      callWith pos f first (backTo pos (starEach [] X.env)) (backToKw pos (keywordEach [] X.env))) := by rfl) :
    EZ X W (.Call (.Attribute o m apos) [] [] pos) (tMethG C m (spZ X.K n mZ) dvs W ta tNil) (methZ C m n mZ d0 fa nilZ) := by
  subst hn
  exact EZ.meth0 F c cl hm hb hd h0 ho ht
theorem eMake (M : Mk X.K C f) (F : FnZ X.prog X.w X.K X.mg X.base k f fd ps mZ) (c : Ctx X W (k + 1)) (hg : Gl X x) (hm : X.mg x = some (.ref C)) (hb : Binds X.K fd ps ds) (hd : Vals dvs ds) (h0 : CstL X.K d0 dvs)
    (ha : AZ X W (e :: es) t fs) (hn : ps.length = n := by rfl) (hdb : (x == ("__debug__" : Str)) = false := by decide) (he : starEach (e :: es) X.env = (false, eval e X.env) :: starEach es X.env := by rfl) (hpl : (backTo pos (starEach es X.env)).any (·.1) = false := by rfl) :
    EZ X W (.Call (.Name x p) (e :: es) [] pos) (tMakeG C (spZ X.K n mZ) dvs W t) (makeZ C n mZ d0 fs) := by
  subst hn
  exact EZ.make M F c hg hm hb hd h0 ha hdb he hpl
theorem eMake0 (M : Mk X.K C f) (F : FnZ X.prog X.w X.K X.mg X.base k f fd ps mZ) (c : Ctx X W (k + 1)) (hg : Gl X x) (hm : X.mg x = some (.ref C)) (hb : Binds X.K fd ps ds) (hd : Vals dvs ds) (h0 : CstL X.K d0 dvs)
    (hn : ps.length = n := by rfl) (hdb : (x == ("__debug__" : Str)) = false := by decide) : EZ X W (.Call (.Name x p) [] [] pos) (tMakeG C (spZ X.K n mZ) dvs W tNil) (makeZ C n mZ d0 nilZ) := by
  subst hn
  exact EZ.make0 M F c hg hm hb hd h0 hdb
theorem eMakeN (M : Mk X.K C f) (F : FnZ X.prog X.w X.K X.mg X.base k f fd ps mZ) (c : Ctx X W (k + 1)) (hg : Gl X x) (hm : X.mg x = some (.ref C)) (hb : KBn X.K fd ps (n1 + 1) ks g gV) (h0 : RelG X.K gD gV)
    (hset : ∀ (a : Value) (us ws : List Value), g (a :: us) ws = (g (.none :: us) ws).set 0 a) (hsetV : ∀ (a : V) (us ws : List V), gV (a :: us) ws = (gV (.non :: us) ws).set 0 a) (ha : AZ X W (e :: es) t fs) (hkw : KZ X W kws tk fk) (hn : ps.length = n := by rfl) (hn2 : ks.length = n2 := by rfl)
    (hall : (backToKw pos (keywordEach kws X.env)).all (·.1.isSome) = true := by rfl) (hks : (backToKw pos (keywordEach kws X.env)).filterMap (·.1) = ks := by rfl) (hdb : (x == ("__debug__" : Str)) = false := by decide)
    (he : starEach (e :: es) X.env = (false, eval e X.env) :: starEach es X.env := by rfl) (hpl : ((backTo pos (starEach (e :: es) X.env)).any (·.1) || (backToKw pos (keywordEach kws X.env)).any (·.1.isNone)) = false := by rfl) :
    EZ X W (.Call (.Name x p) (e :: es) kws pos) (tMakeGN C n1 n2 (spZ X.K n mZ) gV W t tk) (makeNZ C n1 n2 n mZ gD fs fk) := by
  subst hn hn2
  exact EZ.makeN M F c hg hm hb h0 hset hsetV ha hkw hall hks hdb he hpl
end
/-! ### keywords by places -/
def kwV (is : List Nat) (vs zs : List V) : List V := vs ++ is.map fun i => zs.getD i .non
def kwU (is : List Nat) (us ws : List Value) : List Value := us ++ is.map fun i => ws.getD i .none
def kwD (is : List Nat) (ds es : List D) : List D := ds ++ is.map fun i => es.getD i .non
theorem kwD_rel (is : List Nat) : RelG K (kwD is) (kwV is) := fun w ds vs es zs h1 h2 => by
  refine h1.append ?_
  induction is with
  | nil => exact .nil
  | cons i r ih =>
    refine .cons ?_ ih
    show Rep K w (es.getD i .non) (zs.getD i .non)
    rw [List.getD_eq_getElem?_getD, List.getD_eq_getElem?_getD]
    cases he : es[i]? with
    | none =>
      have : zs[i]? = none := by
        rw [List.getElem?_eq_none_iff] at he ⊢
        rw [h2.length]; exact he
      rw [this]
      exact cst_non w
    | some d =>
      obtain ⟨v, e1, e2⟩ := h2.get he
      rw [e1]
      exact e2
theorem kwU_rel (is : List Nat) {vs : List V} {us : List Value} {zs : List V} {ws : List Value} (h1 : Vals vs us) (h2 : Vals zs ws) : Vals (kwV is vs zs) (kwU is us ws) := by
  refine h1.append ?_
  induction is with
  | nil => exact .nil
  | cons i r ih =>
    refine .cons ?_ ih
    show RelV (zs.getD i .non) (ws.getD i .none)
    rw [List.getD_eq_getElem?_getD, List.getD_eq_getElem?_getD]
    cases he : zs[i]? with
    | none =>
      have : ws[i]? = none := by
        rw [List.getElem?_eq_none_iff] at he ⊢
        rw [← h2.length]; exact he
      rw [this]
      exact rfl
    | some d =>
      obtain ⟨v, e1, e2⟩ := h2.get he
      rw [e1]
      exact e2
end
end Z
/-! ZPlain: plain rules over the mirrors: loops, comprehensions, freezing; values without handles. -/
namespace Z
open PySem L2
theorem at_app {S T : Store} {n : Nat} {c : C} (h : S[n]? = some c) : (S ++ T)[n]? = some c := by
  rw [List.getElem?_append_left (List.getElem?_eq_some_iff.mp h).1]; exact h
theorem at_new (S : Store) (c : C) : (S ++ [c])[S.length]? = some c := by simp
theorem set_new (S : Store) (c c' : C) : (S ++ [c]).set S.length c' = S ++ [c'] := by simp
theorem set_app {S T : Store} {n : Nat} {c : C} (h : n < S.length) : (S ++ T).set n c = S.set n c ++ T := List.set_append_left _ _ h
theorem set_back {S : Store} {n : Nat} {c c' : C} (h : S[n]? = some c) : (S.set n c').set n c = S := by
  rw [List.set_set]
  apply List.ext_getElem?
  intro i
  by_cases hi : n = i
  · subst hi
    rw [List.getElem?_set_self (List.getElem?_eq_some_iff.mp h).1, h]
  · rw [List.getElem?_set_ne hi]
theorem eqZ_int (i j : Int) (S : Store) (Q : D → Store → Prop) (E : XD → Store → Prop) : eqZ (.int i) (.int j) S Q E = Q (.bl (decide (i = j))) S := rfl
theorem eqZ_str (i j : Str) (S : Store) (Q : D → Store → Prop) (E : XD → Store → Prop) : eqZ (.str i) (.str j) S Q E = Q (.bl (decide (i = j))) S := rfl
theorem eqZ_bl (i j : Bool) (S : Store) (Q : D → Store → Prop) (E : XD → Store → Prop) : eqZ (.bl i) (.bl j) S Q E = Q (.bl (decide (i = j))) S := rfl
theorem neZ_int (i j : Int) (S : Store) (Q : D → Store → Prop) (E : XD → Store → Prop) : neZ (.int i) (.int j) S Q E = Q (.bl (!decide (i = j))) S := rfl
theorem neZ_str (i j : Str) (S : Store) (Q : D → Store → Prop) (E : XD → Store → Prop) : neZ (.str i) (.str j) S Q E = Q (.bl (!decide (i = j))) S := rfl
theorem neZ_bl (i j : Bool) (S : Store) (Q : D → Store → Prop) (E : XD → Store → Prop) : neZ (.bl i) (.bl j) S Q E = Q (.bl (!decide (i = j))) S := rfl
theorem lstOf_new (S : Store) (l : List D) : lstOf (S ++ [.lst l]) (.hnd S.length) = some l := by simp [lstOf]
theorem tyL_new (S : Store) (l : List D) : tyL (.hnd S.length) (S ++ [.lst l]) := ⟨l, lstOf_new S l⟩
theorem lstOf_at {S : Store} {n : Nat} {l : List D} (h : S[n]? = some (.lst l)) : lstOf S (.hnd n) = some l := by simp only [lstOf, h]
theorem seqOf_at {S : Store} {n : Nat} {l : List D} (h : S[n]? = some (.lst l)) : seqOf S (.hnd n) = some l := by simp only [seqOf, h]
theorem filterMap_if {α β : Type} (p : α → Bool) (g : α → β) : ∀ l : List α, l.filterMap (fun x => if p x = true then some (g x) else none) = (l.filter p).map g
  | [] => rfl
  | x :: l => by
    cases h : p x with
    | true => rw [List.filterMap_cons_some (b := g x) (by simp [h]), List.filter_cons_of_pos h, List.map_cons, filterMap_if p g l]
    | false => rw [List.filterMap_cons_none (by simp [h]), List.filter_cons_of_neg (by simp [h]), filterMap_if p g l]
theorem filterMap_all {α β : Type} (g : α → β) : ∀ l : List α, l.filterMap (fun x => some (g x)) = l.map g
  | [] => rfl
  | x :: l => by
    show g x :: l.filterMap (fun x => some (g x)) = _
    rw [filterMap_all g l]
    rfl
theorem enumD_range (n : Nat) (f : Nat → D) : enumD ((List.range n).map f) = (List.range n).map fun i => .tup [.int (i : Nat), f i] := by
  apply List.ext_getElem?
  intro i
  unfold enumD
  rw [List.getElem?_zipWith, List.length_map, List.length_range, List.getElem?_map, List.getElem?_map]
  by_cases h : i < n
  · rw [List.getElem?_range h]; rfl
  · rw [List.getElem?_eq_none (by simpa using h)]; rfl
/-! ### values without handles -/
def Fl (d : D) : Prop := ∀ n, d.sc n
theorem Fl.int (i : Int) : Fl (.int i) := fun _ => trivial
theorem Fl.str (i : Str) : Fl (.str i) := fun _ => trivial
theorem Fl.bl (i : Bool) : Fl (.bl i) := fun _ => trivial
theorem Fl.non : Fl .non := fun _ => trivial
theorem scL_of {n : Nat} {l : List D} (h : ∀ d ∈ l, Fl d) : scL n l := scL_iff.mpr fun d hd => h d hd n
theorem scK_of {n : Nat} {l : List (Key × D)} (h : ∀ p ∈ l, Fl p.2) : scK n l := scK_iff.mpr fun d hd => h d hd n
theorem Fl.lst {l : List D} (h : ∀ d ∈ l, Fl d) : Fl (.lst l) := fun _ => scL_of h
theorem Fl.tup {l : List D} (h : ∀ d ∈ l, Fl d) : Fl (.tup l) := fun _ => scL_of h
theorem Fl.dic {l : List (Key × D)} (h : ∀ d ∈ l, Fl d.2) : Fl (.dic l) := fun _ => scK_of h
theorem Fl.ins {C : Addr} {l : List (Key × D)} (h : ∀ d ∈ l, Fl d.2) : Fl (.ins C l) := fun _ => scK_of h
theorem Fl.strs (l : List Str) : ∀ d ∈ l.map D.str, Fl d := fun d hd => by
  obtain ⟨x, _, rfl⟩ := List.mem_map.mp hd
  exact Fl.str x
theorem Fl.ints (l : List Int) : ∀ d ∈ l.map D.int, Fl d := fun d hd => by
  obtain ⟨x, _, rfl⟩ := List.mem_map.mp hd
  exact Fl.int x
theorem Fl.map {α : Type} {l : List α} {f : α → D} (h : ∀ x, Fl (f x)) : ∀ d ∈ l.map f, Fl d := fun d hd => by
  obtain ⟨x, _, rfl⟩ := List.mem_map.mp hd
  exact h x
/-! ### one statement behind another, by what holds between -/
theorem seq_with {g k : Gm} {Z : Endz} {δ : Env} {S : Store} (P : Env → Store → Prop) (hk : ∀ δ' S', P δ' S' → k Z δ' S') (hg : ∀ K : Env → Store → Prop, (∀ δ' S', P δ' S' → K δ' S') → g { Z with nx := K } δ S) : seqG g k Z δ S := hg _ hk
theorem getZ_hnd {T : Store} {n : Nat} {l : List D} {i : Int} {d : D} (hT : T[n]? = some (.lst l)) (h : atI l i = some d) (Q : D → Store → Prop) (E : XD → Store → Prop) : getZ (.hnd n) (.int i) T Q E = Q d T := by
  apply propext
  constructor
  · rintro ⟨l', d', h1, h2, q⟩
    rw [seqOf_at hT] at h1
    cases h1
    rw [h] at h2
    cases h2
    exact q
  · exact fun q => ⟨l, d, seqOf_at hT, h, q⟩
theorem getZ_lst {T : Store} {l : List D} {i : Int} {d : D} (h : atI l i = some d) (Q : D → Store → Prop) (E : XD → Store → Prop) : getZ (.lst l) (.int i) T Q E = Q d T := by
  apply propext
  constructor
  · rintro ⟨l', d', h1, h2, q⟩
    cases h1
    rw [h] at h2
    cases h2
    exact q
  · exact fun q => ⟨l, d, rfl, h, q⟩
/-! ### loops -/
theorem loop_ind {G : Store → Prop} {t : Tz} {g : Gm} {Z : Endz} (P : List D → Env → Store → Prop) (hn : ∀ δ S, P [] δ S → G S ∧ Z.nx δ S)
    (hc : ∀ x r δ S (k : Env → Store → Prop), P (x :: r) δ S → (∀ δ' S', P r δ' S' → k δ' S') → G S ∧ t x δ S (fun δ1 S1 => g { Z with nx := k, ct := k, bk := Z.nx } δ1 S1) Z.xe) : ∀ xs δ S, P xs δ S → loopZ G t g Z xs δ S
  | [], δ, S, h => by
    unfold loopZ
    exact hn δ S h
  | x :: r, δ, S, h => by
    unfold loopZ
    exact hc x r δ S _ h (loop_ind P hn hc r)
/-- by places -/
theorem loop_at {G : Store → Prop} {t : Tz} {g : Gm} {Z : Endz} (xs : List D) (P : Nat → Env → Store → Prop) {δ : Env} {S : Store} (h0 : P 0 δ S) (hn : ∀ δ S, P xs.length δ S → G S ∧ Z.nx δ S)
    (hc : ∀ i x δ S (k : Env → Store → Prop), xs[i]? = some x → P i δ S → (∀ δ' S', P (i + 1) δ' S' → k δ' S') → G S ∧ t x δ S (fun δ1 S1 => g { Z with nx := k, ct := k, bk := Z.nx } δ1 S1) Z.xe) : loopZ G t g Z xs δ S := by
  refine loop_ind (fun r δ S => ∃ i, r = xs.drop i ∧ i ≤ xs.length ∧ P i δ S) (fun δ S h => ?_) (fun x r δ S k h hk => ?_) xs δ S ⟨0, rfl, Nat.zero_le _, h0⟩
  · obtain ⟨i, h1, h2, h3⟩ := h
    have : i = xs.length := by
      have := List.drop_eq_nil_iff.mp h1.symm
      omega
    subst this
    exact hn δ S h3
  · obtain ⟨i, h1, h2, h3⟩ := h
    have hlt : i < xs.length := by
      apply Nat.lt_of_not_le
      intro hle
      rw [List.drop_eq_nil_of_le hle] at h1
      cases h1
    rw [List.drop_eq_getElem_cons hlt] at h1
    cases h1
    exact hc i _ δ S k (List.getElem?_eq_getElem hlt) h3 fun δ' S' h => hk δ' S' ⟨i + 1, rfl, hlt, h⟩
theorem lc_ind {G : Store → Prop} {t : Tz} {p : Env → Wm Bool} {fe : Env → Wm D} {δ0 : Env} {n : Nat} {Q : Store → Prop} (xs : List D) (P : Nat → Store → Prop) {S : Store} (h0 : P 0 S) (hn : ∀ S, P xs.length S → G S ∧ Q S)
    (hc : ∀ i x S (k : Store → Prop), xs[i]? = some x → P i S → (∀ S', P (i + 1) S' → k S') → G S ∧ t x δ0 S (fun δ1 S1 => p δ1 S1 (fun b S2 => if b = true then fe δ1 S2 (fun y S3 => ∃ l, S3[n]? = some (.lst l) ∧ l.length < 100000 ∧ k (S3.set n (.lst (l ++ [y])))) noE else k S2) noE) noEE) : lcGo G t p fe δ0 n Q xs S := by
  suffices h : ∀ r i, r = xs.drop i → i ≤ xs.length → ∀ S, P i S → lcGo G t p fe δ0 n Q r S from h xs 0 rfl (Nat.zero_le _) S h0
  intro r
  induction r with
  | nil =>
    intro i h1 h2 S h3
    have : i = xs.length := by
      have := List.drop_eq_nil_iff.mp h1.symm
      omega
    subst this
    exact hn S h3
  | cons x r ih =>
    intro i h1 h2 S h3
    have hlt : i < xs.length := by
      apply Nat.lt_of_not_le
      intro hle
      rw [List.drop_eq_nil_of_le hle] at h1
      cases h1
    rw [List.drop_eq_getElem_cons hlt] at h1
    cases h1
    exact hc i _ S _ (List.getElem?_eq_getElem hlt) h3 fun S' h => ih (i + 1) rfl hlt S' h
/-- a comprehension that writes nothing else -/
theorem lc_pure {G : Store → Prop} {t : Tz} {p : Env → Wm Bool} {fe : Env → Wm D} {δ0 : Env} {S0 : Store} {Q : Store → Prop} {xs : List D} (f : D → Option D) (hl : xs.length < 100000) (hG : ∀ l, G (S0 ++ [.lst l]))
    (hs : ∀ x ∈ xs, ∀ (l : List D) (k : D → Store → Prop) (k' : Store → Prop), (∀ y, f x = some y → k y (S0 ++ [.lst l])) → (f x = none → k' (S0 ++ [.lst l])) → t x δ0 (S0 ++ [.lst l]) (fun δ1 S1 => p δ1 S1 (fun b S2 => if b = true then fe δ1 S2 k noE else k' S2) noE) noEE) (hQ : Q (S0 ++ [.lst (xs.filterMap f)])) : lcGo G t p fe δ0 S0.length Q xs (S0 ++ [.lst []]) := by
  refine lc_ind xs (fun i S => S = S0 ++ [.lst ((xs.take i).filterMap f)]) (by simp) (fun S h => ?_) (fun i x S k hx h hk => ?_)
  · subst h
    rw [List.take_length]
    exact ⟨hG _, hQ⟩
  · subst h
    have hi : i < xs.length := (List.getElem?_eq_some_iff.mp hx).1
    have ht : xs.take (i + 1) = xs.take i ++ [x] := by rw [List.take_succ, hx]; rfl
    refine ⟨hG _, hs x (List.mem_of_getElem? hx) _ _ _ (fun y hy => ?_) (fun hy => ?_)⟩
    · refine ⟨_, at_new _ _, ?_, hk _ ?_⟩
      · have := List.length_filterMap_le f (xs.take i)
        have h2 : (xs.take i).length ≤ xs.length := by simp; omega
        omega
      · rw [set_new, ht, List.filterMap_append]
        simp [hy]
    · refine hk _ ?_
      rw [ht, List.filterMap_append]
      simp [hy]
theorem dc_ind {G : Store → Prop} {t : Tz} {p : Env → Wm Bool} {fk fv : Env → Wm D} {δ0 : Env} {n : Nat} {Q : Store → Prop} (xs : List D) (P : Nat → Store → Prop) {S : Store} (h0 : P 0 S) (hn : ∀ S, P xs.length S → G S ∧ Q S)
    (hc : ∀ i x S (k : Store → Prop), xs[i]? = some x → P i S → (∀ S', P (i + 1) S' → k S') → G S ∧ t x δ0 S (fun δ1 S1 => p δ1 S1 (fun b S2 => if b = true then fk δ1 S2 (fun y S3 => fv δ1 S3 (fun z S4 => ∃ l kk, keyD y = some kk ∧ S4[n]? = some (.dic l) ∧ l.length < 100000 ∧ k (S4.set n (.dic (putD l kk z)))) noE) noE else k S2) noE) noEE) : dcGo G t p fk fv δ0 n Q xs S := by
  suffices h : ∀ r i, r = xs.drop i → i ≤ xs.length → ∀ S, P i S → dcGo G t p fk fv δ0 n Q r S from h xs 0 rfl (Nat.zero_le _) S h0
  intro r
  induction r with
  | nil =>
    intro i h1 h2 S h3
    have : i = xs.length := by
      have := List.drop_eq_nil_iff.mp h1.symm
      omega
    subst this
    exact hn S h3
  | cons x r ih =>
    intro i h1 h2 S h3
    have hlt : i < xs.length := by
      apply Nat.lt_of_not_le
      intro hle
      rw [List.drop_eq_nil_of_le hle] at h1
      cases h1
    rw [List.drop_eq_getElem_cons hlt] at h1
    cases h1
    exact hc i _ S _ (List.getElem?_eq_getElem hlt) h3 fun S' h => ih (i + 1) rfl hlt S' h
/-- what a comprehension made, frozen at once -/
theorem frz_last {S0 : Store} {Q : D → Store → Prop} {c : C} {d : D} (hf : c.frz = some d) (hs : d.sc S0.length) (h : Q d S0) : frzQ S0 Q (.hnd S0.length) (S0 ++ [c]) := by
  refine ⟨c, d, S0, at_new _ _, hf, ⟨rfl, by simp, fun n c' e => .inr ⟨?_, .inl e⟩⟩, hs, h⟩
  rw [set_new]
  exact at_app e
theorem frz_lst {S0 : Store} {Q : D → Store → Prop} {l : List D} (hs : ∀ d ∈ l, Fl d) (h : Q (.lst l) S0) : frzQ S0 Q (.hnd S0.length) (S0 ++ [.lst l]) := frz_last rfl (scL_of hs) h
theorem frz_dic {S0 : Store} {Q : D → Store → Prop} {l : List (Key × D)} (hs : ∀ d ∈ l, Fl d.2) (h : Q (.dic l) S0) : frzQ S0 Q (.hnd S0.length) (S0 ++ [.dic l]) := frz_last rfl (scK_of hs) h
theorem frz_ins {S0 : Store} {Q : D → Store → Prop} {C : Addr} {l : List (Key × D)} (hs : ∀ d ∈ l, Fl d.2) (h : Q (.ins C l) S0) : frzQ S0 Q (.hnd S0.length) (S0 ++ [.ins C l]) := frz_last rfl (scK_of hs) h
/-- a while loop by a measure -/
theorem while_m {p : Env → Wm Bool} {g : Gm} {Z : Endz} (P : Nat → Env → Store → Prop)
    (hs : ∀ m δ S (k : Env → Store → Prop), P m δ S → (∀ δ' S', (∃ m', m = m' + 1 ∧ P m' δ' S') → k δ' S') → p δ S (fun b S1 => if b = true then g { Z with nx := k, ct := k, bk := Z.nx } δ S1 else Z.nx δ S1) (Z.xe δ)) : ∀ m δ S, P m δ S → whileG p g Z δ S := by
  intro m δ S h
  refine ⟨m + 1, ?_⟩
  induction m generalizing δ S with
  | zero =>
    unfold whileZ
    exact hs 0 δ S _ h fun δ' S' ⟨m', e, _⟩ => by cases e
  | succ m ih =>
    unfold whileZ
    refine hs (m + 1) δ S _ h fun δ' S' ⟨m', e, h'⟩ => ?_
    cases e
    exact ih δ' S' h'
end Z
/-! ZData: data in deep values, its ==, its repr's length. -/
namespace Z
open PySem L2
theorem isPs_map {α : Type} (S : Store) (f : α → PyData) (g : α → D) : ∀ l : List α, (∀ x ∈ l, IsP S (f x) (g x)) → IsPs S (l.map f) (l.map g)
  | [], _ => by simp only [List.map_nil, IsPs]
  | x :: l, h => by
    simp only [List.map_cons, IsPs]
    exact ⟨_, _, rfl, h x (List.mem_cons_self ..), isPs_map S f g l fun y hy => h y (List.mem_cons_of_mem _ hy)⟩
theorem isP_str (S : Store) (x : Str) : IsP S (.str x) (.str x) := by simp only [IsP]
theorem isP_int (S : Store) (x : Int) : IsP S (.int x) (.int x) := by simp only [IsP]
theorem isP_bl (S : Store) (x : Bool) : IsP S (.bool x) (.bl x) := by simp only [IsP]
theorem isP_lst {S : Store} {l : List PyData} {m : List D} (h : IsPs S l m) : IsP S (.list l) (.lst m) := by
  simp only [IsP]
  exact ⟨m, rfl, h⟩
theorem isP_tup {S : Store} {l : List PyData} {m : List D} (h : IsPs S l m) : IsP S (.tuple l) (.tup m) := by
  simp only [IsP]
  exact ⟨m, rfl, h⟩
theorem isP_hnd {S : Store} {l : List PyData} {m : List D} {n : Nat} (e : S[n]? = some (.lst m)) (h : IsPs S l m) : IsP S (.list l) (.hnd n) := by
  simp only [IsP]
  exact ⟨m, lstOf_at e, h⟩
theorem isPs_nil (S : Store) : IsPs S [] [] := by simp only [IsPs]
theorem isPs_cons {S : Store} {p : PyData} {d : D} {l : List PyData} {m : List D} (h : IsP S p d) (r : IsPs S l m) : IsPs S (p :: l) (d :: m) := by
  simp only [IsPs]
  exact ⟨d, m, rfl, h, r⟩
theorem isPs_strs (S : Store) (l : List Str) : IsPs S (l.map .str) (l.map .str) := isPs_map S _ _ l fun x _ => isP_str S x
theorem isPs_ints (S : Store) (l : List Int) : IsPs S (l.map .int) (l.map .int) := isPs_map S _ _ l fun x _ => isP_int S x
/-! == -/
theorem eqv_strs : ∀ l m : List Str, PyData.eqvAll (l.map .str) (m.map .str) = decide (l = m)
  | [], [] => rfl
  | [], _ :: _ => by simp [PyData.eqvAll]
  | _ :: _, [] => by simp [PyData.eqvAll]
  | x :: l, y :: m => by
    rw [List.map_cons, List.map_cons, PyData.eqvAll, PyData.eqv, eqv_strs l m]
    by_cases h1 : x = y
    · subst h1
      by_cases h2 : l = m
      · simp [h2]
      · simp [h2]
    · simp [h1]
theorem eqv_ints : ∀ l m : List Int, PyData.eqvAll (l.map .int) (m.map .int) = decide (l = m)
  | [], [] => rfl
  | [], _ :: _ => by simp [PyData.eqvAll]
  | _ :: _, [] => by simp [PyData.eqvAll]
  | x :: l, y :: m => by
    rw [List.map_cons, List.map_cons, PyData.eqvAll, PyData.eqv, eqv_ints l m]
    by_cases h1 : x = y
    · subst h1
      by_cases h2 : l = m
      · simp [h2]
      · simp [h2]
    · simp [h1]
/-! nice data: what is short, flat, of plain signs -/
structure Nc (d : PyData) (k w : Nat) : Prop where
  lay : d.canLay0 = true
  ish : d.intsShort 13 = true
  sho : d.showable = true
  dep : d.depth ≤ k
  wei : d.weight ≤ w
theorem Nc.shaped {d : PyData} {k w : Nat} (h : Nc d k w) (hk : k ≤ 64) : SeqAt.shaped d = true := by
  unfold SeqAt.shaped
  rw [h.lay, decide_eq_true (Nat.le_trans h.dep hk)]
  rfl
theorem Nc.len {d : PyData} {k w : Nat} (h : Nc d k w) (hk : k ≤ 50) (hw : w ≤ 1000000) : (PyData.shown d).length ≤ 16777216 := by
  have : PyData.layable0 d = true := by
    unfold PyData.layable0
    rw [h.lay, decide_eq_true (show d.depth ≤ 64 from Nat.le_trans h.dep (by omega)), decide_eq_true (show d.weight ≤ 2 ^ 20 from Nat.le_trans h.wei (by omega))]
    rfl
  exact Nat.le_trans (PyProof.Rows.shown_le13 this h.ish) (by decide)
theorem Nc.eqv {d : PyData} {k w : Nat} (h : Nc d k w) : PyData.eqv d d = true := SeqAt.eqv_refl d h.lay
theorem Nc.str {x : Str} (h : ∀ c ∈ x.cps.toList, c < 0x110000) : Nc (.str x) 0 x.length := ⟨by
  show PyData.strOk x = true
  unfold PyData.strOk
  rw [Array.all_eq_true']
  intro c hc
  exact decide_eq_true (h c (by simpa using hc)), rfl, rfl, Nat.le_refl _, Nat.le_refl _⟩
theorem Nc.bl (b : Bool) : Nc (.bool b) 0 0 := ⟨rfl, rfl, rfl, Nat.le_refl _, Nat.le_refl _⟩
theorem Nc.int {i : Int} (h0 : 0 ≤ i) (h : i < 10 ^ 10) : Nc (.int i) 0 40 := by
  refine ⟨rfl, ?_, ?_, Nat.le_refl _, ?_⟩
  · show decide ((PyData.shown (.int i)).length ≤ 13) = true
    refine decide_eq_true (Nat.le_trans ?_ (by decide : 10 ≤ 13))
    exact PyProof.Rows.toString_length_le h0 (by decide) h
  · show decide (i.natAbs.log2 < 1920) = true
    refine decide_eq_true (Nat.lt_of_le_of_lt (?_ : i.natAbs.log2 ≤ 40) (by decide))
    by_cases hz : i.natAbs = 0
    · rw [hz]; decide
    · exact Nat.le_of_lt_succ ((Nat.log2_lt hz).mpr (by omega))
  · show (if (i == 0) = true then 0 else i.natAbs.log2 + 1) ≤ 40
    split
    · omega
    · by_cases hz : i.natAbs = 0
      · rw [hz]; decide
      · have := (Nat.log2_lt (k := 39) hz).mpr (by omega)
        omega
theorem Nc.mono {d : PyData} {k w k' w' : Nat} (h : Nc d k w) (hk : k ≤ k') (hw : w ≤ w') : Nc d k' w' := ⟨h.lay, h.ish, h.sho, Nat.le_trans h.dep hk, Nat.le_trans h.wei hw⟩
theorem nc_all {k w : Nat} : ∀ {l : List PyData}, (∀ d ∈ l, Nc d k w) → PyData.canLayAll0 l = true ∧ PyData.intsShortAll 13 l = true ∧ PyData.showableAll l = true ∧ PyData.depthAll l ≤ k ∧ PyData.weightAll l ≤ l.length * (w + 1)
  | [], _ => ⟨rfl, rfl, rfl, Nat.zero_le _, by simp [PyData.weightAll]⟩
  | x :: l, h => by
    have hx := h x (List.mem_cons_self ..)
    obtain ⟨h1, h2, h3, h4, h5⟩ := nc_all (l := l) fun d hd => h d (List.mem_cons_of_mem _ hd)
    refine ⟨?_, ?_, ?_, ?_, ?_⟩
    · rw [PyData.canLayAll0, hx.lay, h1]; rfl
    · rw [PyData.intsShortAll, hx.ish, h2]; rfl
    · rw [PyData.showableAll, hx.sho, h3]; rfl
    · rw [PyData.depthAll]; exact Nat.max_le.mpr ⟨hx.dep, h4⟩
    · rw [PyData.weightAll, List.length_cons, Nat.succ_mul]
      have := hx.wei
      omega
theorem Nc.list {k w n : Nat} {l : List PyData} (h : ∀ d ∈ l, Nc d k w) (hn : l.length ≤ n) : Nc (.list l) (k + 1) (n * (w + 1)) := by
  obtain ⟨h1, h2, h3, h4, h5⟩ := nc_all h
  exact ⟨h1, h2, h3, Nat.succ_le_succ h4, Nat.le_trans h5 (Nat.mul_le_mul_right _ hn)⟩
theorem Nc.tuple {k w n : Nat} {l : List PyData} (h : ∀ d ∈ l, Nc d k w) (hn : l.length ≤ n) : Nc (.tuple l) (k + 1) (n * (w + 1)) := by
  obtain ⟨h1, h2, h3, h4, h5⟩ := nc_all h
  exact ⟨h1, h2, h3, Nat.succ_le_succ h4, Nat.le_trans h5 (Nat.mul_le_mul_right _ hn)⟩
end Z
/-! ZEnd: a law's end: its def's promise on deep values, at the caller's own context. -/
namespace Z
open PySem L2 PySem.Spec PyProof.Rows
/-- the heap as the promise sees it: the script alone, unless the module holds it -/
structure Scr (P : Program) (w : World) (K : PySem.W.Frag) (a : Addr) (ns : List Int) (h : Heap) (H : Hp) : Prop where
  sq : SqL K H a (ns.map V.int)
  ok : HOk P w H h
  at_ : ∀ b u, H b = some u → b = a ∧ K.lookup b = none ∧ ∃ o xs, u = .frz o (.lst xs)
theorem scr_of {P : Program} {w : World} {K : PySem.W.Frag} {a : Addr} {ns : List Int} {vs : List Value} {h : Heap} (KX : K.In h) (ha : h.get? a = some { cls := .type "list", data := .seq vs.toArray }) (hi : IntsAre vs ns) (hl : ns.length ≤ sizeLine) : ∃ H, Scr P w K a ns h H := by
  have rv := vals_ints hi
  have lv := hi.length
  cases hk : K.lookup a with
  | some o =>
    have e := (KX a o hk).symm.trans ha
    cases e
    exact ⟨fun _ => none, .inr ⟨_, vs.toArray, _, hk, rfl, rfl, rfl, by simpa [lv] using hl, by simpa using rv⟩, fun b u z => (nomatch z), fun b u z => (nomatch z)⟩
  | none =>
    have only : ∀ b u, (if b = a then some (HO.frz { cls := .type "list", data := .seq vs.toArray } (.lst (ns.map V.int))) else none) = some u → b = a ∧ u = .frz { cls := .type "list", data := .seq vs.toArray } (.lst (ns.map V.int)) := by
      intro b u z
      by_cases e : b = a
      · rw [if_pos e] at z
        exact ⟨e, (Option.some.inj z).symm⟩
      · rw [if_neg e] at z
        cases z
    refine ⟨fun b => if b = a then some (.frz { cls := .type "list", data := .seq vs.toArray } (.lst (ns.map V.int))) else none, .inl (.inr ⟨{ cls := .type "list", data := .seq vs.toArray }, if_pos rfl⟩), fun b u z => ?_, fun b u z => ?_⟩
    · obtain ⟨rfl, rfl⟩ := only b u z
      exact ⟨ha, by simpa using hl, vs, _, rv, ha⟩
    · obtain ⟨rfl, rfl⟩ := only b u z
      exact ⟨rfl, hk, _, _, rfl⟩
theorem repL_ints {K : PySem.W.Frag} {wd : Wd} : ∀ ns : List Int, RepL K wd (ns.map D.int) (ns.map V.int)
  | [] => by simp [RepL]
  | i :: l => by
    simp only [List.map_cons, RepL]
    exact ⟨_, _, rfl, by simp [Rep], repL_ints l⟩
theorem law_callZ {P : Program} {w : World} {K : PySem.W.Frag} {mg mb : Str → Option Value} {k : Nat} {fa a : Addr} {fd : FuncData} {x : Str} {m : Fz} {s₁ : Shared} {vs : List Value} {ns : List Int}
    (KX : K.In s₁.heap) (hns : s₁.heap.Ns mainGlobals mg) (hb : s₁.heap.Ns builtinsNs mb) (hbb : ∀ x : Str, x ≠ "__name__" → mb x = bootBuiltins x)
    (hlim : s₁.heap.NoLimit) (hg : s₁.gens = #[]) (ha : s₁.heap.get? a = some { cls := .type "list", data := .seq vs.toArray }) (hi : IntsAre vs ns)
    (hl : ns.length ≤ sizeLine) (hr : Room k callerA) (F : ∀ base : Heap, K.In base → base.Ns mainGlobals mg → FnZ P w K mg base k fa fd [x] m)
    (hbind : ∀ (s : Shared) (u : Value), BindsTo s fd ⟨[u], []⟩ [(x, u)]) (hm : m [.kls (ns.map .int)] [] (fun d _ => d = .bl true) fun _ _ => False) :
    codeAny (model P w) callerA (.call (.ref fa) ⟨[.ref a], []⟩) (fun r s' => r = .ok (.ret (.bool true)) ∧ OldK s₁.heap s'.heap ∧ s'.os = s₁.os ∧ AllBare s'.gens) s₁ := by
  obtain ⟨H, hH⟩ := scr_of (P := P) (w := w) KX ha hi hl
  have keep : ∀ {b : Addr} {o : Obj}, s₁.heap.get? b = some o → (∀ u, H b = some u → False) → (hidT s₁.heap H).get? b = some o := fun {b o} e n => hidT_get e (by
    cases q : H b with
    | none => rfl
    | some u => exact (n u q).elim)
  have ns_ : ∀ {b : Addr} {g : Str → Option Value}, s₁.heap.Ns b g → (hidT s₁.heap H).Ns b g := fun {b g} ⟨o, es, ep, e, d, r⟩ => ⟨o, es, ep, keep e (fun u q => by
    obtain ⟨rfl, _⟩ := hH.at_ b u q
    have e2 := e.symm.trans ha
    cases e2
    cases d), d, r⟩
  have KB : K.In (hidT s₁.heap H) := fun b o e => keep (KX b o e) fun u q => by
    have e2 := (hH.at_ b u q).2.1
    rw [e] at e2
    cases e2
  obtain ⟨mc, c1, c2⟩ := hlim
  have e0 : Env0 P w K mg (hidT s₁.heap H) callerA [] s₁ H := { frames := rfl, mod := ⟨KB, ns_ hns, ⟨mb, ns_ hb, hbb⟩, ⟨mc, ns_ c1, c2⟩⟩, bs := fun b o e => of_hidT e, bsz := Nat.le_of_eq (hidT_size _ _), funs := trivial, frf := fun b h => (nomatch (show b ∈ ([] : List Addr) from h)), hok := hH.ok, bare := .of_eq hg }
  have sp0 : spZ K 1 m [.ref a] H (fun v _ => v = .bl true) fun _ _ _ => False := by
    refine ⟨{ n := 0, rho := fun _ => 0, hs := H }, [], [.kls (ns.map .int)], _, _, rfl, ⟨fun _ _ h => h, rfl, fun i j c c' h => (nomatch h), fun i c h => (nomatch h)⟩, ?_, hm, ?_, ?_⟩
    · simp only [RepL, Rep]
      exact ⟨_, _, rfl, ⟨a, _, rfl, hH.sq, repL_ints ns⟩, rfl⟩
    · intro w' H' S' d v l r e h
      have h' : d = .bl true := h
      subst h'
      simpa only [Rep] using e
    · intro w' H' S' x cls dd l r e h
      exact h
  have run := (F _ KB (ns_ hns)).run callerA [] s₁ H ⟨[.ref a], []⟩ [.ref a] [.ref a] _ _ hr rfl e0 (hbind s₁ (.ref a)) (.cons rfl .nil) sp0
  refine codeAny_mono run fun r s' h => ?_
  cases r with
  | error e => exact absurd h (by simp [CR, L2.CX])
  | ok fl =>
    cases fl with
    | ret u =>
      obtain ⟨v, H', os, bare, un, ok', r', q⟩ := h
      have q2 : v = .bl true := q
      subst q2
      have r2 : u = Value.bool true := r'
      refine ⟨by rw [r2], .of_keep fun b o e => ?_, os, bare⟩
      cases q : H b with
      | none => exact un.keep b o e q (by intro z; exact absurd (show b ∈ ([] : List Addr) from z) (by simp)) (by simp)
      | some t =>
        obtain ⟨-, -, o', xs, rfl⟩ := hH.at_ b t q
        have z1 := (hH.ok b _ q).1
        have z2 := (ok' b _ (un.frzs b o' _ q)).1
        rw [z1] at e
        cases e
        exact z2
    | _ => exact False.elim h
/-- a law, walked: F gives the written part, the function object, the promise over every base -/
theorem walk_ofZ {l : PySem.W.OpenLaw} {n k : Nat} {q : Program} {loose : List Str} {XP : (Str → Option Value) → Heap → Prop} {YP : World → Heap → Prop} {d : DefRec} {x : Str} {m : World → PySem.W.Frag → Fz}
    (hn : l.most = some n) (hn2 : n ≤ sizeLine) (hdf : d.params.defaults = []) (hr : Room k callerA)
    (F : ∀ (w : World) (mg : Str → Option Value) (fa : Addr) (h : Heap), YP w h → h.Ns mainGlobals mg → mg d.name = some (.ref fa) →
      ∃ (K : PySem.W.Frag) (fd : FuncData), K.In h ∧ (∀ (s : Shared) (u : Value), BindsTo s fd ⟨[u], []⟩ [(x, u)]) ∧
        (∀ ns : List Int, ns.length ≤ n → m w K [.kls (ns.map .int)] [] (fun d _ => d = .bl true) fun _ _ => False) ∧
        ∀ base : Heap, K.In base → base.Ns mainGlobals mg → FnZ l.prog w K mg base k fa fd [x] (m w K)) :
    PySem.W.WalkO q loose XP YP l.row.toRowW d [] (fun f vs => PySem.call f vs) := by
  refine Att.attach_call hn hdf fun w s₀ s₁ mg mb fa o pm cd doc a vs ns G Y ho hd hcd hmg hobj hints hlen hg => ?_
  obtain ⟨K, fd, KX, hb, hsp, hF⟩ := F w mg fa _ Y G.T.g hmg
  exact law_callZ KX G.T.g G.T.b G.T.builtins G.T.nolimit hg hobj hints (Nat.le_trans hlen hn2) hr hF hb (hsp ns hlen)
end Z
namespace K01
open PySem L2 Z PySem.Spec PyProof.Rows
/-- the i-th statement of the text -/
def top (i : Nat) : Stmt := PySem.Challenge.pw_bankfolk_k01_companies_told.main.body.getD i (.Pass ⟨0, 0, 0, 0⟩)
structure Ad where
  Company : Addr
  f_Company___eq__ : Addr
  d_Company___eq__ : FuncData
  f_Company___len__ : Addr
  d_Company___len__ : FuncData
  f_Company_names : Addr
  d_Company_names : FuncData
  f_Company_restless : Addr
  d_Company_restless : FuncData
  f_Company_place : Addr
  d_Company_place : FuncData
  f_spread : Addr
  d_spread : FuncData
  f_is_name : Addr
  d_is_name : FuncData
  f__law_bag : Addr
  d__law_bag : FuncData
  f__law_pull : Addr
  d__law_pull : FuncData
  f__law_same : Addr
  d__law_same : FuncData
  f__law_ties_of : Addr
  d__law_ties_of : FuncData
  f__law_uneasy_of : Addr
  d__law_uneasy_of : FuncData
  f_Company___init__ : Addr
  d_Company___init__ : FuncData
  f_Company_ties : Addr
  d_Company_ties : FuncData
  f_Company_knows : Addr
  d_Company_knows : FuncData
  f_Company_near : Addr
  d_Company_near : FuncData
  f__law_of : Addr
  d__law_of : FuncData
  f__law_mixed : Addr
  d__law_mixed : FuncData
  f__law_some_grid : Addr
  d__law_some_grid : FuncData
  f__law_text_of : Addr
  d__law_text_of : FuncData
  f_Company___repr__ : Addr
  d_Company___repr__ : FuncData
  f_Company___str__ : Addr
  d_Company___str__ : FuncData
  f__law_some_names : Addr
  d__law_some_names : FuncData
  f_made : Addr
  d_made : FuncData
  f__law_drawn : Addr
  d__law_drawn : FuncData
  f__law_built : Addr
  d__law_built : FuncData
  f_Company_rest_turned : Addr
  d_Company_rest_turned : FuncData
  f__law_asked_so : Addr
  d__law_asked_so : FuncData
  f__law_stands : Addr
  d__law_stands : FuncData
  f_law : Addr
  d_law : FuncData
  t_LETTERS : Tok
  t_MOST_FOLK : Tok
  a_ties : Addr
  a_restless : Addr
  dv_init : List Value
abbrev st_Company___eq__ : Stmt := inClass (top 14) 1
abbrev st_Company___len__ : Stmt := inClass (top 14) 2
abbrev st_Company_names : Stmt := inClass (top 14) 5
abbrev st_Company_restless : Stmt := inClass (top 14) 7
abbrev st_Company_place : Stmt := inClass (top 14) 8
abbrev st_spread : Stmt := top 9
abbrev st_is_name : Stmt := top 13
abbrev st__law_bag : Stmt := top 17
abbrev st__law_pull : Stmt := top 18
abbrev st__law_same : Stmt := top 21
abbrev st__law_ties_of : Stmt := top 25
abbrev st__law_uneasy_of : Stmt := top 26
abbrev st_Company___init__ : Stmt := inClass (top 14) 0
abbrev st_Company_ties : Stmt := inClass (top 14) 6
abbrev st_Company_knows : Stmt := inClass (top 14) 9
abbrev st_Company_near : Stmt := inClass (top 14) 10
abbrev st__law_of : Stmt := top 19
abbrev st__law_mixed : Stmt := top 20
abbrev st__law_some_grid : Stmt := top 23
abbrev st__law_text_of : Stmt := top 27
abbrev st_Company___repr__ : Stmt := inClass (top 14) 3
abbrev st_Company___str__ : Stmt := inClass (top 14) 4
abbrev st__law_some_names : Stmt := top 22
abbrev st_made : Stmt := top 15
abbrev st__law_drawn : Stmt := top 24
abbrev st__law_built : Stmt := top 28
abbrev st_Company_rest_turned : Stmt := inClass (top 14) 17
abbrev st__law_asked_so : Stmt := top 30
abbrev st__law_stands : Stmt := top 29
abbrev st_law : Stmt := top 31
end K01
/-! what each def does, told over plain lists -/
namespace K01
open PySem L2 Z PySem.Spec PyProof.Rows
def yes_Company (α : Ad) : List Value := [.ref α.Company]
def no_Company (_ : Ad) : List Value := [.type "str", .type "NoneType", .type "list"]
def tys_Company (α : Ad) : List Value := [.ref α.Company, .type "str", .type "NoneType", .type "list"]
def d0_Company_2 : List D := [.tup [], .tup []]
/-- the bag: its cells, the place in them, the big one, the salt, the count -/
def BagOk (l : List D) : Prop := ∃ (cells : List Int) (pos big salt cnt : Int), l = [.lst (cells.map .int), .int pos, .int big, .int salt, .int cnt] ∧ cells.length ≤ 63 ∧ 0 ≤ pos ∧ 0 ≤ big ∧ 0 ≤ salt ∧ salt < 2147483629
/-! the model: names in order, who knows whom -/
def LET : Str := "abcdefghijklmnopqrstuvwxyz"
def okName (x : Str) : Prop := 1 ≤ x.length ∧ x.length ≤ 8 ∧ ∀ c ∈ x.cps.toList, c ∈ LET.cps.toList
structure Md where
  ns : List Str
  R : Nat → Nat → Bool
abbrev Md.n (M : Md) : Nat := M.ns.length
def Md.nm (M : Md) (i : Nat) : Str := M.ns.getD i Str.empty
structure Md.Ok (M : Md) : Prop where
  few : M.ns.length ≤ 16
  nd : M.ns.Nodup
  srt : sortedS M.ns = true
  okn : ∀ x ∈ M.ns, okName x
  sym : ∀ i j, M.R i j = M.R j i
def b2i (b : Bool) : Int := if b = true then 1 else 0
def gridD (n : Nat) (R : Nat → Nat → Bool) : D := .lst ((List.range n).map fun i => .lst ((List.range n).map fun k => .int (b2i (R i k))))
def encM (M : Md) : D := .dic [(.inr "names", .lst (M.ns.map .str)), (.inr "grid", gridD M.n M.R)]
/-- the ties by places -/
def rowI (M : Md) (i : Nat) : List (Nat × Nat) := ((List.range M.n).filter fun k => decide (i < k) && M.R i k).map fun k => (i, k)
def tiesTo (M : Md) (m : Nat) : List (Nat × Nat) := (List.range m).flatMap (rowI M)
def tiesI (M : Md) : List (Nat × Nat) := tiesTo M M.n
def Md.pr (M : Md) (p : Nat × Nat) : D := .tup [.str (M.nm p.1), .str (M.nm p.2)]
def tiesD (M : Md) : List D := (tiesI M).map M.pr
def restI (M : Md) : List Nat := (List.range M.n).filter fun i => M.R i i
def restS (M : Md) : List Str := (restI M).map M.nm
def starS (b : Bool) : Str := if b = true then "*" else Str.empty
def wordsS (M : Md) : List Str := (List.range M.n).map (fun i => M.nm i ++ starS (M.R i i)) ++ (tiesI M).map fun p => M.nm p.1 ++ "-" ++ M.nm p.2
def textS (M : Md) : Str := if M.ns = [] then "-" else Txt.join " " (wordsS M)
def mask : Nat → (Nat → Bool) → Nat
  | 0, _ => 0
  | n + 1, f => mask n f ||| (if f n = true then 2 ^ n else 0)
def tabM (M : Md) : List Nat := (List.range M.n).map fun i => mask M.n (M.R i)
def plD (ns : List Str) : List (Key × D) := (List.range ns.length).map fun i => (.inr (ns.getD i Str.empty), .int (i : Nat))
def fldsM (M : Md) : List (Key × D) := [(.inr "folk", .tup (M.ns.map .str)), (.inr "places", .dic (plD M.ns)), (.inr "table", .tup ((tabM M).map fun m => .int (m : Nat)))]
def coM (α : Ad) (M : Md) : D := .ins α.Company (fldsM M)
def nearI (M : Md) (i : Nat) : List Nat := (List.range M.n).filter fun k => M.R i k && decide (k ≠ i)
def tsI (n : Nat) : Str := Str.ofString (toString ((n : Nat) : Int))
def reprM (M : Md) : Str := Str.ofString "Company(" ++ tsI M.n ++ Str.ofString " folk, " ++ tsI (tiesI M).length ++ Str.ofString " ties)"
def turnM (M : Md) (i : Nat) : Md := ⟨M.ns, fun a b => M.R a b ^^ (decide (a = i) && decide (b = i))⟩
/-! ### the defs -/
def m_spread (_ : Ad) : Fz := fun ds S Q _ => ∃ m : Nat, ds = [.int m] ∧ m < 2 ^ 16 ∧ Q (.hnd S.length) (S ++ [.lst (((List.range 16).filter m.testBit).map fun i => .int (i : Nat))])
def m_is_name (_ : Ad) : Fz := fun ds S Q _ => ∃ x, ds = [.str x] ∧ okName x ∧ Q (.bl true) S
def m_made (α : Ad) : Fz := fun ds S Q _ => ∃ M M' t, Md.Ok M ∧ ds = [.tup (M.ns.map .str), t] ∧ M'.ns = M.ns ∧ seqOf S t = some ((tabM M').map fun m => .int (m : Nat)) ∧ Q (coM α M') S
def m__law_bag (_ : Ad) : Fz := fun ds S Q _ => ∃ ns : List Int, ds = [.kls (ns.map .int)] ∧ ns.length ≤ 63 ∧ Q (.hnd S.length) (S ++ [.abs BagOk])
def m__law_pull (_ : Ad) : Fz := fun ds S Q _ => ∃ n many, ds = [.hnd n, .int many] ∧ S[n]? = some (.abs BagOk) ∧ 0 < many ∧ many < 2 ^ 20 ∧ ∀ r, 0 ≤ r → r < many → Q (.int r) S
def m__law_of (_ : Ad) : Fz := fun ds S Q _ => ∃ n l, ds = [.hnd n, .lst l] ∧ S[n]? = some (.abs BagOk) ∧ l ≠ [] ∧ l.length < 1000 ∧ ∀ d, d ∈ l → Q d S
def m__law_mixed (_ : Ad) : Fz := fun ds S Q _ => ∃ n l, ds = [.hnd n, .lst l] ∧ S[n]? = some (.abs BagOk) ∧ l.length < 1000 ∧ ∀ l' : List D, l'.Perm l → Q (.hnd S.length) (S ++ [.lst l'])
def m__law_same (_ : Ad) : Fz := fun ds S Q _ => ∃ x y p, ds = [x, y] ∧ IsP S p x ∧ IsP S p y ∧ (∃ l, seqOf S x = some l) ∧ (∃ l, seqOf S y = some l) ∧ PyData.showable p = true ∧ PyData.depth p ≤ 50 ∧ (PyData.shown p).length ≤ 16777216 ∧ Q (.bl true) S
def m__law_some_names (_ : Ad) : Fz := fun ds S Q _ => ∃ n many, ds = [.hnd n, .int many] ∧ S[n]? = some (.abs BagOk) ∧ 0 ≤ many ∧ many ≤ 16 ∧ ∀ ns : List Str, (ns.length : Int) = many → ns.Nodup → sortedS ns = true → (∀ x ∈ ns, okName x) → Q (.lst (ns.map .str)) S
def m__law_some_grid (_ : Ad) : Fz := fun ds S Q _ => ∃ n many, ds = [.hnd n, .int many] ∧ S[n]? = some (.abs BagOk) ∧ 0 ≤ many ∧ many ≤ 16 ∧ ∀ R : Nat → Nat → Bool, (∀ i j, R i j = R j i) → Q (gridD many.toNat R) S
def m__law_drawn (_ : Ad) : Fz := fun ds S Q _ => ∃ n, ds = [.hnd n, .int 16] ∧ S[n]? = some (.abs BagOk) ∧ ∀ M, Md.Ok M → Q (encM M) S
def m__law_ties_of (_ : Ad) : Fz := fun ds S Q _ => ∃ M, Md.Ok M ∧ ds = [encM M] ∧ Q (.lst (tiesD M)) S
def m__law_uneasy_of (_ : Ad) : Fz := fun ds S Q _ => ∃ M, Md.Ok M ∧ ds = [encM M] ∧ Q (.hnd S.length) (S ++ [.lst ((restS M).map .str)])
def m__law_text_of (_ : Ad) : Fz := fun ds S Q _ => ∃ M, Md.Ok M ∧ ds = [encM M] ∧ Q (.str (textS M)) S
def m__law_built (α : Ad) : Fz := fun ds S Q _ => ∃ n M, Md.Ok M ∧ ds = [.hnd n, encM M] ∧ S[n]? = some (.abs BagOk) ∧ Q (coM α M) S
def m__law_stands (α : Ad) : Fz := fun ds S Q _ => ∃ M, Md.Ok M ∧ ds = [coM α M, encM M] ∧ Q (.bl true) S
def m__law_asked_so (α : Ad) : Fz := fun ds S Q _ => ∃ M, Md.Ok M ∧ ds = [coM α M, encM M] ∧ Q (.bl true) S
def m_law (_ : Ad) : Fz := fun ds S Q _ => ∃ ns : List Int, ds = [.kls (ns.map .int)] ∧ ns.length ≤ 63 ∧ Q (.bl true) S
/-! a company's ties, rest, as they are handed in: by places -/
structure Fit (M : Md) (ps : List (Nat × Nat)) (is : List Nat) : Prop where
  lt : ∀ p ∈ ps, p.1 < M.n ∧ p.2 < M.n ∧ p.1 ≠ p.2
  once : ps.Pairwise fun p q => p ≠ q ∧ p ≠ (q.2, q.1)
  ties : ∀ i j, i < M.n → j < M.n → i ≠ j → (M.R i j = true ↔ (i, j) ∈ ps ∨ (j, i) ∈ ps)
  ilt : ∀ i ∈ is, i < M.n
  rest : ∀ i, i < M.n → (M.R i i = true ↔ i ∈ is)
def m_Company___init__ (α : Ad) : Fz := fun ds S Q _ => ∃ (n : Nat) (nd td rd : D) (M : Md) (xs : List Str) (ps : List (Nat × Nat)) (is : List Nat), ds = [.hnd n, nd, td, rd] ∧ Md.Ok M ∧ seqOf S nd = some (xs.map .str) ∧ xs.Perm M.ns ∧ (td = .lst (ps.map M.pr) ∨ td = .tup (ps.map M.pr)) ∧ (rd = .lst ((is.map M.nm).map .str) ∨ rd = .tup ((is.map M.nm).map .str)) ∧ Fit M ps is ∧
  S[n]? = some (.ins α.Company []) ∧ Q .non (S.set n (.ins α.Company (fldsM M)))
def m_Company___eq__ (α : Ad) : Fz := fun ds S Q _ => (∃ M M', Md.Ok M ∧ Md.Ok M' ∧ ds = [coM α M, coM α M'] ∧ Q (.bl (decide (M.ns = M'.ns) && decide (tabM M = tabM M'))) S) ∨ ∃ M y t, Md.Ok M ∧ ds = [coM α M, y] ∧ tyD S y = some t ∧ t ∈ no_Company α ∧ Q (.bl false) S
def m_Company___len__ (α : Ad) : Fz := fun ds S Q _ => ∃ M, Md.Ok M ∧ ds = [coM α M] ∧ Q (.int (M.n : Nat)) S
def m_Company___repr__ (α : Ad) : Fz := fun ds S Q _ => ∃ M, Md.Ok M ∧ ds = [coM α M] ∧ Q (.str (reprM M)) S
def m_Company___str__ (α : Ad) : Fz := fun ds S Q _ => ∃ M, Md.Ok M ∧ ds = [coM α M] ∧ Q (.str (textS M)) S
def m_Company_names (α : Ad) : Fz := fun ds S Q _ => ∃ M, Md.Ok M ∧ ds = [coM α M] ∧ Q (.hnd S.length) (S ++ [.lst (M.ns.map .str)])
def m_Company_ties (α : Ad) : Fz := fun ds S Q _ => ∃ M, Md.Ok M ∧ ds = [coM α M] ∧ Q (.hnd S.length) (S ++ [.lst (tiesD M)])
def m_Company_restless (α : Ad) : Fz := fun ds S Q _ => ∃ M, Md.Ok M ∧ ds = [coM α M] ∧ Q (.hnd S.length) (S ++ [.lst ((restS M).map .str)])
def m_Company_place (α : Ad) : Fz := fun ds S Q _ => ∃ M i, Md.Ok M ∧ i < M.n ∧ ds = [coM α M, .str (M.nm i)] ∧ Q (.int (i : Nat)) S
def m_Company_knows (α : Ad) : Fz := fun ds S Q _ => ∃ M i j, Md.Ok M ∧ i < M.n ∧ j < M.n ∧ ds = [coM α M, .str (M.nm i), .str (M.nm j)] ∧ Q (.bl (decide (i ≠ j) && M.R i j)) S
def m_Company_near (α : Ad) : Fz := fun ds S Q _ => ∃ M i, Md.Ok M ∧ i < M.n ∧ ds = [coM α M, .str (M.nm i)] ∧ Q (.hnd S.length) (S ++ [.lst (((nearI M i).map M.nm).map .str)])
def m_Company_rest_turned (α : Ad) : Fz := fun ds S Q _ => ∃ M i, Md.Ok M ∧ i < M.n ∧ ds = [coM α M, .str (M.nm i)] ∧ Q (coM α (turnM M i)) S
end K01
namespace K01
open PySem L2 Z PySem.Spec PyProof.Rows
def g_Company___eq__ (α : Ad) : Gm := retG (andV (caZ (isOwnQ (yes_Company α) (no_Company α) α.Company) (consZ (varZ 1) (consZ (cZ (.ref α.Company)) (nilZ)))) (andV (binZ eqZ (fldZ α.Company "folk" (varZ 0)) (fldZ α.Company "folk" (varZ 1))) (binZ eqZ (fldZ α.Company "table" (varZ 0)) (fldZ α.Company "table" (varZ 1)))))
abbrev N_Company___eq__ : List Str := ["self", "other"]
def g_Company___len__ (α : Ad) : Gm := retG (caZ (oneD lenZ) (consZ (fldZ α.Company "folk" (varZ 0)) (nilZ)))
abbrev N_Company___len__ : List Str := ["self"]
def g_Company_names (α : Ad) : Gm := retG (caZ (oneD listHZ) (consZ (fldZ α.Company "folk" (varZ 0)) (nilZ)))
abbrev N_Company_names : List Str := ["self"]
def g_Company_restless (α : Ad) : Gm := retG (lcZ (walkE (fldZ α.Company "folk" (varZ 0))) [1, 2] (tupT 2 (consT (nameT 1) (consT (nameT 2) (nilT)))) (boolZ (binZ eqZ (binZ andIZ (binZ shrZ (binZ getZ (fldZ α.Company "table" (varZ 0)) (varZ 1)) (varZ 1)) (cZ (.int 1))) (cZ (.int 1)))) (varZ 2))
abbrev N_Company_restless : List Str := ["self", "at", "name"]
def g_Company_place (α : Ad) : Gm := seqG (ifG (boolZ (dninZ (varZ 1) (fldZ α.Company "places" (varZ 0)))) (neverG) (skipG)) (retG (dgetZ (fldZ α.Company "places" (varZ 0)) (varZ 1)))
abbrev N_Company_place : List Str := ["self", "name"]
def g_spread (α : Ad) : Gm := seqG (asgG 1 (lstHZ (nilZ))) (seqG (asgG 2 (cZ (.int 0))) (seqG (whileG (boolZ (binZ gtZ (binZ shrZ (varZ 0) (varZ 2)) (cZ (.int 0)))) (seqG (ifG (boolZ (binZ eqZ (binZ andIZ (binZ shrZ (varZ 0) (varZ 2)) (cZ (.int 1))) (cZ (.int 1)))) (dropG (bmZ tyL appendZ (varZ 1) (consZ (varZ 2) (nilZ)))) (skipG)) (augG 2 (intZ0 fun i j => .int (i + j)) (cZ (.int 1))))) (retG (varZ 1))))
abbrev N_spread : List Str := ["mask", "found", "at"]
def g_is_name (α : Ad) : Gm := retG (andV (chainZ leZ leZ (cZ (.int 1)) (caZ (oneD lenZ) (consZ (varZ 0) (nilZ))) (cZ (.int 8))) (caZ (oneD allZ) (consZ (frzE (lcZ (walkS (varZ 0)) [1] (nameT 1) (yesZ) (binZ (inZ false) (varZ 1) (cZ (.str "abcdefghijklmnopqrstuvwxyz"))))) (nilZ))))
abbrev N_is_name : List Str := ["text", "sign"]
def g__law_bag (α : Ad) : Gm := seqG (asgG 1 (cZ (.int 9460))) (seqG (forG (walkU (sliceZ (varZ 0) (noPartZ) (partZ (cZ (.int 63))))) (nameT 2) (asgG 1 (binZ modZ (binZ addZ (binZ addZ (binZ mulZ (varZ 1) (cZ (.int 51437))) (varZ 2)) (cZ (.int 11))) (cZ (.int 2147483629))))) (retG (lstHZ (consZ (caZ (oneD listZ) (consZ (sliceZ (varZ 0) (noPartZ) (partZ (cZ (.int 63)))) (nilZ))) (consZ (cZ (.int 0)) (consZ (cZ (.int 0)) (consZ (varZ 1) (consZ (cZ (.int 0)) (nilZ)))))))))
abbrev N__law_bag : List Str := ["_law_script", "_law_salt", "_law_cell"]
def g__law_pull (α : Ad) : Gm := seqG (ifG (andZ (boolZ (binZ ltZ (binZ getZ (varZ 0) (cZ (.int 2))) (cZ (.int 1)))) (boolZ (binZ ltZ (binZ getZ (varZ 0) (cZ (.int 1))) (caZ (oneD lenZ) (consZ (binZ getZ (varZ 0) (cZ (.int 0))) (nilZ)))))) (seqG (asgG 2 (binZ getZ (binZ getZ (varZ 0) (cZ (.int 0))) (binZ getZ (varZ 0) (cZ (.int 1))))) (seqG (asgTG (binZ addZ (binZ getZ (varZ 0) (cZ (.int 1))) (cZ (.int 1))) (subT (varZ 0) (cZ (.int 1)))) (ifG (boolZ (binZ geZ (varZ 2) (binZ powZ (cZ (.int 10)) (cZ (.int 18))))) (asgTG (varZ 2) (subT (varZ 0) (cZ (.int 2)))) (asgTG (binZ modZ (binZ addZ (binZ addZ (binZ mulZ (binZ getZ (varZ 0) (cZ (.int 3))) (cZ (.int 40961))) (binZ modZ (varZ 2) (cZ (.int 2147483587)))) (cZ (.int 19))) (cZ (.int 2147483629))) (subT (varZ 0) (cZ (.int 3))))))) (skipG)) (seqG (ifG (boolZ (binZ gtZ (binZ getZ (varZ 0) (cZ (.int 2))) (cZ (.int 0)))) (seqG (asgG 3 (binZ modZ (binZ getZ (varZ 0) (cZ (.int 2))) (varZ 1))) (seqG (asgTG (binZ fdivZ (binZ getZ (varZ 0) (cZ (.int 2))) (varZ 1)) (subT (varZ 0) (cZ (.int 2)))) (retG (varZ 3)))) (skipG)) (seqG (asgTG (binZ addZ (binZ getZ (varZ 0) (cZ (.int 4))) (cZ (.int 1))) (subT (varZ 0) (cZ (.int 4)))) (seqG (asgG 4 (binZ modZ (binZ addZ (binZ getZ (varZ 0) (cZ (.int 3))) (binZ mulZ (binZ getZ (varZ 0) (cZ (.int 4))) (cZ (.int 7477)))) (cZ (.int 2147483629)))) (seqG (asgG 5 (binZ mulZ (binZ modZ (binZ mulZ (varZ 4) (varZ 4)) (cZ (.int 2147483587))) (binZ addZ (binZ modZ (varZ 4) (cZ (.int 39979))) (cZ (.int 5))))) (seqG (asgTG (binZ modZ (binZ addZ (binZ addZ (varZ 5) (binZ mulZ (cZ (.int 28019)) (varZ 4))) (cZ (.int 613))) (cZ (.int 2147483629))) (subT (varZ 0) (cZ (.int 3)))) (retG (binZ modZ (binZ addZ (binZ fdivZ (binZ getZ (varZ 0) (cZ (.int 3))) (cZ (.int 71))) (binZ mulZ (binZ modZ (binZ getZ (varZ 0) (cZ (.int 3))) (cZ (.int 8111))) (cZ (.int 41)))) (varZ 1))))))))
abbrev N__law_pull : List Str := ["_law_bag_here", "_law_many", "_law_cell", "_law_got", "_law_base", "_law_twice"]
def g__law_same (α : Ad) : Gm := retG (binZ eqZ (caZ (oneD reprZ) (consZ (varZ 0) (nilZ))) (caZ (oneD reprZ) (consZ (varZ 1) (nilZ))))
abbrev N__law_same : List Str := ["_law_found", "_law_due"]
def g__law_ties_of (α : Ad) : Gm := seqG (asgTG (tupZ (consZ (lstZ (nilZ)) (consZ (dgetZ (varZ 0) (cZ (.str "names"))) (nilZ)))) (tupT 2 (consT (nameT 1) (consT (nameT 2) (nilT))))) (seqG (forG (walkR1 (caZ (oneD lenZ) (consZ (varZ 2) (nilZ)))) (nameT 3) (seqG (asgG 4 (lcZ (walkR2 (binZ addZ (varZ 3) (cZ (.int 1))) (caZ (oneD lenZ) (consZ (varZ 2) (nilZ)))) [5] (nameT 5) (boolZ (binZ eqZ (binZ getZ (binZ getZ (dgetZ (varZ 0) (cZ (.str "grid"))) (varZ 3)) (varZ 5)) (cZ (.int 1)))) (varZ 5))) (frzG 4 (asgG 1 (binZ addZ (varZ 1) (frzE (lcZ (walkU (varZ 4)) [5] (nameT 5) (yesZ) (tupZ (consZ (binZ getZ (varZ 2) (varZ 3)) (consZ (binZ getZ (varZ 2) (varZ 5)) (nilZ))))))))))) (retG (varZ 1)))
abbrev N__law_ties_of : List Str := ["_law_m", "_law_found", "_law_names", "_law_one", "_law_later", "_law_k"]
def g__law_uneasy_of (α : Ad) : Gm := retG (lcZ (walkR1 (caZ (oneD lenZ) (consZ (dgetZ (varZ 0) (cZ (.str "names"))) (nilZ)))) [1] (nameT 1) (boolZ (binZ eqZ (binZ getZ (binZ getZ (dgetZ (varZ 0) (cZ (.str "grid"))) (varZ 1)) (varZ 1)) (cZ (.int 1)))) (binZ getZ (dgetZ (varZ 0) (cZ (.str "names"))) (varZ 1)))
abbrev N__law_uneasy_of : List Str := ["_law_m", "_law_k"]
def g_Company___init__ (α : Ad) : Gm := seqG (asgG 4 (caZ (oneD listZ) (consZ (varZ 1) (nilZ)))) (seqG (forG (walkE (varZ 4)) (tupT 2 (consT (nameT 5) (consT (nameT 6) (nilT)))) (ifG (orZ (notZ (boolZ (callZ 1 (m_is_name α) [] (consZ (varZ 6) (nilZ))))) (boolZ (binZ (inZ false) (varZ 6) (sliceZ (varZ 4) (noPartZ) (partZ (varZ 5)))))) (neverG) (skipG))) (seqG (ifG (boolZ (binZ gtZ (caZ (oneD lenZ) (consZ (varZ 4) (nilZ))) (cZ (.int 16)))) (neverG) (skipG)) (seqG (setFldG α.Company "folk" (varZ 0) (caZ (oneD tupleZ) (consZ (caZ (oneD sortedSZ) (consZ (varZ 4) (nilZ))) (nilZ)))) (seqG (setFldG α.Company "places" (varZ 0) (frzE (dcZ (walkE (fldZ α.Company "folk" (varZ 0))) [5, 6] (tupT 2 (consT (nameT 5) (consT (nameT 6) (nilT)))) (yesZ) (varZ 6) (varZ 5)))) (seqG (asgG 7 (lcZ (walkU (fldZ α.Company "folk" (varZ 0))) [6] (nameT 6) (yesZ) (cZ (.int 0)))) (seqG (forG (walkE (varZ 2)) (tupT 2 (consT (nameT 5) (consT (tupT 2 (consT (nameT 8) (consT (nameT 9) (nilT)))) (nilT)))) (seqG (ifG (orZ (boolZ (dninZ (varZ 8) (fldZ α.Company "places" (varZ 0)))) (orZ (boolZ (dninZ (varZ 9) (fldZ α.Company "places" (varZ 0)))) (boolZ (binZ eqZ (varZ 8) (varZ 9))))) (neverG) (skipG)) (seqG (parG 10 11 (consZ (dgetZ (fldZ α.Company "places" (varZ 0)) (varZ 8)) (consZ (dgetZ (fldZ α.Company "places" (varZ 0)) (varZ 9)) (nilZ)))) (seqG (ifG (boolZ (binZ eqZ (binZ andIZ (binZ shrZ (binZ getZ (varZ 7) (varZ 10)) (varZ 11)) (cZ (.int 1))) (cZ (.int 1)))) (neverG) (skipG)) (seqG (asgTG (binZ orIZ (binZ getZ (varZ 7) (varZ 10)) (binZ shlZ (cZ (.int 1)) (varZ 11))) (subT (varZ 7) (varZ 10))) (asgTG (binZ orIZ (binZ getZ (varZ 7) (varZ 11)) (binZ shlZ (cZ (.int 1)) (varZ 10))) (subT (varZ 7) (varZ 11)))))))) (seqG (forG (walkU (varZ 3)) (nameT 6) (seqG (ifG (boolZ (dninZ (varZ 6) (fldZ α.Company "places" (varZ 0)))) (neverG) (skipG)) (asgTG (binZ orIZ (binZ getZ (varZ 7) (dgetZ (fldZ α.Company "places" (varZ 0)) (varZ 6))) (binZ shlZ (cZ (.int 1)) (dgetZ (fldZ α.Company "places" (varZ 0)) (varZ 6)))) (subT (varZ 7) (dgetZ (fldZ α.Company "places" (varZ 0)) (varZ 6)))))) (setFldG α.Company "table" (varZ 0) (caZ (oneD tupleZ) (consZ (varZ 7) (nilZ)))))))))))
abbrev N_Company___init__ : List Str := ["self", "names", "ties", "restless", "given", "at", "name", "table", "one", "other", "first", "second"]
def g_Company_ties (α : Ad) : Gm := seqG (asgG 1 (lstHZ (nilZ))) (seqG (forG (walkE (fldZ α.Company "folk" (varZ 0))) (tupT 2 (consT (nameT 2) (consT (nameT 3) (nilT)))) (dropG (bmZ tyL extendZ (varZ 1) (consZ (frzE (lcZ (walkU (frzE (callZ 1 (m_spread α) [] (consZ (binZ getZ (fldZ α.Company "table" (varZ 0)) (varZ 2)) (nilZ))))) [4] (nameT 4) (boolZ (binZ gtZ (varZ 4) (varZ 2))) (tupZ (consZ (varZ 3) (consZ (binZ getZ (fldZ α.Company "folk" (varZ 0)) (varZ 4)) (nilZ)))))) (nilZ))))) (retG (varZ 1)))
abbrev N_Company_ties : List Str := ["self", "found", "at", "name", "to"]
def g_Company_knows (α : Ad) : Gm := seqG (parG 3 4 (consZ (methZ α.Company "place" 2 (m_Company_place α) [] (varZ 0) (consZ (varZ 1) (nilZ))) (consZ (methZ α.Company "place" 2 (m_Company_place α) [] (varZ 0) (consZ (varZ 2) (nilZ))) (nilZ)))) (retG (andV (binZ neZ (varZ 3) (varZ 4)) (binZ eqZ (binZ andIZ (binZ shrZ (binZ getZ (fldZ α.Company "table" (varZ 0)) (varZ 3)) (varZ 4)) (cZ (.int 1))) (cZ (.int 1)))))
abbrev N_Company_knows : List Str := ["self", "one", "other", "first", "second"]
def g_Company_near (α : Ad) : Gm := seqG (asgG 2 (methZ α.Company "place" 2 (m_Company_place α) [] (varZ 0) (consZ (varZ 1) (nilZ)))) (retG (lcZ (walkU (frzE (callZ 1 (m_spread α) [] (consZ (binZ getZ (fldZ α.Company "table" (varZ 0)) (varZ 2)) (nilZ))))) [3] (nameT 3) (boolZ (binZ neZ (varZ 3) (varZ 2))) (binZ getZ (fldZ α.Company "folk" (varZ 0)) (varZ 3))))
abbrev N_Company_near : List Str := ["self", "name", "at", "to"]
def g__law_of (α : Ad) : Gm := retG (binZ getZ (varZ 1) (callZ 2 (m__law_pull α) [] (consZ (varZ 0) (consZ (caZ (oneD lenZ) (consZ (varZ 1) (nilZ))) (nilZ)))))
abbrev N__law_of : List Str := ["_law_bag_here", "_law_some"]
def g__law_mixed (α : Ad) : Gm := seqG (asgG 2 (lstHZ (nilZ))) (seqG (forG (walkU (varZ 1)) (nameT 3) (dropG (bmZ tyL insertZ (varZ 2) (consZ (callZ 2 (m__law_pull α) [] (consZ (varZ 0) (consZ (binZ addZ (caZ (oneD lenZ) (consZ (varZ 2) (nilZ))) (cZ (.int 1))) (nilZ)))) (consZ (varZ 3) (nilZ)))))) (retG (varZ 2)))
abbrev N__law_mixed : List Str := ["_law_bag_here", "_law_things", "_law_found", "_law_thing"]
def g__law_some_grid (α : Ad) : Gm := seqG (parG 2 3 (consZ (callZ 2 (m__law_pull α) [] (consZ (varZ 0) (consZ (cZ (.int 5)) (nilZ)))) (consZ (callZ 2 (m__law_pull α) [] (consZ (varZ 0) (consZ (cZ (.int 4)) (nilZ)))) (nilZ)))) (seqG (asgG 4 (lcZ (walkR1 (varZ 1)) [7] (nameT 7) (yesZ) (binZ repHZ (lstZ (consZ (cZ (.int 0)) (nilZ))) (varZ 1)))) (seqG (forG (walkR1 (varZ 1)) (nameT 5) (seqG (forG (walkR1 (varZ 5)) (nameT 6) (ifG (boolZ (binZ ltZ (callZ 2 (m__law_pull α) [] (consZ (varZ 0) (consZ (cZ (.int 4)) (nilZ)))) (varZ 2))) (asgTG (tupZ (consZ (cZ (.int 1)) (consZ (cZ (.int 1)) (nilZ)))) (tupT 2 (consT (subT (binZ getZ (varZ 4) (varZ 5)) (varZ 6)) (consT (subT (binZ getZ (varZ 4) (varZ 6)) (varZ 5)) (nilT))))) (skipG))) (asgTG (caZ (oneD intZ1) (consZ (binZ ltZ (callZ 2 (m__law_pull α) [] (consZ (varZ 0) (consZ (cZ (.int 3)) (nilZ)))) (varZ 3)) (nilZ))) (subT (binZ getZ (varZ 4) (varZ 5)) (varZ 5))))) (retG (varZ 4))))
abbrev N__law_some_grid : List Str := ["_law_bag_here", "_law_many", "_law_thick", "_law_rest", "_law_grid", "_law_one", "_law_other", "_law_k"]
def g__law_text_of (α : Ad) : Gm := seqG (asgG 1 (frzE (callZ 1 (m__law_uneasy_of α) [] (consZ (varZ 0) (nilZ))))) (seqG (asgG 2 (lcZ (walkU (dgetZ (varZ 0) (cZ (.str "names")))) [3] (nameT 3) (yesZ) (binZ addZ (varZ 3) (binZ mulSZ (cZ (.str "*")) (caZ (oneD intZ1) (consZ (binZ (inZ false) (varZ 3) (varZ 1)) (nilZ))))))) (frzG 2 (seqG (asgG 2 (binZ addZ (varZ 2) (frzE (lcZ (walkU (callZ 1 (m__law_ties_of α) [] (consZ (varZ 0) (nilZ)))) [4, 5] (tupT 2 (consT (nameT 4) (consT (nameT 5) (nilT)))) (yesZ) (binZ addZ (binZ addZ (varZ 4) (cZ (.str "-"))) (varZ 5)))))) (retG (ifZ (boolZ (binZ neZ (varZ 2) (lstZ (nilZ)))) (bmZ tyS joinZ (cZ (.str " ")) (consZ (varZ 2) (nilZ))) (cZ (.str "-")))))))
abbrev N__law_text_of : List Str := ["_law_m", "_law_uneasy", "_law_words", "_law_name", "_law_one", "_law_other"]
def g_Company___repr__ (α : Ad) : Gm := retG (joinedZ (jconsZ (cZ (.str "Company(")) (jconsZ (unZ fmtZ (caZ (oneD lenZ) (consZ (fldZ α.Company "folk" (varZ 0)) (nilZ)))) (jconsZ (cZ (.str " folk, ")) (jconsZ (unZ fmtZ (caZ (oneD lenZ) (consZ (frzE (methZ α.Company "ties" 1 (m_Company_ties α) [] (varZ 0) (nilZ))) (nilZ)))) (jconsZ (cZ (.str " ties)")) (jnilZ)))))))
abbrev N_Company___repr__ : List Str := ["self"]
def g_Company___str__ (α : Ad) : Gm := seqG (ifG (boolZ (binZ eqZ (fldZ α.Company "folk" (varZ 0)) (tupZ (nilZ)))) (retG (cZ (.str "-"))) (skipG)) (seqG (asgG 1 (lcZ (walkR1 (caZ (oneD lenZ) (consZ (fldZ α.Company "folk" (varZ 0)) (nilZ)))) [2] (nameT 2) (yesZ) (binZ addZ (binZ getZ (fldZ α.Company "folk" (varZ 0)) (varZ 2)) (binZ mulSZ (cZ (.str "*")) (binZ andIZ (binZ shrZ (binZ getZ (fldZ α.Company "table" (varZ 0)) (varZ 2)) (varZ 2)) (cZ (.int 1))))))) (frzG 1 (retG (bmZ tyS joinZ (cZ (.str " ")) (consZ (binZ addZ (varZ 1) (frzE (lcZ (walkU (frzE (methZ α.Company "ties" 1 (m_Company_ties α) [] (varZ 0) (nilZ)))) [3, 4] (tupT 2 (consT (nameT 3) (consT (nameT 4) (nilT)))) (yesZ) (joinedZ (jconsZ (unZ fmtZ (varZ 3)) (jconsZ (cZ (.str "-")) (jconsZ (unZ fmtZ (varZ 4)) (jnilZ)))))))) (nilZ))))))
abbrev N_Company___str__ : List Str := ["self", "words", "at", "one", "other"]
def g__law_some_names (α : Ad) : Gm := seqG (par3G 2 3 4 (consZ (lstHZ (nilZ)) (consZ (cZ (.str "abcdefghijklmnopqrstuvwxyz")) (consZ (callZ 2 (m__law_pull α) [] (consZ (varZ 0) (consZ (cZ (.int 26)) (nilZ)))) (nilZ))))) (seqG (forG (walkR1 (varZ 1)) (nameT 5) (seqG (asgTG (callZ 2 (m__law_of α) [] (consZ (varZ 0) (consZ (lstZ (consZ (tupZ (consZ (cZ (.str "")) (consZ (cZ (.str "")) (nilZ)))) (consZ (tupZ (consZ (cZ (.str "")) (consZ (cZ (.str "")) (nilZ)))) (consZ (tupZ (consZ (cZ (.str "ab")) (consZ (cZ (.str "")) (nilZ)))) (consZ (tupZ (consZ (cZ (.str "")) (consZ (cZ (.str "zz")) (nilZ)))) (consZ (tupZ (consZ (cZ (.str "q")) (consZ (cZ (.str "qrstuv")) (nilZ)))) (nilZ))))))) (nilZ)))) (tupT 2 (consT (nameT 6) (consT (nameT 7) (nilT))))) (dropG (bmZ tyL appendZ (varZ 2) (consZ (binZ addZ (binZ addZ (varZ 6) (binZ getZ (varZ 3) (binZ modZ (binZ addZ (varZ 4) (binZ mulZ (cZ (.int 7)) (varZ 5))) (cZ (.int 26))))) (varZ 7)) (nilZ)))))) (retG (caZ (oneD sortedSZ) (consZ (varZ 2) (nilZ)))))
abbrev N__law_some_names : List Str := ["_law_bag_here", "_law_many", "_law_found", "_law_letters", "_law_first", "_law_k", "_law_head", "_law_tail"]
def g_made (α : Ad) : Gm := seqG (asgG 2 (makeZ α.Company 4 (m_Company___init__ α) d0_Company_2 (consZ (varZ 0) (nilZ)))) (seqG (setFldG α.Company "table" (varZ 2) (caZ (oneD tupleZ) (consZ (varZ 1) (nilZ)))) (retG (varZ 2)))
abbrev N_made : List Str := ["folk", "table", "found"]
def g__law_drawn (α : Ad) : Gm := seqG (asgG 2 (ifZ (boolZ (binZ eqZ (callZ 2 (m__law_pull α) [] (consZ (varZ 0) (consZ (cZ (.int 3)) (nilZ)))) (cZ (.int 0)))) (varZ 1) (callZ 2 (m__law_pull α) [] (consZ (varZ 0) (consZ (binZ addZ (varZ 1) (cZ (.int 1))) (nilZ)))))) (retG (frzE (dispZ (pconsZ (cZ (.str "names")) (callZ 2 (m__law_some_names α) [] (consZ (varZ 0) (consZ (varZ 2) (nilZ)))) (pconsZ (cZ (.str "grid")) (callZ 2 (m__law_some_grid α) [] (consZ (varZ 0) (consZ (varZ 2) (nilZ)))) (pnilZ))))))
abbrev N__law_drawn : List Str := ["_law_bag_here", "_law_most", "_law_many"]
def g__law_built (α : Ad) : Gm := seqG (asgG 2 (lcZ (walkU (callZ 1 (m__law_ties_of α) [] (consZ (varZ 1) (nilZ)))) [4, 5] (tupT 2 (consT (nameT 4) (consT (nameT 5) (nilT)))) (yesZ) (ifZ (boolZ (binZ eqZ (callZ 2 (m__law_pull α) [] (consZ (varZ 0) (consZ (cZ (.int 2)) (nilZ)))) (cZ (.int 0)))) (tupZ (consZ (varZ 4) (consZ (varZ 5) (nilZ)))) (tupZ (consZ (varZ 5) (consZ (varZ 4) (nilZ))))))) (frzG 2 (seqG (asgG 3 (frzE (callZ 1 (m__law_uneasy_of α) [] (consZ (varZ 1) (nilZ))))) (retG (frzE (makeNZ α.Company 1 2 4 (m_Company___init__ α) (kwD [0, 1]) (consZ (frzE (callZ 2 (m__law_mixed α) [] (consZ (varZ 0) (consZ (dgetZ (varZ 1) (cZ (.str "names"))) (nilZ))))) (nilZ)) (consZ (frzE (callZ 2 (m__law_mixed α) [] (consZ (varZ 0) (consZ (varZ 2) (nilZ))))) (consZ (frzE (callZ 2 (m__law_mixed α) [] (consZ (varZ 0) (consZ (varZ 3) (nilZ))))) (nilZ))))))))
abbrev N__law_built : List Str := ["_law_bag_here", "_law_m", "_law_ties9", "_law_uneasy", "_law_one", "_law_other"]
def g_Company_rest_turned (α : Ad) : Gm := seqG (asgG 2 (methZ α.Company "place" 2 (m_Company_place α) [] (varZ 0) (consZ (varZ 1) (nilZ)))) (seqG (asgG 3 (caZ (oneD listHZ) (consZ (fldZ α.Company "table" (varZ 0)) (nilZ)))) (seqG (asgTG (binZ xorIZ (binZ getZ (varZ 3) (varZ 2)) (binZ shlZ (cZ (.int 1)) (varZ 2))) (subT (varZ 3) (varZ 2))) (retG (callZ 2 (m_made α) [] (consZ (fldZ α.Company "folk" (varZ 0)) (consZ (varZ 3) (nilZ)))))))
abbrev N_Company_rest_turned : List Str := ["self", "name", "at", "table"]
def g__law_asked_so (α : Ad) : Gm := seqG (asgTG (tupZ (consZ (dgetZ (varZ 1) (cZ (.str "names"))) (consZ (dgetZ (varZ 1) (cZ (.str "grid"))) (nilZ)))) (tupT 2 (consT (nameT 2) (consT (nameT 3) (nilT))))) (seqG (forG (walkR1 (caZ (oneD lenZ) (consZ (varZ 2) (nilZ)))) (nameT 4) (seqG (asgG 5 (lcZ (walkR1 (caZ (oneD lenZ) (consZ (varZ 2) (nilZ)))) [9] (nameT 9) (andZ (boolZ (binZ neZ (varZ 9) (varZ 4))) (boolZ (binZ eqZ (binZ getZ (binZ getZ (varZ 3) (varZ 4)) (varZ 9)) (cZ (.int 1))))) (binZ getZ (varZ 2) (varZ 9)))) (frzG 5 (seqG (asgG 6 (methZ α.Company "near" 2 (m_Company_near α) [] (varZ 0) (consZ (binZ getZ (varZ 2) (varZ 4)) (nilZ)))) (seqG (dropG (bmZ tyL appendZ (varZ 6) (consZ (cZ (.str "")) (nilZ)))) (seqG (ifG (notZ (boolZ (callZ 2 (m__law_same α) [] (consZ (lstZ (consZ (varZ 6) (consZ (methZ α.Company "near" 2 (m_Company_near α) [] (varZ 0) (consZ (binZ getZ (varZ 2) (varZ 4)) (nilZ))) (nilZ)))) (consZ (lstZ (consZ (binZ addZ (varZ 5) (lstZ (consZ (cZ (.str "")) (nilZ)))) (consZ (varZ 5) (nilZ)))) (nilZ)))))) (retG (cZ (.bl false))) (skipG)) (seqG (asgG 7 (lcZ (walkU (varZ 2)) [10] (nameT 10) (yesZ) (methZ α.Company "knows" 3 (m_Company_knows α) [] (varZ 0) (consZ (binZ getZ (varZ 2) (varZ 4)) (consZ (varZ 10) (nilZ)))))) (frzG 7 (ifG (notZ (boolZ (callZ 2 (m__law_same α) [] (consZ (varZ 7) (consZ (frzE (lcZ (walkR1 (caZ (oneD lenZ) (consZ (varZ 2) (nilZ)))) [9] (nameT 9) (yesZ) (andV (binZ neZ (varZ 9) (varZ 4)) (binZ eqZ (binZ getZ (binZ getZ (varZ 3) (varZ 4)) (varZ 9)) (cZ (.int 1)))))) (nilZ)))))) (retG (cZ (.bl false))) (skipG)))))))))) (seqG (asgG 8 (binZ addZ (binZ addZ (binZ addZ (binZ addZ (cZ (.str "Company(")) (caZ (oneD strIZ) (consZ (caZ (oneD lenZ) (consZ (varZ 2) (nilZ))) (nilZ)))) (cZ (.str " folk, "))) (caZ (oneD strIZ) (consZ (caZ (oneD lenZ) (consZ (callZ 1 (m__law_ties_of α) [] (consZ (varZ 1) (nilZ))) (nilZ))) (nilZ)))) (cZ (.str " ties)")))) (retG (callZ 2 (m__law_same α) [] (consZ (lstZ (consZ (caZ (oneD (lenOwnZ α.Company (m_Company___len__ α))) (consZ (varZ 0) (nilZ))) (consZ (caZ (oneD (strOwnZ α.Company (m_Company___repr__ α))) (consZ (varZ 0) (nilZ))) (nilZ)))) (consZ (lstZ (consZ (caZ (oneD lenZ) (consZ (varZ 2) (nilZ))) (consZ (varZ 8) (nilZ)))) (nilZ)))))))
abbrev N__law_asked_so : List Str := ["_law_company", "_law_m", "_law_names", "_law_grid", "_law_one", "_law_due", "_law_near", "_law_told", "_law_shown", "_law_k", "_law_other"]
def g__law_stands (α : Ad) : Gm := seqG (asgG 2 (lstZ (consZ (frzE (methZ α.Company "names" 1 (m_Company_names α) [] (varZ 0) (nilZ))) (consZ (frzE (methZ α.Company "ties" 1 (m_Company_ties α) [] (varZ 0) (nilZ))) (consZ (frzE (methZ α.Company "restless" 1 (m_Company_restless α) [] (varZ 0) (nilZ))) (consZ (caZ (oneD (strOwnZ α.Company (m_Company___str__ α))) (consZ (varZ 0) (nilZ))) (nilZ))))))) (retG (callZ 2 (m__law_same α) [] (consZ (varZ 2) (consZ (lstZ (consZ (dgetZ (varZ 1) (cZ (.str "names"))) (consZ (callZ 1 (m__law_ties_of α) [] (consZ (varZ 1) (nilZ))) (consZ (frzE (callZ 1 (m__law_uneasy_of α) [] (consZ (varZ 1) (nilZ)))) (consZ (callZ 1 (m__law_text_of α) [] (consZ (varZ 1) (nilZ))) (nilZ)))))) (nilZ)))))
abbrev N__law_stands : List Str := ["_law_company", "_law_m", "_law_found"]
def g_law (α : Ad) : Gm := seqG (asgG 1 (callZ 1 (m__law_bag α) [] (consZ (varZ 0) (nilZ)))) (seqG (asgG 2 (callZ 2 (m__law_drawn α) [] (consZ (varZ 1) (consZ (cZ (.int 16)) (nilZ))))) (seqG (asgG 3 (lstZ (consZ (callZ 2 (m__law_mixed α) [] (consZ (varZ 1) (consZ (dgetZ (varZ 2) (cZ (.str "names"))) (nilZ)))) (consZ (callZ 2 (m__law_mixed α) [] (consZ (varZ 1) (consZ (callZ 1 (m__law_ties_of α) [] (consZ (varZ 2) (nilZ))) (nilZ)))) (consZ (callZ 1 (m__law_uneasy_of α) [] (consZ (varZ 2) (nilZ))) (nilZ)))))) (seqG (asgG 4 (lcZ (walkU (varZ 3)) [6] (nameT 6) (yesZ) (caZ (oneD listZ) (consZ (varZ 6) (nilZ))))) (frzG 4 (seqG (asgG 5 (frzE (makeNZ α.Company 1 2 4 (m_Company___init__ α) (kwD [1, 0]) (consZ (binZ getZ (varZ 3) (cZ (.int 0))) (nilZ)) (consZ (binZ addZ (binZ getZ (varZ 3) (cZ (.int 2))) (sliceZ (binZ getZ (varZ 3) (cZ (.int 2))) (noPartZ) (partZ (cZ (.int 1))))) (consZ (caZ (oneD tupleZ) (consZ (binZ getZ (varZ 3) (cZ (.int 1))) (nilZ))) (nilZ)))))) (seqG (ifG (orZ (boolZ (binZ neZ (varZ 3) (varZ 4))) (orZ (notZ (boolZ (callZ 2 (m__law_stands α) [] (consZ (varZ 5) (consZ (varZ 2) (nilZ)))))) (notZ (boolZ (callZ 2 (m__law_asked_so α) [] (consZ (varZ 5) (consZ (varZ 2) (nilZ)))))))) (retG (cZ (.bl false))) (skipG)) (seqG (forG (walkU (binZ addZ (varZ 3) (lstZ (consZ (methZ α.Company "names" 1 (m_Company_names α) [] (varZ 5) (nilZ)) (consZ (methZ α.Company "ties" 1 (m_Company_ties α) [] (varZ 5) (nilZ)) (consZ (methZ α.Company "restless" 1 (m_Company_restless α) [] (varZ 5) (nilZ)) (nilZ))))))) (nameT 6) (dropG (bmZ tyL appendZ (varZ 6) (consZ (cZ (.str "")) (nilZ))))) (seqG (asgG 7 (callZ 2 (m__law_built α) [] (consZ (varZ 1) (consZ (varZ 2) (nilZ))))) (seqG (ifG (orZ (notZ (boolZ (callZ 2 (m__law_stands α) [] (consZ (varZ 5) (consZ (varZ 2) (nilZ)))))) (orZ (boolZ (binZ (isBlZ not) (binZ (eqOwnQ α.Company (m_Company___eq__ α) (tys_Company α) id) (varZ 5) (varZ 7)) (cZ (.bl true)))) (boolZ (binZ (isBlZ not) (binZ (eqOwnQ α.Company (m_Company___eq__ α) (tys_Company α) not) (varZ 5) (varZ 7)) (cZ (.bl false)))))) (retG (cZ (.bl false))) (skipG)) (seqG (ifG (boolZ (binZ eqZ (dgetZ (varZ 2) (cZ (.str "names"))) (lstZ (nilZ)))) (retG (andV (binZ (isBlZ id) (binZ (eqOwnQ α.Company (m_Company___eq__ α) (tys_Company α) id) (varZ 5) (frzE (makeZ α.Company 4 (m_Company___init__ α) d0_Company_2 (consZ (lstZ (nilZ)) (nilZ))))) (cZ (.bl true))) (binZ eqZ (caZ (oneD (strOwnZ α.Company (m_Company___str__ α))) (consZ (frzE (makeZ α.Company 4 (m_Company___init__ α) d0_Company_2 (consZ (tupZ (nilZ)) (nilZ)))) (nilZ))) (cZ (.str "-"))))) (skipG)) (seqG (asgG 8 (callZ 2 (m__law_of α) [] (consZ (varZ 1) (consZ (dgetZ (varZ 2) (cZ (.str "names"))) (nilZ))))) (seqG (asgG 9 (lstZ (consZ (methZ α.Company "rest_turned" 2 (m_Company_rest_turned α) [] (varZ 5) (consZ (varZ 8) (nilZ))) (consZ (frzE (makeZ α.Company 4 (m_Company___init__ α) d0_Company_2 (consZ (sliceZ (dgetZ (varZ 2) (cZ (.str "names"))) (partZ (cZ (.int 1))) (noPartZ)) (nilZ)))) (consZ (caZ (oneD (strOwnZ α.Company (m_Company___str__ α))) (consZ (varZ 5) (nilZ))) (consZ (cZ .non) (consZ (dgetZ (varZ 2) (cZ (.str "names"))) (nilZ)))))))) (seqG (ifG (orZ (boolZ (caZ (oneD anyZ) (consZ (frzE (lcZ (walkU (varZ 9)) [11] (nameT 11) (yesZ) (binZ (eqOwnQ α.Company (m_Company___eq__ α) (tys_Company α) id) (varZ 5) (varZ 11)))) (nilZ)))) (notZ (boolZ (caZ (oneD allZ) (consZ (frzE (lcZ (walkU (varZ 9)) [11] (nameT 11) (yesZ) (binZ (eqOwnQ α.Company (m_Company___eq__ α) (tys_Company α) not) (varZ 5) (varZ 11)))) (nilZ)))))) (retG (cZ (.bl false))) (skipG)) (seqG (asgG 10 (frzE (makeZ α.Company 4 (m_Company___init__ α) d0_Company_2 (consZ (dgetZ (varZ 2) (cZ (.str "names"))) (nilZ))))) (retG (andV (callZ 2 (m__law_same α) [] (consZ (lstZ (consZ (frzE (methZ α.Company "ties" 1 (m_Company_ties α) [] (varZ 10) (nilZ))) (consZ (frzE (methZ α.Company "restless" 1 (m_Company_restless α) [] (varZ 10) (nilZ))) (nilZ)))) (consZ (lstZ (consZ (lstZ (nilZ)) (consZ (lstZ (nilZ)) (nilZ)))) (nilZ)))) (binZ eqZ (bmZ tyL countSZ (frzE (methZ α.Company "near" 2 (m_Company_near α) [] (varZ 5) (consZ (varZ 8) (nilZ)))) (consZ (cZ (.str "")) (nilZ))) (cZ (.int 0)))))))))))))))))))
abbrev N_law : List Str := ["_law_script", "_law_bag_here", "_law_m", "_law_handed", "_law_kept", "_law_company", "_law_some", "_law_other", "_law_name", "_law_late", "_law_bare", "_law_one"]
end K01
/-! plain facts: bits, places, fields -/
namespace K01
open PySem L2 Z
theorem bitAnd1 (m i : Nat) : Builtin.bitAnd ((m : Int) / 2 ^ ((i : Int)).toNat) 1 = b2i (m.testBit i) := by
  rw [PyProof.Rows.bitAnd_m1, Nat.testBit_eq_decide_div_mod_eq]
  have e : ((m : Int) / 2 ^ ((i : Int)).toNat) % 2 = ((m / 2 ^ i % 2 : Nat) : Int) := by simp
  rw [e]
  unfold b2i
  by_cases h : m / 2 ^ i % 2 = 1
  · simp [h]
  · have : m / 2 ^ i % 2 = 0 := by omega
    simp [this]
theorem b2i1 (b : Bool) : decide (b2i b = 1) = b := by cases b <;> rfl
theorem shr_pos (m i : Nat) : (0 : Int) < (m : Int) / 2 ^ ((i : Int)).toNat ↔ 0 < m / 2 ^ i := by
  have : (m : Int) / 2 ^ ((i : Int)).toNat = ((m / 2 ^ i : Nat) : Int) := by simp
  rw [this]
  omega
theorem mask_test (f : Nat → Bool) (k : Nat) : ∀ n, (mask n f).testBit k = (decide (k < n) && f k)
  | 0 => by simp [mask]
  | n + 1 => by
    unfold mask
    rw [Nat.testBit_or, mask_test f k n]
    by_cases hf : f n = true
    · rw [if_pos hf, Nat.testBit_two_pow]
      by_cases hk : n = k
      · subst hk; simp [hf]
      · have e1 : decide (n = k) = false := decide_eq_false hk
        rw [e1, Bool.or_false]
        have e2 : decide (k < n + 1) = decide (k < n) := by
          apply decide_eq_decide.mpr
          omega
        rw [e2]
    · rw [if_neg hf]
      by_cases hk : n = k
      · subst hk; simp [hf]
      · have e2 : decide (k < n + 1) = decide (k < n) := by
          apply decide_eq_decide.mpr
          omega
        rw [e2]; simp
theorem mask_lt (f : Nat → Bool) : ∀ n, mask n f < 2 ^ n
  | 0 => by simp [mask]
  | n + 1 => by
    unfold mask
    refine Nat.or_lt_two_pow (Nat.lt_trans (mask_lt f n) (Nat.pow_lt_pow_right (by decide) (Nat.lt_succ_self n))) ?_
    split
    · exact Nat.pow_lt_pow_right (by decide) (Nat.lt_succ_self n)
    · exact Nat.two_pow_pos _
theorem mask_ext {f g : Nat → Bool} {n : Nat} (h : ∀ k, k < n → f k = g k) : mask n f = mask n g := by
  apply Nat.eq_of_testBit_eq
  intro k
  rw [mask_test, mask_test]
  by_cases hk : k < n
  · rw [h k hk]
  · simp [hk]
theorem mask_inj {f g : Nat → Bool} {n : Nat} (h : mask n f = mask n g) : ∀ k, k < n → f k = g k := by
  intro k hk
  have e : (mask n f).testBit k = (mask n g).testBit k := by rw [h]
  rw [mask_test, mask_test] at e
  simpa [hk] using e
theorem mask_or {f : Nat → Bool} {n j : Nat} (hj : j < n) : mask n f ||| 2 ^ j = mask n fun k => f k || decide (k = j) := by
  apply Nat.eq_of_testBit_eq
  intro k
  rw [Nat.testBit_or, mask_test, mask_test, Nat.testBit_two_pow]
  by_cases hk : k = j
  · subst hk; simp [hj]
  · have : ¬ j = k := fun e => hk e.symm
    simp [hk, this]
theorem mask_xor {f : Nat → Bool} {n j : Nat} (hj : j < n) : mask n f ^^^ 2 ^ j = mask n fun k => f k ^^ decide (k = j) := by
  apply Nat.eq_of_testBit_eq
  intro k
  rw [Nat.testBit_xor, mask_test, mask_test, Nat.testBit_two_pow]
  by_cases hk : k = j
  · subst hk; simp [hj]
  · have : ¬ j = k := fun e => hk e.symm
    simp [hk, this]
theorem mask_16 {f : Nat → Bool} {n : Nat} (h : n ≤ 16) : mask n f < 2 ^ 16 := Nat.lt_of_lt_of_le (mask_lt f n) (Nat.pow_le_pow_right (by decide) h)
theorem mask_bits {f : Nat → Bool} {n : Nat} (h : n ≤ 16) : (List.range 16).filter (mask n f).testBit = (List.range n).filter f := by
  have e : 16 = n + (16 - n) := by omega
  rw [e, List.range_add, List.filter_append]
  have e1 : (List.range n).filter (mask n f).testBit = (List.range n).filter f := by
    apply List.filter_congr
    intro k hk
    rw [mask_test]
    simp [List.mem_range.mp hk]
  have e2 : ((List.range (16 - n)).map (n + ·)).filter (mask n f).testBit = [] := by
    rw [List.filter_eq_nil_iff]
    intro k hk
    obtain ⟨j, _, rfl⟩ := List.mem_map.mp hk
    rw [mask_test]
    simp
    omega
  rw [e1, e2, List.append_nil]
theorem filt_len (p : Nat → Bool) (n : Nat) : ((List.range n).filter p).length ≤ n := by
  have := List.length_filter_le p (List.range n)
  rwa [List.length_range] at this
theorem tiesTo_succ (M : Md) (m : Nat) : tiesTo M (m + 1) = tiesTo M m ++ rowI M m := by
  unfold tiesTo
  rw [List.range_succ, List.flatMap_append]
  simp
theorem tiesTo_len (M : Md) : ∀ m, (tiesTo M m).length ≤ m * M.n
  | 0 => by simp [tiesTo]
  | m + 1 => by
    rw [tiesTo_succ, List.length_append, Nat.succ_mul]
    have := tiesTo_len M m
    have h2 : (rowI M m).length ≤ M.n := by unfold rowI; rw [List.length_map]; exact filt_len _ _
    omega
theorem tiesI_len {M : Md} (ok : Md.Ok M) : (tiesI M).length ≤ 256 := Nat.le_trans (tiesTo_len M M.n) (Nat.mul_le_mul ok.few ok.few)
/-! fields -/
theorem valD_hit (k : Key) (d : D) (r : List (Key × D)) : valD ((k, d) :: r) k = some d := by
  unfold valD
  rw [List.find?_cons_of_pos (by simp)]
  rfl
theorem valD_miss {k k' : Key} {d : D} {r : List (Key × D)} (h : decide (k = k') = false) : valD ((k, d) :: r) k' = valD r k' := by
  unfold valD
  rw [List.find?_cons_of_neg (by simpa using h)]
theorem val_folk (M : Md) : valD (fldsM M) (.inr "folk") = some (.tup (M.ns.map .str)) := valD_hit _ _ _
theorem val_places (M : Md) : valD (fldsM M) (.inr "places") = some (.dic (plD M.ns)) := (valD_miss (by decide +kernel)).trans (valD_hit _ _ _)
theorem val_table (M : Md) : valD (fldsM M) (.inr "table") = some (.tup ((tabM M).map fun m => .int (m : Nat))) := (valD_miss (by decide +kernel)).trans ((valD_miss (by decide +kernel)).trans (valD_hit _ _ _))
theorem val_no (M : Md) {f : Str} (h1 : decide ((Sum.inr "folk" : Key) = Sum.inr f) = false) (h2 : decide ((Sum.inr "places" : Key) = Sum.inr f) = false) (h3 : decide ((Sum.inr "table" : Key) = Sum.inr f) = false) : valD (fldsM M) (.inr f) = none := (valD_miss h1).trans ((valD_miss h2).trans ((valD_miss h3).trans rfl))
theorem ins_co (α : Ad) (M : Md) (S : Store) : insOf S (coM α M) = some (α.Company, fldsM M) := rfl
theorem val_names (M : Md) : valD [(.inr "names", .lst (M.ns.map .str)), (.inr "grid", gridD M.n M.R)] (.inr "names") = some (.lst (M.ns.map .str)) := valD_hit _ _ _
theorem val_grid (M : Md) : valD [(.inr "names", .lst (M.ns.map .str)), (.inr "grid", gridD M.n M.R)] (.inr "grid") = some (gridD M.n M.R) := (valD_miss (by decide +kernel)).trans (valD_hit _ _ _)
/-! places -/
theorem nm_at (M : Md) {i : Nat} (h : i < M.n) : M.ns[i]? = some (M.nm i) := by
  unfold Md.nm
  rw [List.getD_eq_getElem?_getD, List.getElem?_eq_getElem h]
  rfl
theorem nm_mem (M : Md) {i : Nat} (h : i < M.n) : M.nm i ∈ M.ns := List.mem_of_getElem? (nm_at M h)
theorem nm_inj {M : Md} (nd : M.ns.Nodup) {i j : Nat} (hi : i < M.n) (hj : j < M.n) (h : M.nm i = M.nm j) : i = j := by
  have e1 := nm_at M hi
  have e2 := nm_at M hj
  rw [h, ← e2] at e1
  exact (List.getElem?_inj hi nd).mp e1
theorem ns_eq (M : Md) : M.ns = (List.range M.n).map M.nm := by
  apply List.ext_getElem?
  intro i
  rw [List.getElem?_map]
  by_cases h : i < M.n
  · rw [List.getElem?_range h, nm_at M h]; rfl
  · rw [List.getElem?_eq_none (by simpa using h), List.getElem?_eq_none (by simpa using h)]; rfl
theorem folk_at (M : Md) {i : Nat} (h : i < M.n) : atI (M.ns.map D.str) (i : Int) = some (.str (M.nm i)) := atI_nat (by rw [List.getElem?_map, nm_at M h]; rfl)
theorem tab_at (M : Md) {i : Nat} (h : i < M.n) : atI ((tabM M).map fun m => D.int (m : Nat)) (i : Int) = some (.int (mask M.n (M.R i) : Nat)) := atI_nat (by
  unfold tabM
  rw [List.getElem?_map, List.getElem?_map, List.getElem?_range h]; rfl)
theorem range_at {n : Nat} {α : Type} (f : Nat → α) {i : Nat} (h : i < n) : atI ((List.range n).map f) (i : Int) = some (f i) := atI_nat (by
  rw [List.getElem?_map, List.getElem?_range h]; rfl)
theorem pl_at {ns : List Str} (nd : ns.Nodup) {i : Nat} (h : i < ns.length) : valD (plD ns) (.inr (ns.getD i Str.empty)) = some (.int (i : Nat)) := by
  unfold valD plD
  have key : ((List.range ns.length).map fun i => ((Sum.inr (ns.getD i Str.empty) : Key), D.int (i : Nat))).find? (fun kv => decide (kv.1 = Sum.inr (ns.getD i Str.empty))) = some (.inr (ns.getD i Str.empty), .int (i : Nat)) := by
    rw [List.find?_map]
    have : (List.range ns.length).find? ((fun kv => decide (kv.1 = Sum.inr (ns.getD i Str.empty))) ∘ fun i => ((Sum.inr (ns.getD i Str.empty) : Key), D.int (i : Nat))) = some i := by
      rw [List.find?_range_eq_some]
      refine ⟨by simp, by simpa using h, fun j hj => ?_⟩
      have hj2 : j < ns.length := Nat.lt_trans hj h
      simp only [Function.comp, Bool.not_eq_true', decide_eq_false_iff_not, Sum.inr.injEq]
      intro e
      rw [List.getD_eq_getElem?_getD, List.getD_eq_getElem?_getD, List.getElem?_eq_getElem hj2, List.getElem?_eq_getElem h] at e
      have : j = i := (List.getElem?_inj hj2 nd).mp (by rw [List.getElem?_eq_getElem hj2, List.getElem?_eq_getElem h]; exact congrArg some e)
      omega
    rw [this]
    rfl
  rw [key]
  rfl
end K01
namespace K01
open PySem L2 Z
section
variable (α : Ad) (ds : List D) (S : Store) (Q : D → Store → Prop) (E : XD → Store → Prop)
theorem s_Company_names (hl : ds.length = 1) (h : m_Company_names α ds S Q E) : bodyZ 1 (g_Company_names α) ds S Q E := by
  obtain ⟨M, ok, rfl, h⟩ := h
  simp only [g_Company_names, bodyZ, seqG, asgG, dropG, retG, retNG, ifG, skipG, augG, parG, par3G, frzG, setFldG, asgTG, forG, nameT, tupT, consT, nilT, subT, attrT, varZ, cZ, binZ, unZ, caZ, boolZ, andZ, orZ, notZ, andV, orV, notV, ifZ, chainZ, nilZ, consZ, tupZ, lstZ, lstHZ, callZ, methZ, makeZ, makeNZ, fldZ, frzE, deepE, lcZ, dcZ, dispZ, pnilZ, pconsZ, oneD, walkU, srcU, walkE, srcE, walkR1, walkR2, walkS, joinedZ, jconsZ, jnilZ, fmtZ, dgetZ, dinZ, dninZ, bmZ, intZ0, intZ, uintZ, getZ, sliceZ, partZ, noPartZ, cutQ, yesZ, Z.lenZ, lenQ, listZ, listHZ, tupleZ, sortedSZ, allZ, anyZ, intZ1, strIZ, mulSZ, addZ, repHZ, repZ, appendZ, extendZ, insertZ, countSZ, joinZ, isBlZ, inZ, isOwnQ, eqZ_int, eqZ_str, eqZ_bl, neZ_int, neZ_str, neZ_bl, lenOwnZ, strOwnZ, reprZ, wipeE, kwD, List.set_cons_zero, List.set_cons_succ, List.getElem?_cons_zero, List.getElem?_cons_succ, List.map_cons, List.map_nil, List.cons_append, List.nil_append, List.append_nil, List.length_cons, List.length_nil, Nat.reduceAdd, Nat.reduceSub, List.replicate_succ, List.replicate_zero, if_true, if_false, Bool.false_eq_true, Nat.zero_add]
  exact ⟨_, _, rfl, val_folk M, _, rfl, .inl h⟩
theorem s_Company___len__ (hl : ds.length = 1) (h : m_Company___len__ α ds S Q E) : bodyZ 1 (g_Company___len__ α) ds S Q E := by
  obtain ⟨M, ok, rfl, h⟩ := h
  simp only [g_Company___len__, bodyZ, seqG, asgG, dropG, retG, retNG, ifG, skipG, augG, parG, par3G, frzG, setFldG, asgTG, forG, nameT, tupT, consT, nilT, subT, attrT, varZ, cZ, binZ, unZ, caZ, boolZ, andZ, orZ, notZ, andV, orV, notV, ifZ, chainZ, nilZ, consZ, tupZ, lstZ, lstHZ, callZ, methZ, makeZ, makeNZ, fldZ, frzE, deepE, lcZ, dcZ, dispZ, pnilZ, pconsZ, oneD, walkU, srcU, walkE, srcE, walkR1, walkR2, walkS, joinedZ, jconsZ, jnilZ, fmtZ, dgetZ, dinZ, dninZ, bmZ, intZ0, intZ, uintZ, getZ, sliceZ, partZ, noPartZ, cutQ, yesZ, Z.lenZ, lenQ, listZ, listHZ, tupleZ, sortedSZ, allZ, anyZ, intZ1, strIZ, mulSZ, addZ, repHZ, repZ, appendZ, extendZ, insertZ, countSZ, joinZ, isBlZ, inZ, isOwnQ, eqZ_int, eqZ_str, eqZ_bl, neZ_int, neZ_str, neZ_bl, lenOwnZ, strOwnZ, reprZ, wipeE, kwD, List.set_cons_zero, List.set_cons_succ, List.getElem?_cons_zero, List.getElem?_cons_succ, List.map_cons, List.map_nil, List.cons_append, List.nil_append, List.append_nil, List.length_cons, List.length_nil, Nat.reduceAdd, Nat.reduceSub, List.replicate_succ, List.replicate_zero, if_true, if_false, Bool.false_eq_true, Nat.zero_add]
  refine ⟨_, _, rfl, val_folk M, ?_⟩
  simp only [List.length_map]
  exact .inl h
theorem s_Company_place (hl : ds.length = 2) (h : m_Company_place α ds S Q E) : bodyZ 2 (g_Company_place α) ds S Q E := by
  obtain ⟨M, i, ok, hi, rfl, h⟩ := h
  simp only [g_Company_place, bodyZ, seqG, asgG, dropG, retG, retNG, ifG, skipG, augG, parG, par3G, frzG, setFldG, asgTG, forG, nameT, tupT, consT, nilT, subT, attrT, varZ, cZ, binZ, unZ, caZ, boolZ, andZ, orZ, notZ, andV, orV, notV, ifZ, chainZ, nilZ, consZ, tupZ, lstZ, lstHZ, callZ, methZ, makeZ, makeNZ, fldZ, frzE, deepE, lcZ, dcZ, dispZ, pnilZ, pconsZ, oneD, walkU, srcU, walkE, srcE, walkR1, walkR2, walkS, joinedZ, jconsZ, jnilZ, fmtZ, dgetZ, dinZ, dninZ, bmZ, intZ0, intZ, uintZ, getZ, sliceZ, partZ, noPartZ, cutQ, yesZ, Z.lenZ, lenQ, listZ, listHZ, tupleZ, sortedSZ, allZ, anyZ, intZ1, strIZ, mulSZ, addZ, repHZ, repZ, appendZ, extendZ, insertZ, countSZ, joinZ, isBlZ, inZ, isOwnQ, eqZ_int, eqZ_str, eqZ_bl, neZ_int, neZ_str, neZ_bl, lenOwnZ, strOwnZ, reprZ, wipeE, kwD, List.set_cons_zero, List.set_cons_succ, List.getElem?_cons_zero, List.getElem?_cons_succ, List.map_cons, List.map_nil, List.cons_append, List.nil_append, List.append_nil, List.length_cons, List.length_nil, Nat.reduceAdd, Nat.reduceSub, List.replicate_succ, List.replicate_zero, if_true, if_false, Bool.false_eq_true, Nat.zero_add]
  have hp := pl_at ok.nd hi
  refine ⟨_, _, rfl, val_places M, _, _, rfl, rfl, ?_⟩
  rw [show valD (plD M.ns) (Sum.inr (M.nm i)) = _ from hp]
  simp only [Option.isSome_some, Bool.not_true, Bool.false_eq_true, if_false]
  exact ⟨_, _, rfl, val_places M, _, _, _, rfl, rfl, hp, .inl h⟩
theorem s_spread (hl : ds.length = 1) (h : m_spread α ds S Q E) : bodyZ 3 (g_spread α) ds S Q E := by
  obtain ⟨m, rfl, hm, h⟩ := h
  simp only [g_spread, bodyZ, seqG, asgG, dropG, retG, retNG, ifG, skipG, augG, parG, par3G, frzG, setFldG, asgTG, forG, nameT, tupT, consT, nilT, subT, attrT, varZ, cZ, binZ, unZ, caZ, boolZ, andZ, orZ, notZ, andV, orV, notV, ifZ, chainZ, nilZ, consZ, tupZ, lstZ, lstHZ, callZ, methZ, makeZ, makeNZ, fldZ, frzE, deepE, lcZ, dcZ, dispZ, pnilZ, pconsZ, oneD, walkU, srcU, walkE, srcE, walkR1, walkR2, walkS, joinedZ, jconsZ, jnilZ, fmtZ, dgetZ, dinZ, dninZ, bmZ, intZ0, intZ, uintZ, getZ, sliceZ, partZ, noPartZ, cutQ, yesZ, Z.lenZ, lenQ, listZ, listHZ, tupleZ, sortedSZ, allZ, anyZ, intZ1, strIZ, mulSZ, addZ, repHZ, repZ, appendZ, extendZ, insertZ, countSZ, joinZ, isBlZ, inZ, isOwnQ, eqZ_int, eqZ_str, eqZ_bl, neZ_int, neZ_str, neZ_bl, lenOwnZ, strOwnZ, reprZ, wipeE, kwD, List.set_cons_zero, List.set_cons_succ, List.getElem?_cons_zero, List.getElem?_cons_succ, List.map_cons, List.map_nil, List.cons_append, List.nil_append, List.append_nil, List.length_cons, List.length_nil, Nat.reduceAdd, Nat.reduceSub, List.replicate_succ, List.replicate_zero, if_true, if_false, Bool.false_eq_true, Nat.zero_add]
  refine ⟨by decide, ?_⟩
  refine while_m (fun r δ S' => ∃ i, i + r = 16 ∧ δ = [some (.int m), some (.hnd S.length), some (.int (i : Nat))] ∧ S' = S ++ [.lst (((List.range i).filter m.testBit).map fun i => .int (i : Nat))]) ?_ 16 _ _ ⟨0, rfl, rfl, rfl⟩
  rintro r δ S' k ⟨i, hir, rfl, rfl⟩ hk
  simp only [bodyZ, seqG, asgG, dropG, retG, retNG, ifG, skipG, augG, parG, par3G, frzG, setFldG, asgTG, forG, nameT, tupT, consT, nilT, subT, attrT, varZ, cZ, binZ, unZ, caZ, boolZ, andZ, orZ, notZ, andV, orV, notV, ifZ, chainZ, nilZ, consZ, tupZ, lstZ, lstHZ, callZ, methZ, makeZ, makeNZ, fldZ, frzE, deepE, lcZ, dcZ, dispZ, pnilZ, pconsZ, oneD, walkU, srcU, walkE, srcE, walkR1, walkR2, walkS, joinedZ, jconsZ, jnilZ, fmtZ, dgetZ, dinZ, dninZ, bmZ, intZ0, intZ, uintZ, getZ, sliceZ, partZ, noPartZ, cutQ, yesZ, Z.lenZ, lenQ, listZ, listHZ, tupleZ, sortedSZ, allZ, anyZ, intZ1, strIZ, mulSZ, addZ, repHZ, repZ, appendZ, extendZ, insertZ, countSZ, joinZ, isBlZ, inZ, isOwnQ, eqZ_int, eqZ_str, eqZ_bl, neZ_int, neZ_str, neZ_bl, lenOwnZ, strOwnZ, reprZ, wipeE, kwD, List.set_cons_zero, List.set_cons_succ, List.getElem?_cons_zero, List.getElem?_cons_succ, List.map_cons, List.map_nil, List.cons_append, List.nil_append, List.append_nil, List.length_cons, List.length_nil, Nat.reduceAdd, Nat.reduceSub, List.replicate_succ, List.replicate_zero, if_true, if_false, Bool.false_eq_true, Nat.zero_add]
  refine ⟨by omega, ?_⟩
  by_cases hc : (0 : Int) < (m : Int) / 2 ^ ((i : Int)).toNat
  · rw [decide_eq_true hc]
    simp only [if_true]
    refine ⟨by omega, ?_⟩
    rw [bitAnd1, b2i1]
    have hc' : 0 < m / 2 ^ i := (shr_pos m i).mp hc
    have hi : i < 16 := by
      apply Nat.lt_of_not_le
      intro hle
      have : m / 2 ^ i = 0 := Nat.div_eq_of_lt (Nat.lt_of_lt_of_le hm (Nat.pow_le_pow_right (by decide) hle))
      omega
    have ht : List.range (i + 1) = List.range i ++ [i] := List.range_succ
    cases hb : m.testBit i with
    | true =>
      simp only [if_true]
      refine ⟨tyL_new _ _, _, at_new _ _, ?_, hk _ _ ⟨r - 1, by omega, i + 1, by omega, ?_, ?_⟩⟩
      · have := List.length_filter_le m.testBit (List.range i)
        simp only [List.length_map, List.length_range] at this ⊢
        omega
      · have e1 : (i : Int) + 1 = ((i + 1 : Nat) : Int) := by omega
        rw [e1]
      · rw [set_new, ht, List.filter_append, List.map_append]
        simp [hb]
    | false =>
      simp only [Bool.false_eq_true, if_false]
      refine hk _ _ ⟨r - 1, by omega, i + 1, by omega, ?_, ?_⟩
      · have e1 : (i : Int) + 1 = ((i + 1 : Nat) : Int) := by omega
        rw [e1]
      · rw [ht, List.filter_append, List.map_append]
        simp [hb]
  · rw [decide_eq_false hc]
    simp only [Bool.false_eq_true, if_false]
    refine .inl ?_
    have hz : m / 2 ^ i = 0 := Nat.eq_zero_of_not_pos fun z => hc ((shr_pos m i).mpr z)
    have hlt : m < 2 ^ i := by
      rcases Nat.div_eq_zero_iff.mp hz with h0 | h0
      · exact absurd h0 (Nat.ne_of_gt (Nat.two_pow_pos i))
      · exact h0
    have e : (List.range 16).filter m.testBit = (List.range i).filter m.testBit := by
      have e16 : 16 = i + r := by omega
      rw [e16, List.range_add, List.filter_append]
      have e2 : ((List.range r).map (i + ·)).filter m.testBit = [] := by
        rw [List.filter_eq_nil_iff]
        intro k hk
        obtain ⟨j, _, rfl⟩ := List.mem_map.mp hk
        rw [Nat.testBit_lt_two_pow (Nat.lt_of_lt_of_le hlt (Nat.pow_le_pow_right (by decide) (Nat.le_add_right i j)))]
        simp
      rw [e2, List.append_nil]
    rw [e] at h
    exact h
theorem s_Company_restless (hl : ds.length = 1) (h : m_Company_restless α ds S Q E) : bodyZ 3 (g_Company_restless α) ds S Q E := by
  obtain ⟨M, ok, rfl, h⟩ := h
  simp only [g_Company_restless, bodyZ, seqG, asgG, dropG, retG, retNG, ifG, skipG, augG, parG, par3G, frzG, setFldG, asgTG, forG, nameT, tupT, consT, nilT, subT, attrT, varZ, cZ, binZ, unZ, caZ, boolZ, andZ, orZ, notZ, andV, orV, notV, ifZ, chainZ, nilZ, consZ, tupZ, lstZ, lstHZ, callZ, methZ, makeZ, makeNZ, fldZ, frzE, deepE, lcZ, dcZ, dispZ, pnilZ, pconsZ, oneD, walkU, srcU, walkE, srcE, walkR1, walkR2, walkS, joinedZ, jconsZ, jnilZ, fmtZ, dgetZ, dinZ, dninZ, bmZ, intZ0, intZ, uintZ, getZ, sliceZ, partZ, noPartZ, cutQ, yesZ, Z.lenZ, lenQ, listZ, listHZ, tupleZ, sortedSZ, allZ, anyZ, intZ1, strIZ, mulSZ, addZ, repHZ, repZ, appendZ, extendZ, insertZ, countSZ, joinZ, isBlZ, inZ, isOwnQ, eqZ_int, eqZ_str, eqZ_bl, neZ_int, neZ_str, neZ_bl, lenOwnZ, strOwnZ, reprZ, wipeE, kwD, List.set_cons_zero, List.set_cons_succ, List.getElem?_cons_zero, List.getElem?_cons_succ, List.map_cons, List.map_nil, List.cons_append, List.nil_append, List.append_nil, List.length_cons, List.length_nil, Nat.reduceAdd, Nat.reduceSub, List.replicate_succ, List.replicate_zero, if_true, if_false, Bool.false_eq_true, Nat.zero_add]
  refine ⟨_, _, rfl, val_folk M, ?_⟩
  simp only [bodyZ, seqG, asgG, dropG, retG, retNG, ifG, skipG, augG, parG, par3G, frzG, setFldG, asgTG, forG, nameT, tupT, consT, nilT, subT, attrT, varZ, cZ, binZ, unZ, caZ, boolZ, andZ, orZ, notZ, andV, orV, notV, ifZ, chainZ, nilZ, consZ, tupZ, lstZ, lstHZ, callZ, methZ, makeZ, makeNZ, fldZ, frzE, deepE, lcZ, dcZ, dispZ, pnilZ, pconsZ, oneD, walkU, srcU, walkE, srcE, walkR1, walkR2, walkS, joinedZ, jconsZ, jnilZ, fmtZ, dgetZ, dinZ, dninZ, bmZ, intZ0, intZ, uintZ, getZ, sliceZ, partZ, noPartZ, cutQ, yesZ, Z.lenZ, lenQ, listZ, listHZ, tupleZ, sortedSZ, allZ, anyZ, intZ1, strIZ, mulSZ, addZ, repHZ, repZ, appendZ, extendZ, insertZ, countSZ, joinZ, isBlZ, inZ, isOwnQ, eqZ_int, eqZ_str, eqZ_bl, neZ_int, neZ_str, neZ_bl, lenOwnZ, strOwnZ, reprZ, wipeE, kwD, List.set_cons_zero, List.set_cons_succ, List.getElem?_cons_zero, List.getElem?_cons_succ, List.map_cons, List.map_nil, List.cons_append, List.nil_append, List.append_nil, List.length_cons, List.length_nil, Nat.reduceAdd, Nat.reduceSub, List.replicate_succ, List.replicate_zero, if_true, if_false, Bool.false_eq_true, Nat.zero_add]
  refine lc_pure (fun d => match d with
    | .tup [.int i, x] => if M.R i.toNat i.toNat = true then some x else none
    | _ => none) (by rw [enumD_len]; simp; have := ok.few; omega) (fun _ => trivial) (fun x hx l k k' h1 h2 => ?_) (.inl ?_)
  · obtain ⟨i, hi⟩ := List.getElem?_of_mem hx
    obtain ⟨d, h3, rfl⟩ := enumD_at hi
    have hin : i < M.n := by have := (List.getElem?_eq_some_iff.mp h3).1; simpa using this
    rw [List.getElem?_map, nm_at M hin] at h3
    cases h3
    simp only [bodyZ, seqG, asgG, dropG, retG, retNG, ifG, skipG, augG, parG, par3G, frzG, setFldG, asgTG, forG, nameT, tupT, consT, nilT, subT, attrT, varZ, cZ, binZ, unZ, caZ, boolZ, andZ, orZ, notZ, andV, orV, notV, ifZ, chainZ, nilZ, consZ, tupZ, lstZ, lstHZ, callZ, methZ, makeZ, makeNZ, fldZ, frzE, deepE, lcZ, dcZ, dispZ, pnilZ, pconsZ, oneD, walkU, srcU, walkE, srcE, walkR1, walkR2, walkS, joinedZ, jconsZ, jnilZ, fmtZ, dgetZ, dinZ, dninZ, bmZ, intZ0, intZ, uintZ, getZ, sliceZ, partZ, noPartZ, cutQ, yesZ, Z.lenZ, lenQ, listZ, listHZ, tupleZ, sortedSZ, allZ, anyZ, intZ1, strIZ, mulSZ, addZ, repHZ, repZ, appendZ, extendZ, insertZ, countSZ, joinZ, isBlZ, inZ, isOwnQ, eqZ_int, eqZ_str, eqZ_bl, neZ_int, neZ_str, neZ_bl, lenOwnZ, strOwnZ, reprZ, wipeE, kwD, List.set_cons_zero, List.set_cons_succ, List.getElem?_cons_zero, List.getElem?_cons_succ, List.map_cons, List.map_nil, List.cons_append, List.nil_append, List.append_nil, List.length_cons, List.length_nil, Nat.reduceAdd, Nat.reduceSub, List.replicate_succ, List.replicate_zero, if_true, if_false, Bool.false_eq_true, Nat.zero_add]
    refine ⟨trivial, _, _, rfl, val_table M, _, _, rfl, tab_at M hin, by omega, ?_⟩
    simp only [bodyZ, seqG, asgG, dropG, retG, retNG, ifG, skipG, augG, parG, par3G, frzG, setFldG, asgTG, forG, nameT, tupT, consT, nilT, subT, attrT, varZ, cZ, binZ, unZ, caZ, boolZ, andZ, orZ, notZ, andV, orV, notV, ifZ, chainZ, nilZ, consZ, tupZ, lstZ, lstHZ, callZ, methZ, makeZ, makeNZ, fldZ, frzE, deepE, lcZ, dcZ, dispZ, pnilZ, pconsZ, oneD, walkU, srcU, walkE, srcE, walkR1, walkR2, walkS, joinedZ, jconsZ, jnilZ, fmtZ, dgetZ, dinZ, dninZ, bmZ, intZ0, intZ, uintZ, getZ, sliceZ, partZ, noPartZ, cutQ, yesZ, Z.lenZ, lenQ, listZ, listHZ, tupleZ, sortedSZ, allZ, anyZ, intZ1, strIZ, mulSZ, addZ, repHZ, repZ, appendZ, extendZ, insertZ, countSZ, joinZ, isBlZ, inZ, isOwnQ, eqZ_int, eqZ_str, eqZ_bl, neZ_int, neZ_str, neZ_bl, lenOwnZ, strOwnZ, reprZ, wipeE, kwD, List.set_cons_zero, List.set_cons_succ, List.getElem?_cons_zero, List.getElem?_cons_succ, List.map_cons, List.map_nil, List.cons_append, List.nil_append, List.append_nil, List.length_cons, List.length_nil, Nat.reduceAdd, Nat.reduceSub, List.replicate_succ, List.replicate_zero, if_true, if_false, Bool.false_eq_true, Nat.zero_add]
    rw [bitAnd1, mask_test, b2i1]
    simp only [hin, decide_true, Bool.true_and]
    cases hR : M.R i i with
    | true => exact h1 _ (by simp [hR])
    | false => exact h2 (by simp [hR])
  · have e : (enumD (M.ns.map D.str)).filterMap (fun d => match d with
        | .tup [.int i, x] => if M.R i.toNat i.toNat = true then some x else none
        | _ => none) = (restS M).map .str := by
      unfold restS restI
      conv => lhs; rw [ns_eq M]
      rw [List.map_map, enumD_range, List.filterMap_map, List.map_map]
      exact filterMap_if (fun i => M.R i i) _ _
    rw [e]
    exact h
end
end K01
namespace K01
open PySem L2 Z
section
variable (α : Ad) (ds : List D) (S : Store) (Q : D → Store → Prop) (E : XD → Store → Prop)
theorem fl_pr (M : Md) (p : Nat × Nat) : Fl (M.pr p) := Fl.tup fun d hd => by
  rcases List.mem_cons.mp hd with rfl | hd
  · exact Fl.str _
  · rw [List.mem_singleton.mp hd]; exact Fl.str _
theorem s_Company_near (hl : ds.length = 2) (h : m_Company_near α ds S Q E) : bodyZ 4 (g_Company_near α) ds S Q E := by
  obtain ⟨M, i, ok, hi, rfl, h⟩ := h
  simp only [g_Company_near, bodyZ, seqG, asgG, dropG, retG, retNG, ifG, skipG, augG, parG, par3G, frzG, setFldG, asgTG, forG, nameT, tupT, consT, nilT, subT, attrT, varZ, cZ, binZ, unZ, caZ, boolZ, andZ, orZ, notZ, andV, orV, notV, ifZ, chainZ, nilZ, consZ, tupZ, lstZ, lstHZ, callZ, methZ, makeZ, makeNZ, fldZ, frzE, deepE, lcZ, dcZ, dispZ, pnilZ, pconsZ, oneD, walkU, srcU, walkE, srcE, walkR1, walkR2, walkS, joinedZ, jconsZ, jnilZ, fmtZ, dgetZ, dinZ, dninZ, bmZ, intZ0, intZ, uintZ, getZ, sliceZ, partZ, noPartZ, cutQ, yesZ, Z.lenZ, lenQ, listZ, listHZ, tupleZ, sortedSZ, allZ, anyZ, intZ1, strIZ, mulSZ, addZ, repHZ, repZ, appendZ, extendZ, insertZ, countSZ, joinZ, isBlZ, inZ, isOwnQ, eqZ_int, eqZ_str, eqZ_bl, neZ_int, neZ_str, neZ_bl, lenOwnZ, strOwnZ, reprZ, wipeE, kwD, List.set_cons_zero, List.set_cons_succ, List.getElem?_cons_zero, List.getElem?_cons_succ, List.map_cons, List.map_nil, List.cons_append, List.nil_append, List.append_nil, List.length_cons, List.length_nil, Nat.reduceAdd, Nat.reduceSub, List.replicate_succ, List.replicate_zero, if_true, if_false, Bool.false_eq_true, Nat.zero_add]
  refine ⟨⟨_, rfl, val_no M (by decide +kernel) (by decide +kernel) (by decide +kernel)⟩, trivial, M, i, ok, hi, rfl, ?_⟩
  simp only [bodyZ, seqG, asgG, dropG, retG, retNG, ifG, skipG, augG, parG, par3G, frzG, setFldG, asgTG, forG, nameT, tupT, consT, nilT, subT, attrT, varZ, cZ, binZ, unZ, caZ, boolZ, andZ, orZ, notZ, andV, orV, notV, ifZ, chainZ, nilZ, consZ, tupZ, lstZ, lstHZ, callZ, methZ, makeZ, makeNZ, fldZ, frzE, deepE, lcZ, dcZ, dispZ, pnilZ, pconsZ, oneD, walkU, srcU, walkE, srcE, walkR1, walkR2, walkS, joinedZ, jconsZ, jnilZ, fmtZ, dgetZ, dinZ, dninZ, bmZ, intZ0, intZ, uintZ, getZ, sliceZ, partZ, noPartZ, cutQ, yesZ, Z.lenZ, lenQ, listZ, listHZ, tupleZ, sortedSZ, allZ, anyZ, intZ1, strIZ, mulSZ, addZ, repHZ, repZ, appendZ, extendZ, insertZ, countSZ, joinZ, isBlZ, inZ, isOwnQ, eqZ_int, eqZ_str, eqZ_bl, neZ_int, neZ_str, neZ_bl, lenOwnZ, strOwnZ, reprZ, wipeE, kwD, List.set_cons_zero, List.set_cons_succ, List.getElem?_cons_zero, List.getElem?_cons_succ, List.map_cons, List.map_nil, List.cons_append, List.nil_append, List.append_nil, List.length_cons, List.length_nil, Nat.reduceAdd, Nat.reduceSub, List.replicate_succ, List.replicate_zero, if_true, if_false, Bool.false_eq_true, Nat.zero_add]
  refine ⟨_, _, rfl, val_table M, _, _, rfl, tab_at M hi, trivial, _, rfl, mask_16 ok.few, frz_lst (Fl.map fun _ => Fl.int _) ?_⟩
  simp only [bodyZ, seqG, asgG, dropG, retG, retNG, ifG, skipG, augG, parG, par3G, frzG, setFldG, asgTG, forG, nameT, tupT, consT, nilT, subT, attrT, varZ, cZ, binZ, unZ, caZ, boolZ, andZ, orZ, notZ, andV, orV, notV, ifZ, chainZ, nilZ, consZ, tupZ, lstZ, lstHZ, callZ, methZ, makeZ, makeNZ, fldZ, frzE, deepE, lcZ, dcZ, dispZ, pnilZ, pconsZ, oneD, walkU, srcU, walkE, srcE, walkR1, walkR2, walkS, joinedZ, jconsZ, jnilZ, fmtZ, dgetZ, dinZ, dninZ, bmZ, intZ0, intZ, uintZ, getZ, sliceZ, partZ, noPartZ, cutQ, yesZ, Z.lenZ, lenQ, listZ, listHZ, tupleZ, sortedSZ, allZ, anyZ, intZ1, strIZ, mulSZ, addZ, repHZ, repZ, appendZ, extendZ, insertZ, countSZ, joinZ, isBlZ, inZ, isOwnQ, eqZ_int, eqZ_str, eqZ_bl, neZ_int, neZ_str, neZ_bl, lenOwnZ, strOwnZ, reprZ, wipeE, kwD, List.set_cons_zero, List.set_cons_succ, List.getElem?_cons_zero, List.getElem?_cons_succ, List.map_cons, List.map_nil, List.cons_append, List.nil_append, List.append_nil, List.length_cons, List.length_nil, Nat.reduceAdd, Nat.reduceSub, List.replicate_succ, List.replicate_zero, if_true, if_false, Bool.false_eq_true, Nat.zero_add]
  rw [mask_bits ok.few]
  refine lc_pure (fun d => match d with
    | .int k => if decide (k ≠ (i : Int)) = true then some (.str (M.nm k.toNat)) else none
    | _ => none) ?_ (fun _ => trivial) (fun x hx l k k' h1 h2 => ?_) (.inl ?_)
  · rw [List.length_map]
    exact Nat.lt_of_le_of_lt (filt_len _ _) (Nat.lt_of_le_of_lt ok.few (by decide))
  · obtain ⟨j, hj, rfl⟩ := List.mem_map.mp hx
    have hjn : j < M.n := List.mem_range.mp (List.mem_filter.mp hj).1
    simp only [bodyZ, seqG, asgG, dropG, retG, retNG, ifG, skipG, augG, parG, par3G, frzG, setFldG, asgTG, forG, nameT, tupT, consT, nilT, subT, attrT, varZ, cZ, binZ, unZ, caZ, boolZ, andZ, orZ, notZ, andV, orV, notV, ifZ, chainZ, nilZ, consZ, tupZ, lstZ, lstHZ, callZ, methZ, makeZ, makeNZ, fldZ, frzE, deepE, lcZ, dcZ, dispZ, pnilZ, pconsZ, oneD, walkU, srcU, walkE, srcE, walkR1, walkR2, walkS, joinedZ, jconsZ, jnilZ, fmtZ, dgetZ, dinZ, dninZ, bmZ, intZ0, intZ, uintZ, getZ, sliceZ, partZ, noPartZ, cutQ, yesZ, Z.lenZ, lenQ, listZ, listHZ, tupleZ, sortedSZ, allZ, anyZ, intZ1, strIZ, mulSZ, addZ, repHZ, repZ, appendZ, extendZ, insertZ, countSZ, joinZ, isBlZ, inZ, isOwnQ, eqZ_int, eqZ_str, eqZ_bl, neZ_int, neZ_str, neZ_bl, lenOwnZ, strOwnZ, reprZ, wipeE, kwD, List.set_cons_zero, List.set_cons_succ, List.getElem?_cons_zero, List.getElem?_cons_succ, List.map_cons, List.map_nil, List.cons_append, List.nil_append, List.append_nil, List.length_cons, List.length_nil, Nat.reduceAdd, Nat.reduceSub, List.replicate_succ, List.replicate_zero, if_true, if_false, Bool.false_eq_true, Nat.zero_add]
    by_cases hji : (j : Int) = i
    · rw [decide_eq_true hji]
      exact h2 (by simp [hji])
    · rw [decide_eq_false hji]
      simp only [Bool.not_false, if_true]
      exact ⟨_, _, rfl, val_folk M, _, _, rfl, folk_at M hjn, h1 _ (by simp [hji])⟩
  · have e : (((List.range M.n).filter (M.R i)).map fun i => D.int (i : Nat)).filterMap (fun d => match d with
        | .int k => if decide (k ≠ (i : Int)) = true then some (D.str (M.nm k.toNat)) else none
        | _ => none) = ((nearI M i).map M.nm).map .str := by
      rw [List.filterMap_map, List.map_map]
      have z := filterMap_if (fun k : Nat => decide ((k : Int) ≠ (i : Int))) (fun k => D.str (M.nm k)) ((List.range M.n).filter (M.R i))
      rw [List.filter_filter] at z
      have e2 : nearI M i = (List.range M.n).filter fun (a : Nat) => decide ((a : Int) ≠ (i : Int)) && M.R i a := by
        unfold nearI
        apply List.filter_congr
        intro k _
        have : decide (k ≠ i) = decide ((k : Int) ≠ (i : Int)) := by
          apply decide_eq_decide.mpr
          omega
        rw [this, Bool.and_comm]
      rw [e2]
      exact z
    rw [e]
    exact h
theorem s_Company_knows (hl : ds.length = 3) (h : m_Company_knows α ds S Q E) : bodyZ 5 (g_Company_knows α) ds S Q E := by
  obtain ⟨M, i, j, ok, hi, hj, rfl, h⟩ := h
  simp only [g_Company_knows, bodyZ, seqG, asgG, dropG, retG, retNG, ifG, skipG, augG, parG, par3G, frzG, setFldG, asgTG, forG, nameT, tupT, consT, nilT, subT, attrT, varZ, cZ, binZ, unZ, caZ, boolZ, andZ, orZ, notZ, andV, orV, notV, ifZ, chainZ, nilZ, consZ, tupZ, lstZ, lstHZ, callZ, methZ, makeZ, makeNZ, fldZ, frzE, deepE, lcZ, dcZ, dispZ, pnilZ, pconsZ, oneD, walkU, srcU, walkE, srcE, walkR1, walkR2, walkS, joinedZ, jconsZ, jnilZ, fmtZ, dgetZ, dinZ, dninZ, bmZ, intZ0, intZ, uintZ, getZ, sliceZ, partZ, noPartZ, cutQ, yesZ, Z.lenZ, lenQ, listZ, listHZ, tupleZ, sortedSZ, allZ, anyZ, intZ1, strIZ, mulSZ, addZ, repHZ, repZ, appendZ, extendZ, insertZ, countSZ, joinZ, isBlZ, inZ, isOwnQ, eqZ_int, eqZ_str, eqZ_bl, neZ_int, neZ_str, neZ_bl, lenOwnZ, strOwnZ, reprZ, wipeE, kwD, List.set_cons_zero, List.set_cons_succ, List.getElem?_cons_zero, List.getElem?_cons_succ, List.map_cons, List.map_nil, List.cons_append, List.nil_append, List.append_nil, List.length_cons, List.length_nil, Nat.reduceAdd, Nat.reduceSub, List.replicate_succ, List.replicate_zero, if_true, if_false, Bool.false_eq_true, Nat.zero_add]
  refine ⟨⟨_, rfl, val_no M (by decide +kernel) (by decide +kernel) (by decide +kernel)⟩, trivial, M, i, ok, hi, rfl, ?_⟩
  refine ⟨⟨_, rfl, val_no M (by decide +kernel) (by decide +kernel) (by decide +kernel)⟩, trivial, M, j, ok, hj, rfl, ?_⟩
  simp only [bodyZ, seqG, asgG, dropG, retG, retNG, ifG, skipG, augG, parG, par3G, frzG, setFldG, asgTG, forG, nameT, tupT, consT, nilT, subT, attrT, varZ, cZ, binZ, unZ, caZ, boolZ, andZ, orZ, notZ, andV, orV, notV, ifZ, chainZ, nilZ, consZ, tupZ, lstZ, lstHZ, callZ, methZ, makeZ, makeNZ, fldZ, frzE, deepE, lcZ, dcZ, dispZ, pnilZ, pconsZ, oneD, walkU, srcU, walkE, srcE, walkR1, walkR2, walkS, joinedZ, jconsZ, jnilZ, fmtZ, dgetZ, dinZ, dninZ, bmZ, intZ0, intZ, uintZ, getZ, sliceZ, partZ, noPartZ, cutQ, yesZ, Z.lenZ, lenQ, listZ, listHZ, tupleZ, sortedSZ, allZ, anyZ, intZ1, strIZ, mulSZ, addZ, repHZ, repZ, appendZ, extendZ, insertZ, countSZ, joinZ, isBlZ, inZ, isOwnQ, eqZ_int, eqZ_str, eqZ_bl, neZ_int, neZ_str, neZ_bl, lenOwnZ, strOwnZ, reprZ, wipeE, kwD, List.set_cons_zero, List.set_cons_succ, List.getElem?_cons_zero, List.getElem?_cons_succ, List.map_cons, List.map_nil, List.cons_append, List.nil_append, List.append_nil, List.length_cons, List.length_nil, Nat.reduceAdd, Nat.reduceSub, List.replicate_succ, List.replicate_zero, if_true, if_false, Bool.false_eq_true, Nat.zero_add]
  by_cases hij : (i : Int) = j
  · rw [decide_eq_true hij]
    have : decide (i ≠ j) = false := by simp; omega
    rw [this, Bool.false_and] at h
    exact .inl h
  · rw [decide_eq_false hij]
    have : decide (i ≠ j) = true := by simp; omega
    rw [this, Bool.true_and] at h
    simp only [Bool.not_false, if_true]
    refine ⟨_, _, rfl, val_table M, _, _, rfl, tab_at M hi, by omega, ?_⟩
    simp only [bodyZ, seqG, asgG, dropG, retG, retNG, ifG, skipG, augG, parG, par3G, frzG, setFldG, asgTG, forG, nameT, tupT, consT, nilT, subT, attrT, varZ, cZ, binZ, unZ, caZ, boolZ, andZ, orZ, notZ, andV, orV, notV, ifZ, chainZ, nilZ, consZ, tupZ, lstZ, lstHZ, callZ, methZ, makeZ, makeNZ, fldZ, frzE, deepE, lcZ, dcZ, dispZ, pnilZ, pconsZ, oneD, walkU, srcU, walkE, srcE, walkR1, walkR2, walkS, joinedZ, jconsZ, jnilZ, fmtZ, dgetZ, dinZ, dninZ, bmZ, intZ0, intZ, uintZ, getZ, sliceZ, partZ, noPartZ, cutQ, yesZ, Z.lenZ, lenQ, listZ, listHZ, tupleZ, sortedSZ, allZ, anyZ, intZ1, strIZ, mulSZ, addZ, repHZ, repZ, appendZ, extendZ, insertZ, countSZ, joinZ, isBlZ, inZ, isOwnQ, eqZ_int, eqZ_str, eqZ_bl, neZ_int, neZ_str, neZ_bl, lenOwnZ, strOwnZ, reprZ, wipeE, kwD, List.set_cons_zero, List.set_cons_succ, List.getElem?_cons_zero, List.getElem?_cons_succ, List.map_cons, List.map_nil, List.cons_append, List.nil_append, List.append_nil, List.length_cons, List.length_nil, Nat.reduceAdd, Nat.reduceSub, List.replicate_succ, List.replicate_zero, if_true, if_false, Bool.false_eq_true, Nat.zero_add]
    rw [bitAnd1, mask_test, b2i1, decide_eq_true hj, Bool.true_and]
    exact .inl h
theorem s_Company_ties (hl : ds.length = 1) (h : m_Company_ties α ds S Q E) : bodyZ 5 (g_Company_ties α) ds S Q E := by
  obtain ⟨M, ok, rfl, h⟩ := h
  simp only [g_Company_ties, bodyZ, seqG, asgG, dropG, retG, retNG, ifG, skipG, augG, parG, par3G, frzG, setFldG, asgTG, forG, nameT, tupT, consT, nilT, subT, attrT, varZ, cZ, binZ, unZ, caZ, boolZ, andZ, orZ, notZ, andV, orV, notV, ifZ, chainZ, nilZ, consZ, tupZ, lstZ, lstHZ, callZ, methZ, makeZ, makeNZ, fldZ, frzE, deepE, lcZ, dcZ, dispZ, pnilZ, pconsZ, oneD, walkU, srcU, walkE, srcE, walkR1, walkR2, walkS, joinedZ, jconsZ, jnilZ, fmtZ, dgetZ, dinZ, dninZ, bmZ, intZ0, intZ, uintZ, getZ, sliceZ, partZ, noPartZ, cutQ, yesZ, Z.lenZ, lenQ, listZ, listHZ, tupleZ, sortedSZ, allZ, anyZ, intZ1, strIZ, mulSZ, addZ, repHZ, repZ, appendZ, extendZ, insertZ, countSZ, joinZ, isBlZ, inZ, isOwnQ, eqZ_int, eqZ_str, eqZ_bl, neZ_int, neZ_str, neZ_bl, lenOwnZ, strOwnZ, reprZ, wipeE, kwD, List.set_cons_zero, List.set_cons_succ, List.getElem?_cons_zero, List.getElem?_cons_succ, List.map_cons, List.map_nil, List.cons_append, List.nil_append, List.append_nil, List.length_cons, List.length_nil, Nat.reduceAdd, Nat.reduceSub, List.replicate_succ, List.replicate_zero, if_true, if_false, Bool.false_eq_true, Nat.zero_add]
  refine ⟨by decide, _, _, rfl, val_folk M, ?_⟩
  simp only [bodyZ, seqG, asgG, dropG, retG, retNG, ifG, skipG, augG, parG, par3G, frzG, setFldG, asgTG, forG, nameT, tupT, consT, nilT, subT, attrT, varZ, cZ, binZ, unZ, caZ, boolZ, andZ, orZ, notZ, andV, orV, notV, ifZ, chainZ, nilZ, consZ, tupZ, lstZ, lstHZ, callZ, methZ, makeZ, makeNZ, fldZ, frzE, deepE, lcZ, dcZ, dispZ, pnilZ, pconsZ, oneD, walkU, srcU, walkE, srcE, walkR1, walkR2, walkS, joinedZ, jconsZ, jnilZ, fmtZ, dgetZ, dinZ, dninZ, bmZ, intZ0, intZ, uintZ, getZ, sliceZ, partZ, noPartZ, cutQ, yesZ, Z.lenZ, lenQ, listZ, listHZ, tupleZ, sortedSZ, allZ, anyZ, intZ1, strIZ, mulSZ, addZ, repHZ, repZ, appendZ, extendZ, insertZ, countSZ, joinZ, isBlZ, inZ, isOwnQ, eqZ_int, eqZ_str, eqZ_bl, neZ_int, neZ_str, neZ_bl, lenOwnZ, strOwnZ, reprZ, wipeE, kwD, List.set_cons_zero, List.set_cons_succ, List.getElem?_cons_zero, List.getElem?_cons_succ, List.map_cons, List.map_nil, List.cons_append, List.nil_append, List.append_nil, List.length_cons, List.length_nil, Nat.reduceAdd, Nat.reduceSub, List.replicate_succ, List.replicate_zero, if_true, if_false, Bool.false_eq_true, Nat.zero_add]
  refine loop_at _ (fun i δ S' => i ≤ M.n ∧ (∃ x y, δ = [some (coM α M), some (.hnd S.length), x, y, none]) ∧ S' = S ++ [.lst ((tiesTo M i).map M.pr)]) ⟨Nat.zero_le _, ⟨_, _, rfl⟩, rfl⟩ (fun δ S' hP => ?_) (fun i x δ S' k hx hP hk => ?_)
  · obtain ⟨_, ⟨x, y, rfl⟩, rfl⟩ := hP
    refine ⟨trivial, ?_⟩
    simp only [bodyZ, seqG, asgG, dropG, retG, retNG, ifG, skipG, augG, parG, par3G, frzG, setFldG, asgTG, forG, nameT, tupT, consT, nilT, subT, attrT, varZ, cZ, binZ, unZ, caZ, boolZ, andZ, orZ, notZ, andV, orV, notV, ifZ, chainZ, nilZ, consZ, tupZ, lstZ, lstHZ, callZ, methZ, makeZ, makeNZ, fldZ, frzE, deepE, lcZ, dcZ, dispZ, pnilZ, pconsZ, oneD, walkU, srcU, walkE, srcE, walkR1, walkR2, walkS, joinedZ, jconsZ, jnilZ, fmtZ, dgetZ, dinZ, dninZ, bmZ, intZ0, intZ, uintZ, getZ, sliceZ, partZ, noPartZ, cutQ, yesZ, Z.lenZ, lenQ, listZ, listHZ, tupleZ, sortedSZ, allZ, anyZ, intZ1, strIZ, mulSZ, addZ, repHZ, repZ, appendZ, extendZ, insertZ, countSZ, joinZ, isBlZ, inZ, isOwnQ, eqZ_int, eqZ_str, eqZ_bl, neZ_int, neZ_str, neZ_bl, lenOwnZ, strOwnZ, reprZ, wipeE, kwD, List.set_cons_zero, List.set_cons_succ, List.getElem?_cons_zero, List.getElem?_cons_succ, List.map_cons, List.map_nil, List.cons_append, List.nil_append, List.append_nil, List.length_cons, List.length_nil, Nat.reduceAdd, Nat.reduceSub, List.replicate_succ, List.replicate_zero, if_true, if_false, Bool.false_eq_true, Nat.zero_add]
    rw [enumD_len, List.length_map]
    exact .inl h
  · obtain ⟨hin0, ⟨x0, y0, rfl⟩, rfl⟩ := hP
    obtain ⟨d, h3, rfl⟩ := enumD_at hx
    have hin : i < M.n := by have := (List.getElem?_eq_some_iff.mp h3).1; simpa using this
    rw [List.getElem?_map, nm_at M hin] at h3
    cases h3
    simp only [bodyZ, seqG, asgG, dropG, retG, retNG, ifG, skipG, augG, parG, par3G, frzG, setFldG, asgTG, forG, nameT, tupT, consT, nilT, subT, attrT, varZ, cZ, binZ, unZ, caZ, boolZ, andZ, orZ, notZ, andV, orV, notV, ifZ, chainZ, nilZ, consZ, tupZ, lstZ, lstHZ, callZ, methZ, makeZ, makeNZ, fldZ, frzE, deepE, lcZ, dcZ, dispZ, pnilZ, pconsZ, oneD, walkU, srcU, walkE, srcE, walkR1, walkR2, walkS, joinedZ, jconsZ, jnilZ, fmtZ, dgetZ, dinZ, dninZ, bmZ, intZ0, intZ, uintZ, getZ, sliceZ, partZ, noPartZ, cutQ, yesZ, Z.lenZ, lenQ, listZ, listHZ, tupleZ, sortedSZ, allZ, anyZ, intZ1, strIZ, mulSZ, addZ, repHZ, repZ, appendZ, extendZ, insertZ, countSZ, joinZ, isBlZ, inZ, isOwnQ, eqZ_int, eqZ_str, eqZ_bl, neZ_int, neZ_str, neZ_bl, lenOwnZ, strOwnZ, reprZ, wipeE, kwD, List.set_cons_zero, List.set_cons_succ, List.getElem?_cons_zero, List.getElem?_cons_succ, List.map_cons, List.map_nil, List.cons_append, List.nil_append, List.append_nil, List.length_cons, List.length_nil, Nat.reduceAdd, Nat.reduceSub, List.replicate_succ, List.replicate_zero, if_true, if_false, Bool.false_eq_true, Nat.zero_add]
    refine ⟨trivial, trivial, tyL_new _ _, _, _, rfl, val_table M, _, _, rfl, tab_at M hin, trivial, _, rfl, mask_16 ok.few, frz_lst (Fl.map fun _ => Fl.int _) ?_⟩
    simp only [bodyZ, seqG, asgG, dropG, retG, retNG, ifG, skipG, augG, parG, par3G, frzG, setFldG, asgTG, forG, nameT, tupT, consT, nilT, subT, attrT, varZ, cZ, binZ, unZ, caZ, boolZ, andZ, orZ, notZ, andV, orV, notV, ifZ, chainZ, nilZ, consZ, tupZ, lstZ, lstHZ, callZ, methZ, makeZ, makeNZ, fldZ, frzE, deepE, lcZ, dcZ, dispZ, pnilZ, pconsZ, oneD, walkU, srcU, walkE, srcE, walkR1, walkR2, walkS, joinedZ, jconsZ, jnilZ, fmtZ, dgetZ, dinZ, dninZ, bmZ, intZ0, intZ, uintZ, getZ, sliceZ, partZ, noPartZ, cutQ, yesZ, Z.lenZ, lenQ, listZ, listHZ, tupleZ, sortedSZ, allZ, anyZ, intZ1, strIZ, mulSZ, addZ, repHZ, repZ, appendZ, extendZ, insertZ, countSZ, joinZ, isBlZ, inZ, isOwnQ, eqZ_int, eqZ_str, eqZ_bl, neZ_int, neZ_str, neZ_bl, lenOwnZ, strOwnZ, reprZ, wipeE, kwD, List.set_cons_zero, List.set_cons_succ, List.getElem?_cons_zero, List.getElem?_cons_succ, List.map_cons, List.map_nil, List.cons_append, List.nil_append, List.append_nil, List.length_cons, List.length_nil, Nat.reduceAdd, Nat.reduceSub, List.replicate_succ, List.replicate_zero, if_true, if_false, Bool.false_eq_true, Nat.zero_add]
    rw [mask_bits ok.few]
    refine lc_pure (fun d => match d with
      | .int k => if decide ((i : Int) < k) = true then some (M.pr (i, k.toNat)) else none
      | _ => none) ?_ (fun _ => trivial) (fun x hx l k k' h1 h2 => ?_) (frz_lst ?_ ?_)
    · rw [List.length_map]
      exact Nat.lt_of_le_of_lt (filt_len _ _) (Nat.lt_of_le_of_lt ok.few (by decide))
    · obtain ⟨j, hj, rfl⟩ := List.mem_map.mp hx
      have hjn : j < M.n := List.mem_range.mp (List.mem_filter.mp hj).1
      simp only [bodyZ, seqG, asgG, dropG, retG, retNG, ifG, skipG, augG, parG, par3G, frzG, setFldG, asgTG, forG, nameT, tupT, consT, nilT, subT, attrT, varZ, cZ, binZ, unZ, caZ, boolZ, andZ, orZ, notZ, andV, orV, notV, ifZ, chainZ, nilZ, consZ, tupZ, lstZ, lstHZ, callZ, methZ, makeZ, makeNZ, fldZ, frzE, deepE, lcZ, dcZ, dispZ, pnilZ, pconsZ, oneD, walkU, srcU, walkE, srcE, walkR1, walkR2, walkS, joinedZ, jconsZ, jnilZ, fmtZ, dgetZ, dinZ, dninZ, bmZ, intZ0, intZ, uintZ, getZ, sliceZ, partZ, noPartZ, cutQ, yesZ, Z.lenZ, lenQ, listZ, listHZ, tupleZ, sortedSZ, allZ, anyZ, intZ1, strIZ, mulSZ, addZ, repHZ, repZ, appendZ, extendZ, insertZ, countSZ, joinZ, isBlZ, inZ, isOwnQ, eqZ_int, eqZ_str, eqZ_bl, neZ_int, neZ_str, neZ_bl, lenOwnZ, strOwnZ, reprZ, wipeE, kwD, List.set_cons_zero, List.set_cons_succ, List.getElem?_cons_zero, List.getElem?_cons_succ, List.map_cons, List.map_nil, List.cons_append, List.nil_append, List.append_nil, List.length_cons, List.length_nil, Nat.reduceAdd, Nat.reduceSub, List.replicate_succ, List.replicate_zero, if_true, if_false, Bool.false_eq_true, Nat.zero_add]
      by_cases hji : (i : Int) < j
      · rw [decide_eq_true hji]
        simp only [if_true]
        exact ⟨_, _, rfl, val_folk M, _, _, rfl, folk_at M hjn, by decide, h1 _ (by simp [hji]; rfl)⟩
      · rw [decide_eq_false hji]
        exact h2 (by simp [hji])
    · intro d hd
      obtain ⟨z, _, hz⟩ := List.mem_filterMap.mp hd
      split at hz
      · split at hz
        · cases hz; exact fl_pr M _
        · cases hz
      · cases hz
    · have e : (((List.range M.n).filter (M.R i)).map fun i => D.int (i : Nat)).filterMap (fun d => match d with
          | .int k => if decide ((i : Int) < k) = true then some (M.pr (i, k.toNat)) else none
          | _ => none) = (rowI M i).map M.pr := by
        unfold rowI
        rw [List.filterMap_map, List.map_map]
        have z := filterMap_if (fun k : Nat => decide ((i : Int) < (k : Int))) (fun k => M.pr (i, k)) ((List.range M.n).filter (M.R i))
        rw [List.filter_filter] at z
        have e2 : ((List.range M.n).filter fun k => decide (i < k) && M.R i k) = (List.range M.n).filter fun (a : Nat) => decide ((i : Int) < (a : Int)) && M.R i a := by
          apply List.filter_congr
          intro k _
          have : decide (i < k) = decide ((i : Int) < (k : Int)) := by
            apply decide_eq_decide.mpr
            omega
          rw [this]
        rw [e2]
        exact z
      rw [e]
      refine ⟨_, _, at_new _ _, rfl, ?_, hk _ _ ⟨hin, ⟨_, _, rfl⟩, ?_⟩⟩
      · rw [List.length_map, List.length_map, ← List.length_append, ← tiesTo_succ]
        have h4 := tiesTo_len M (i + 1)
        have h5 : (i + 1) * M.n ≤ 16 * 16 := Nat.mul_le_mul (Nat.le_trans hin ok.few) ok.few
        omega
      · rw [set_new, ← List.map_append, tiesTo_succ]
end
end K01
namespace K01
open PySem L2 Z
section
variable (α : Ad) (ds : List D) (S : Store) (Q : D → Store → Prop) (E : XD → Store → Prop)
theorem let_small : ∀ c ∈ LET.cps.toList, c < 0x110000 := by decide +kernel
theorem nc_name {x : Str} (h : okName x) : Nc (.str x) 0 8 := (Nc.str fun c hc => let_small c (h.2.2 c hc)).mono (Nat.le_refl _) h.2.1
theorem nm_ok {M : Md} (ok : Md.Ok M) {i : Nat} (h : i < M.n) : okName (M.nm i) := ok.okn _ (nm_mem M h)
theorem s_is_name (hl : ds.length = 1) (h : m_is_name α ds S Q E) : bodyZ 2 (g_is_name α) ds S Q E := by
  obtain ⟨x, rfl, ok, h⟩ := h
  simp only [g_is_name, bodyZ, seqG, asgG, dropG, retG, retNG, ifG, skipG, augG, parG, par3G, frzG, setFldG, asgTG, forG, nameT, tupT, consT, nilT, subT, attrT, varZ, cZ, binZ, unZ, caZ, boolZ, andZ, orZ, notZ, andV, orV, notV, ifZ, chainZ, nilZ, consZ, tupZ, lstZ, lstHZ, callZ, methZ, makeZ, makeNZ, fldZ, frzE, deepE, lcZ, dcZ, dispZ, pnilZ, pconsZ, oneD, walkU, srcU, walkE, srcE, walkR1, walkR2, walkS, joinedZ, jconsZ, jnilZ, fmtZ, dgetZ, dinZ, dninZ, bmZ, intZ0, intZ, uintZ, getZ, sliceZ, partZ, noPartZ, cutQ, yesZ, Z.lenZ, lenQ, listZ, listHZ, tupleZ, sortedSZ, allZ, anyZ, intZ1, strIZ, mulSZ, addZ, repHZ, repZ, appendZ, extendZ, insertZ, countSZ, joinZ, isBlZ, inZ, isOwnQ, eqZ_int, eqZ_str, eqZ_bl, neZ_int, neZ_str, neZ_bl, lenOwnZ, strOwnZ, reprZ, wipeE, kwD, List.set_cons_zero, List.set_cons_succ, List.getElem?_cons_zero, List.getElem?_cons_succ, List.map_cons, List.map_nil, List.cons_append, List.nil_append, List.append_nil, List.length_cons, List.length_nil, Nat.reduceAdd, Nat.reduceSub, List.replicate_succ, List.replicate_zero, if_true, if_false, Bool.false_eq_true, Nat.zero_add]
  have h1 : decide ((1 : Int) ≤ (x.length : Nat)) = true := decide_eq_true (by have := ok.1; omega)
  have h2 : decide (((x.length : Nat) : Int) ≤ 8) = true := decide_eq_true (by have := ok.2.1; omega)
  refine ⟨by have := ok.2.1; omega, ?_⟩
  rw [h1, h2]
  simp only [if_true]
  refine lc_pure (fun _ => some (.bl true)) ?_ (fun _ => trivial) (fun y hy l k k' k1 k2 => ?_) (frz_lst ?_ ?_)
  · unfold signsD
    rw [List.length_map]
    have : x.cps.toList.length = x.length := by simp [Str.length]
    have := ok.2.1
    omega
  · unfold signsD at hy
    obtain ⟨c, hc, rfl⟩ := List.mem_map.mp hy
    simp only [bodyZ, seqG, asgG, dropG, retG, retNG, ifG, skipG, augG, parG, par3G, frzG, setFldG, asgTG, forG, nameT, tupT, consT, nilT, subT, attrT, varZ, cZ, binZ, unZ, caZ, boolZ, andZ, orZ, notZ, andV, orV, notV, ifZ, chainZ, nilZ, consZ, tupZ, lstZ, lstHZ, callZ, methZ, makeZ, makeNZ, fldZ, frzE, deepE, lcZ, dcZ, dispZ, pnilZ, pconsZ, oneD, walkU, srcU, walkE, srcE, walkR1, walkR2, walkS, joinedZ, jconsZ, jnilZ, fmtZ, dgetZ, dinZ, dninZ, bmZ, intZ0, intZ, uintZ, getZ, sliceZ, partZ, noPartZ, cutQ, yesZ, Z.lenZ, lenQ, listZ, listHZ, tupleZ, sortedSZ, allZ, anyZ, intZ1, strIZ, mulSZ, addZ, repHZ, repZ, appendZ, extendZ, insertZ, countSZ, joinZ, isBlZ, inZ, isOwnQ, eqZ_int, eqZ_str, eqZ_bl, neZ_int, neZ_str, neZ_bl, lenOwnZ, strOwnZ, reprZ, wipeE, kwD, List.set_cons_zero, List.set_cons_succ, List.getElem?_cons_zero, List.getElem?_cons_succ, List.map_cons, List.map_nil, List.cons_append, List.nil_append, List.append_nil, List.length_cons, List.length_nil, Nat.reduceAdd, Nat.reduceSub, List.replicate_succ, List.replicate_zero, if_true, if_false, Bool.false_eq_true, Nat.zero_add]
    refine ⟨c, rfl, ?_⟩
    have e : decide (c ∈ (Str.ofString "abcdefghijklmnopqrstuvwxyz").cps.toList) = true := decide_eq_true (ok.2.2 c hc)
    rw [e]
    exact k1 _ rfl
  · intro d hd
    obtain ⟨z, _, hz⟩ := List.mem_filterMap.mp hd
    cases hz
    exact Fl.bl _
  · refine ⟨List.replicate (signsD x).length true, ?_, ?_⟩
    · have : (signsD x).filterMap (fun _ => some (D.bl true)) = (List.replicate (signsD x).length true).map D.bl := by
        rw [List.map_replicate]
        induction signsD x with
        | nil => rfl
        | cons a l ih =>
          show D.bl true :: l.filterMap (fun _ => some (D.bl true)) = _
          rw [ih]
          rfl
      rw [this]
      rfl
    · have : (List.replicate (signsD x).length true).all (fun b => b) = true := by
        rw [List.all_eq_true]
        intro b hb
        exact List.eq_of_mem_replicate hb
      rw [this]
      exact .inl h
theorem nc_folk {M : Md} (ok : Md.Ok M) : Nc (.tuple (M.ns.map .str)) 1 (16 * 9) := Nc.tuple (fun d hd => by
  obtain ⟨x, hx, rfl⟩ := List.mem_map.mp hd
  exact nc_name (ok.okn x hx)) (by rw [List.length_map]; exact ok.few)
theorem nc_table {M : Md} (ok : Md.Ok M) : Nc (.tuple ((tabM M).map fun m => .int (m : Nat))) 1 (16 * 41) := Nc.tuple (fun d hd => by
  obtain ⟨x, hx, rfl⟩ := List.mem_map.mp hd
  unfold tabM at hx
  obtain ⟨i, _, rfl⟩ := List.mem_map.mp hx
  have : mask M.n (M.R i) < 2 ^ 16 := mask_16 ok.few
  exact Nc.int (by omega) (by omega)) (by rw [List.length_map]; unfold tabM; rw [List.length_map, List.length_range]; exact ok.few)
theorem eqv_table (l m : List Nat) : PyData.eqvAll (l.map fun m => .int (m : Nat)) (m.map fun m => .int (m : Nat)) = decide (l = m) := by
  have e : ∀ l : List Nat, (l.map fun m => PyData.int (m : Nat)) = (l.map fun m => ((m : Nat) : Int)).map PyData.int := fun l => by rw [List.map_map]; rfl
  rw [e, e, eqv_ints]
  apply decide_eq_decide.mpr
  constructor
  · intro h
    exact (List.map_inj_right (fun a b h => by omega)).mp h
  · intro h; rw [h]
theorem eq_folk {M M' : Md} (ok : Md.Ok M) (ok' : Md.Ok M') (Q : D → Store → Prop) (E : XD → Store → Prop) (h : Q (.bl (decide (M.ns = M'.ns))) S) : eqZ (.tup (M.ns.map .str)) (.tup (M'.ns.map .str)) S Q E := by
  refine ⟨.tuple (M.ns.map .str), .tuple (M'.ns.map .str), isP_tup (isPs_strs S _), isP_tup (isPs_strs S _), (nc_folk ok).shaped (by decide), (nc_folk ok').shaped (by decide), ?_⟩
  rw [PyData.eqv, eqv_strs]
  exact h
theorem isPs_nats (S : Store) (l : List Nat) : IsPs S (l.map fun m => .int (m : Nat)) (l.map fun m => .int (m : Nat)) := isPs_map S _ _ l fun x _ => isP_int S x
theorem eq_table {M M' : Md} (ok : Md.Ok M) (ok' : Md.Ok M') (Q : D → Store → Prop) (E : XD → Store → Prop) (h : Q (.bl (decide (tabM M = tabM M'))) S) : eqZ (.tup ((tabM M).map fun m => .int (m : Nat))) (.tup ((tabM M').map fun m => .int (m : Nat))) S Q E := by
  refine ⟨.tuple _, .tuple _, isP_tup (isPs_nats S _), isP_tup (isPs_nats S _), (nc_table ok).shaped (by decide), (nc_table ok').shaped (by decide), ?_⟩
  rw [PyData.eqv, eqv_table]
  exact h
theorem s_Company___eq__ (hl : ds.length = 2) (h : m_Company___eq__ α ds S Q E) : bodyZ 2 (g_Company___eq__ α) ds S Q E := by
  rcases h with ⟨M, M', ok, ok', rfl, h⟩ | ⟨M, y, t, ok, rfl, ht, hno, h⟩
  · simp only [g_Company___eq__, bodyZ, seqG, asgG, dropG, retG, retNG, ifG, skipG, augG, parG, par3G, frzG, setFldG, asgTG, forG, nameT, tupT, consT, nilT, subT, attrT, varZ, cZ, binZ, unZ, caZ, boolZ, andZ, orZ, notZ, andV, orV, notV, ifZ, chainZ, nilZ, consZ, tupZ, lstZ, lstHZ, callZ, methZ, makeZ, makeNZ, fldZ, frzE, deepE, lcZ, dcZ, dispZ, pnilZ, pconsZ, oneD, walkU, srcU, walkE, srcE, walkR1, walkR2, walkS, joinedZ, jconsZ, jnilZ, fmtZ, dgetZ, dinZ, dninZ, bmZ, intZ0, intZ, uintZ, getZ, sliceZ, partZ, noPartZ, cutQ, yesZ, Z.lenZ, lenQ, listZ, listHZ, tupleZ, sortedSZ, allZ, anyZ, intZ1, strIZ, mulSZ, addZ, repHZ, repZ, appendZ, extendZ, insertZ, countSZ, joinZ, isBlZ, inZ, isOwnQ, eqZ_int, eqZ_str, eqZ_bl, neZ_int, neZ_str, neZ_bl, lenOwnZ, strOwnZ, reprZ, wipeE, kwD, List.set_cons_zero, List.set_cons_succ, List.getElem?_cons_zero, List.getElem?_cons_succ, List.map_cons, List.map_nil, List.cons_append, List.nil_append, List.append_nil, List.length_cons, List.length_nil, Nat.reduceAdd, Nat.reduceSub, List.replicate_succ, List.replicate_zero, if_true, if_false, Bool.false_eq_true, Nat.zero_add]
    refine ⟨trivial, _, rfl, .inl ⟨List.mem_singleton.mpr rfl, _, _, rfl, val_folk M, _, _, rfl, val_folk M', ?_⟩⟩
    refine eq_folk S ok ok' _ _ ?_
    by_cases he : M.ns = M'.ns
    · rw [decide_eq_true he] at h ⊢
      rw [Bool.true_and] at h
      simp only [if_true]
      refine ⟨_, _, rfl, val_table M, _, _, rfl, val_table M', eq_table S ok ok' _ _ (.inl h)⟩
    · rw [decide_eq_false he] at h ⊢
      rw [Bool.false_and] at h
      exact .inl h
  · simp only [g_Company___eq__, bodyZ, seqG, asgG, dropG, retG, retNG, ifG, skipG, augG, parG, par3G, frzG, setFldG, asgTG, forG, nameT, tupT, consT, nilT, subT, attrT, varZ, cZ, binZ, unZ, caZ, boolZ, andZ, orZ, notZ, andV, orV, notV, ifZ, chainZ, nilZ, consZ, tupZ, lstZ, lstHZ, callZ, methZ, makeZ, makeNZ, fldZ, frzE, deepE, lcZ, dcZ, dispZ, pnilZ, pconsZ, oneD, walkU, srcU, walkE, srcE, walkR1, walkR2, walkS, joinedZ, jconsZ, jnilZ, fmtZ, dgetZ, dinZ, dninZ, bmZ, intZ0, intZ, uintZ, getZ, sliceZ, partZ, noPartZ, cutQ, yesZ, Z.lenZ, lenQ, listZ, listHZ, tupleZ, sortedSZ, allZ, anyZ, intZ1, strIZ, mulSZ, addZ, repHZ, repZ, appendZ, extendZ, insertZ, countSZ, joinZ, isBlZ, inZ, isOwnQ, eqZ_int, eqZ_str, eqZ_bl, neZ_int, neZ_str, neZ_bl, lenOwnZ, strOwnZ, reprZ, wipeE, kwD, List.set_cons_zero, List.set_cons_succ, List.getElem?_cons_zero, List.getElem?_cons_succ, List.map_cons, List.map_nil, List.cons_append, List.nil_append, List.append_nil, List.length_cons, List.length_nil, Nat.reduceAdd, Nat.reduceSub, List.replicate_succ, List.replicate_zero, if_true, if_false, Bool.false_eq_true, Nat.zero_add]
    exact ⟨trivial, t, ht, .inr ⟨hno, .inl h⟩⟩
end
end K01
namespace K01
open PySem L2 Z
section
variable (α : Ad) (ds : List D) (S : Store) (Q : D → Store → Prop) (E : XD → Store → Prop)
theorem estr (x : Str) : Str.empty ++ x = x := by
  show (⟨#[] ++ x.cps⟩ : Str) = x
  rw [Array.empty_append]
theorem len_app (x y : Str) : (x ++ y).length = x.length + y.length := strLen_append x y
theorem tsI_len {n : Nat} (h : n ≤ 1000) : (tsI n).length ≤ 10 := PyProof.Rows.toString_length_le (by omega) (by decide) (by omega)
theorem tsI_log {n : Nat} (h : n ≤ 1000) : ((n : Nat) : Int).natAbs.log2 < 1920 := by
  by_cases hz : n = 0
  · subst hz; decide
  · have : n.log2 < 10 := (Nat.log2_lt hz).mpr (by omega)
    simp
    omega
theorem s_Company___repr__ (hl : ds.length = 1) (h : m_Company___repr__ α ds S Q E) : bodyZ 1 (g_Company___repr__ α) ds S Q E := by
  obtain ⟨M, ok, rfl, h⟩ := h
  have hn : M.n ≤ 1000 := Nat.le_trans ok.few (by decide)
  have ht : (tiesI M).length ≤ 1000 := Nat.le_trans (tiesI_len ok) (by decide)
  have l1 := tsI_len hn
  have l2 := tsI_len ht
  have k1 : (Str.ofString "Company(").length = 8 := rfl
  have k2 : (Str.ofString " folk, ").length = 7 := rfl
  have k3 : (Str.ofString " ties)").length = 6 := rfl
  simp only [g_Company___repr__, bodyZ, seqG, asgG, dropG, retG, retNG, ifG, skipG, augG, parG, par3G, frzG, setFldG, asgTG, forG, nameT, tupT, consT, nilT, subT, attrT, varZ, cZ, binZ, unZ, caZ, boolZ, andZ, orZ, notZ, andV, orV, notV, ifZ, chainZ, nilZ, consZ, tupZ, lstZ, lstHZ, callZ, methZ, makeZ, makeNZ, fldZ, frzE, deepE, lcZ, dcZ, dispZ, pnilZ, pconsZ, oneD, walkU, srcU, walkE, srcE, walkR1, walkR2, walkS, joinedZ, jconsZ, jnilZ, fmtZ, dgetZ, dinZ, dninZ, bmZ, intZ0, intZ, uintZ, getZ, sliceZ, partZ, noPartZ, cutQ, yesZ, Z.lenZ, lenQ, listZ, listHZ, tupleZ, sortedSZ, allZ, anyZ, intZ1, strIZ, mulSZ, addZ, repHZ, repZ, appendZ, extendZ, insertZ, countSZ, joinZ, isBlZ, inZ, isOwnQ, eqZ_int, eqZ_str, eqZ_bl, neZ_int, neZ_str, neZ_bl, lenOwnZ, strOwnZ, reprZ, wipeE, kwD, List.set_cons_zero, List.set_cons_succ, List.getElem?_cons_zero, List.getElem?_cons_succ, List.map_cons, List.map_nil, List.cons_append, List.nil_append, List.append_nil, List.length_cons, List.length_nil, Nat.reduceAdd, Nat.reduceSub, List.replicate_succ, List.replicate_zero, if_true, if_false, Bool.false_eq_true, Nat.zero_add]
  rw [estr]
  refine ⟨by rw [k1]; decide, _, _, rfl, val_folk M, ?_⟩
  simp only [List.length_map]
  refine ⟨tsI_log hn, ?_, ?_, ⟨_, rfl, val_no M (by decide +kernel) (by decide +kernel) (by decide +kernel)⟩, trivial, M, ok, rfl, frz_lst (Fl.map fun _ => fl_pr M _) ?_⟩
  · show (Str.ofString "Company(" ++ tsI M.n).length ≤ _
    rw [len_app]; omega
  · show (Str.ofString "Company(" ++ tsI M.n ++ Str.ofString " folk, ").length ≤ _
    rw [len_app, len_app]; omega
  · simp only [bodyZ, seqG, asgG, dropG, retG, retNG, ifG, skipG, augG, parG, par3G, frzG, setFldG, asgTG, forG, nameT, tupT, consT, nilT, subT, attrT, varZ, cZ, binZ, unZ, caZ, boolZ, andZ, orZ, notZ, andV, orV, notV, ifZ, chainZ, nilZ, consZ, tupZ, lstZ, lstHZ, callZ, methZ, makeZ, makeNZ, fldZ, frzE, deepE, lcZ, dcZ, dispZ, pnilZ, pconsZ, oneD, walkU, srcU, walkE, srcE, walkR1, walkR2, walkS, joinedZ, jconsZ, jnilZ, fmtZ, dgetZ, dinZ, dninZ, bmZ, intZ0, intZ, uintZ, getZ, sliceZ, partZ, noPartZ, cutQ, yesZ, Z.lenZ, lenQ, listZ, listHZ, tupleZ, sortedSZ, allZ, anyZ, intZ1, strIZ, mulSZ, addZ, repHZ, repZ, appendZ, extendZ, insertZ, countSZ, joinZ, isBlZ, inZ, isOwnQ, eqZ_int, eqZ_str, eqZ_bl, neZ_int, neZ_str, neZ_bl, lenOwnZ, strOwnZ, reprZ, wipeE, kwD, List.set_cons_zero, List.set_cons_succ, List.getElem?_cons_zero, List.getElem?_cons_succ, List.map_cons, List.map_nil, List.cons_append, List.nil_append, List.append_nil, List.length_cons, List.length_nil, Nat.reduceAdd, Nat.reduceSub, List.replicate_succ, List.replicate_zero, if_true, if_false, Bool.false_eq_true, Nat.zero_add, tiesD, List.length_map]
    refine ⟨tsI_log ht, ?_, ?_, .inl h⟩
    · show (Str.ofString "Company(" ++ tsI M.n ++ Str.ofString " folk, " ++ tsI (tiesI M).length).length ≤ _
      rw [len_app, len_app, len_app]; omega
    · show (Str.ofString "Company(" ++ tsI M.n ++ Str.ofString " folk, " ++ tsI (tiesI M).length ++ Str.ofString " ties)").length ≤ _
      rw [len_app, len_app, len_app, len_app]; omega
theorem mulStar (b : Bool) : mulS "*" (b2i b) = starS b := by cases b <;> rfl
theorem b2i_le (b : Bool) : b2i b ≤ 1 := by cases b <;> decide
theorem b2i_ge (b : Bool) : -(2 ^ 62) ≤ b2i b := by cases b <;> decide
theorem star_len (b : Bool) : (starS b).length ≤ 1 := by cases b <;> decide
theorem nm_len {M : Md} (ok : Md.Ok M) {i : Nat} (h : i < M.n) : (M.nm i).length ≤ 8 := (nm_ok ok h).2.1
theorem tiesI_lt {M : Md} {p : Nat × Nat} (h : p ∈ tiesI M) : p.1 < p.2 ∧ p.2 < M.n ∧ M.R p.1 p.2 = true := by
  unfold tiesI tiesTo rowI at h
  obtain ⟨i, hi, h2⟩ := List.mem_flatMap.mp h
  obtain ⟨k, hk, rfl⟩ := List.mem_map.mp h2
  obtain ⟨h3, h4⟩ := List.mem_filter.mp hk
  simp only [Bool.and_eq_true, decide_eq_true_eq] at h4
  exact ⟨h4.1, List.mem_range.mp h3, h4.2⟩
theorem words_len {M : Md} (ok : Md.Ok M) : ((wordsS M).map (·.length)).sum + (wordsS M).length * (Str.ofString " ").length ≤ 16777216 := by
  have h1 : ∀ x ∈ wordsS M, x.length ≤ 17 := by
    intro x hx
    unfold wordsS at hx
    rcases List.mem_append.mp hx with hx | hx
    · obtain ⟨i, hi, rfl⟩ := List.mem_map.mp hx
      have := nm_len ok (List.mem_range.mp hi)
      have := star_len (M.R i i)
      rw [len_app]; omega
    · obtain ⟨p, hp, rfl⟩ := List.mem_map.mp hx
      obtain ⟨a1, a2, _⟩ := tiesI_lt hp
      have := nm_len ok (Nat.lt_trans a1 a2)
      have := nm_len ok a2
      have e : (Str.ofString "-").length = 1 := rfl
      rw [len_app, len_app]; omega
  have h2 : (wordsS M).length ≤ 272 := by
    unfold wordsS
    rw [List.length_append, List.length_map, List.length_map, List.length_range]
    have := tiesI_len ok
    have : M.n ≤ 16 := ok.few
    omega
  have h3 : ∀ l : List Str, (∀ x ∈ l, x.length ≤ 17) → (l.map (·.length)).sum ≤ l.length * 17 := by
    intro l hl
    induction l with
    | nil => simp
    | cons a l ih =>
      rw [List.map_cons, List.sum_cons, List.length_cons, Nat.succ_mul]
      have := hl a (List.mem_cons_self ..)
      have := ih fun x hx => hl x (List.mem_cons_of_mem _ hx)
      omega
  have h4 := h3 _ h1
  have e : (Str.ofString " ").length = 1 := rfl
  rw [e]
  omega
theorem s_Company___str__ (hl : ds.length = 1) (h : m_Company___str__ α ds S Q E) : bodyZ 5 (g_Company___str__ α) ds S Q E := by
  obtain ⟨M, ok, rfl, h⟩ := h
  simp only [g_Company___str__, bodyZ, seqG, asgG, dropG, retG, retNG, ifG, skipG, augG, parG, par3G, frzG, setFldG, asgTG, forG, nameT, tupT, consT, nilT, subT, attrT, varZ, cZ, binZ, unZ, caZ, boolZ, andZ, orZ, notZ, andV, orV, notV, ifZ, chainZ, nilZ, consZ, tupZ, lstZ, lstHZ, callZ, methZ, makeZ, makeNZ, fldZ, frzE, deepE, lcZ, dcZ, dispZ, pnilZ, pconsZ, oneD, walkU, srcU, walkE, srcE, walkR1, walkR2, walkS, joinedZ, jconsZ, jnilZ, fmtZ, dgetZ, dinZ, dninZ, bmZ, intZ0, intZ, uintZ, getZ, sliceZ, partZ, noPartZ, cutQ, yesZ, Z.lenZ, lenQ, listZ, listHZ, tupleZ, sortedSZ, allZ, anyZ, intZ1, strIZ, mulSZ, addZ, repHZ, repZ, appendZ, extendZ, insertZ, countSZ, joinZ, isBlZ, inZ, isOwnQ, eqZ_int, eqZ_str, eqZ_bl, neZ_int, neZ_str, neZ_bl, lenOwnZ, strOwnZ, reprZ, wipeE, kwD, List.set_cons_zero, List.set_cons_succ, List.getElem?_cons_zero, List.getElem?_cons_succ, List.map_cons, List.map_nil, List.cons_append, List.nil_append, List.append_nil, List.length_cons, List.length_nil, Nat.reduceAdd, Nat.reduceSub, List.replicate_succ, List.replicate_zero, if_true, if_false, Bool.false_eq_true, Nat.zero_add]
  refine ⟨_, _, rfl, val_folk M, by decide, ?_⟩
  refine ⟨.tuple (M.ns.map .str), .tuple (([] : List Str).map .str), isP_tup (isPs_strs S _), isP_tup (isPs_strs S []), (nc_folk ok).shaped (by decide), rfl, ?_⟩
  rw [PyData.eqv, eqv_strs]
  by_cases he : M.ns = []
  · rw [decide_eq_true he]
    unfold textS at h
    rw [if_pos he] at h
    exact .inl h
  · rw [decide_eq_false he]
    unfold textS at h
    rw [if_neg he] at h
    refine ⟨_, _, rfl, val_folk M, ?_⟩
    simp only [List.length_map, bodyZ, seqG, asgG, dropG, retG, retNG, ifG, skipG, augG, parG, par3G, frzG, setFldG, asgTG, forG, nameT, tupT, consT, nilT, subT, attrT, varZ, cZ, binZ, unZ, caZ, boolZ, andZ, orZ, notZ, andV, orV, notV, ifZ, chainZ, nilZ, consZ, tupZ, lstZ, lstHZ, callZ, methZ, makeZ, makeNZ, fldZ, frzE, deepE, lcZ, dcZ, dispZ, pnilZ, pconsZ, oneD, walkU, srcU, walkE, srcE, walkR1, walkR2, walkS, joinedZ, jconsZ, jnilZ, fmtZ, dgetZ, dinZ, dninZ, bmZ, intZ0, intZ, uintZ, getZ, sliceZ, partZ, noPartZ, cutQ, yesZ, Z.lenZ, lenQ, listZ, listHZ, tupleZ, sortedSZ, allZ, anyZ, intZ1, strIZ, mulSZ, addZ, repHZ, repZ, appendZ, extendZ, insertZ, countSZ, joinZ, isBlZ, inZ, isOwnQ, eqZ_int, eqZ_str, eqZ_bl, neZ_int, neZ_str, neZ_bl, lenOwnZ, strOwnZ, reprZ, wipeE, kwD, List.set_cons_zero, List.set_cons_succ, List.getElem?_cons_zero, List.getElem?_cons_succ, List.map_cons, List.map_nil, List.cons_append, List.nil_append, List.append_nil, List.length_cons, List.length_nil, Nat.reduceAdd, Nat.reduceSub, List.replicate_succ, List.replicate_zero, if_true, if_false, Bool.false_eq_true, Nat.zero_add]
    have hn : M.ns.length ≤ 16 := ok.few
    refine ⟨⟨by omega, by omega⟩, ?_⟩
    refine lc_pure (fun d => match d with
      | .int i => some (.str (M.nm i.toNat ++ starS (M.R i.toNat i.toNat)))
      | _ => none) ?_ (fun _ => trivial) (fun x hx l k k' k1 k2 => ?_) ?_
    · unfold rangeD
      simp
      omega
    · unfold rangeD at hx
      obtain ⟨i, hi, rfl⟩ := List.mem_map.mp hx
      have hin : i < M.n := by have := List.mem_range.mp hi; simpa using this
      simp only [bodyZ, seqG, asgG, dropG, retG, retNG, ifG, skipG, augG, parG, par3G, frzG, setFldG, asgTG, forG, nameT, tupT, consT, nilT, subT, attrT, varZ, cZ, binZ, unZ, caZ, boolZ, andZ, orZ, notZ, andV, orV, notV, ifZ, chainZ, nilZ, consZ, tupZ, lstZ, lstHZ, callZ, methZ, makeZ, makeNZ, fldZ, frzE, deepE, lcZ, dcZ, dispZ, pnilZ, pconsZ, oneD, walkU, srcU, walkE, srcE, walkR1, walkR2, walkS, joinedZ, jconsZ, jnilZ, fmtZ, dgetZ, dinZ, dninZ, bmZ, intZ0, intZ, uintZ, getZ, sliceZ, partZ, noPartZ, cutQ, yesZ, Z.lenZ, lenQ, listZ, listHZ, tupleZ, sortedSZ, allZ, anyZ, intZ1, strIZ, mulSZ, addZ, repHZ, repZ, appendZ, extendZ, insertZ, countSZ, joinZ, isBlZ, inZ, isOwnQ, eqZ_int, eqZ_str, eqZ_bl, neZ_int, neZ_str, neZ_bl, lenOwnZ, strOwnZ, reprZ, wipeE, kwD, List.set_cons_zero, List.set_cons_succ, List.getElem?_cons_zero, List.getElem?_cons_succ, List.map_cons, List.map_nil, List.cons_append, List.nil_append, List.append_nil, List.length_cons, List.length_nil, Nat.reduceAdd, Nat.reduceSub, List.replicate_succ, List.replicate_zero, if_true, if_false, Bool.false_eq_true, Nat.zero_add, Int.zero_add]
      refine ⟨_, _, rfl, val_folk M, _, _, rfl, folk_at M hin, _, _, rfl, val_table M, _, _, rfl, tab_at M hin, by omega, ?_⟩
      simp only [bodyZ, seqG, asgG, dropG, retG, retNG, ifG, skipG, augG, parG, par3G, frzG, setFldG, asgTG, forG, nameT, tupT, consT, nilT, subT, attrT, varZ, cZ, binZ, unZ, caZ, boolZ, andZ, orZ, notZ, andV, orV, notV, ifZ, chainZ, nilZ, consZ, tupZ, lstZ, lstHZ, callZ, methZ, makeZ, makeNZ, fldZ, frzE, deepE, lcZ, dcZ, dispZ, pnilZ, pconsZ, oneD, walkU, srcU, walkE, srcE, walkR1, walkR2, walkS, joinedZ, jconsZ, jnilZ, fmtZ, dgetZ, dinZ, dninZ, bmZ, intZ0, intZ, uintZ, getZ, sliceZ, partZ, noPartZ, cutQ, yesZ, Z.lenZ, lenQ, listZ, listHZ, tupleZ, sortedSZ, allZ, anyZ, intZ1, strIZ, mulSZ, addZ, repHZ, repZ, appendZ, extendZ, insertZ, countSZ, joinZ, isBlZ, inZ, isOwnQ, eqZ_int, eqZ_str, eqZ_bl, neZ_int, neZ_str, neZ_bl, lenOwnZ, strOwnZ, reprZ, wipeE, kwD, List.set_cons_zero, List.set_cons_succ, List.getElem?_cons_zero, List.getElem?_cons_succ, List.map_cons, List.map_nil, List.cons_append, List.nil_append, List.append_nil, List.length_cons, List.length_nil, Nat.reduceAdd, Nat.reduceSub, List.replicate_succ, List.replicate_zero, if_true, if_false, Bool.false_eq_true, Nat.zero_add]
      rw [bitAnd1, mask_test, decide_eq_true hin, Bool.true_and]
      refine ⟨b2i_le _, b2i_ge _, by decide, ?_⟩
      rw [mulStar]
      refine ⟨?_, k1 _ (by simp)⟩
      have := nm_len ok hin
      have := star_len (M.R i i)
      have : (100000 : Nat) ≤ sizeLine := by decide
      omega
    · refine ⟨_, _, _, rfl, at_new _ _, rfl, ?_⟩
      rw [set_new]
      refine ⟨⟨_, rfl⟩, ⟨_, rfl, val_no M (by decide +kernel) (by decide +kernel) (by decide +kernel)⟩, trivial, M, ok, rfl, frz_lst (Fl.map fun _ => fl_pr M _) ?_⟩
      simp only [bodyZ, seqG, asgG, dropG, retG, retNG, ifG, skipG, augG, parG, par3G, frzG, setFldG, asgTG, forG, nameT, tupT, consT, nilT, subT, attrT, varZ, cZ, binZ, unZ, caZ, boolZ, andZ, orZ, notZ, andV, orV, notV, ifZ, chainZ, nilZ, consZ, tupZ, lstZ, lstHZ, callZ, methZ, makeZ, makeNZ, fldZ, frzE, deepE, lcZ, dcZ, dispZ, pnilZ, pconsZ, oneD, walkU, srcU, walkE, srcE, walkR1, walkR2, walkS, joinedZ, jconsZ, jnilZ, fmtZ, dgetZ, dinZ, dninZ, bmZ, intZ0, intZ, uintZ, getZ, sliceZ, partZ, noPartZ, cutQ, yesZ, Z.lenZ, lenQ, listZ, listHZ, tupleZ, sortedSZ, allZ, anyZ, intZ1, strIZ, mulSZ, addZ, repHZ, repZ, appendZ, extendZ, insertZ, countSZ, joinZ, isBlZ, inZ, isOwnQ, eqZ_int, eqZ_str, eqZ_bl, neZ_int, neZ_str, neZ_bl, lenOwnZ, strOwnZ, reprZ, wipeE, kwD, List.set_cons_zero, List.set_cons_succ, List.getElem?_cons_zero, List.getElem?_cons_succ, List.map_cons, List.map_nil, List.cons_append, List.nil_append, List.append_nil, List.length_cons, List.length_nil, Nat.reduceAdd, Nat.reduceSub, List.replicate_succ, List.replicate_zero, if_true, if_false, Bool.false_eq_true, Nat.zero_add]
      refine lc_pure (fun d => match d with
        | .tup [.str a, .str b] => some (.str (a ++ "-" ++ b))
        | _ => none) ?_ (fun _ => trivial) (fun x hx l k k' k1 k2 => ?_) (frz_lst ?_ ?_)
      · unfold tiesD
        rw [List.length_map]
        exact Nat.lt_of_le_of_lt (tiesI_len ok) (by decide)
      · unfold tiesD at hx
        obtain ⟨p, hp, rfl⟩ := List.mem_map.mp hx
        obtain ⟨a1, a2, _⟩ := tiesI_lt hp
        have b1 := nm_len ok (Nat.lt_trans a1 a2)
        have b2 := nm_len ok a2
        have e : (Str.ofString "-").length = 1 := rfl
        simp only [bodyZ, seqG, asgG, dropG, retG, retNG, ifG, skipG, augG, parG, par3G, frzG, setFldG, asgTG, forG, nameT, tupT, consT, nilT, subT, attrT, varZ, cZ, binZ, unZ, caZ, boolZ, andZ, orZ, notZ, andV, orV, notV, ifZ, chainZ, nilZ, consZ, tupZ, lstZ, lstHZ, callZ, methZ, makeZ, makeNZ, fldZ, frzE, deepE, lcZ, dcZ, dispZ, pnilZ, pconsZ, oneD, walkU, srcU, walkE, srcE, walkR1, walkR2, walkS, joinedZ, jconsZ, jnilZ, fmtZ, dgetZ, dinZ, dninZ, bmZ, intZ0, intZ, uintZ, getZ, sliceZ, partZ, noPartZ, cutQ, yesZ, Z.lenZ, lenQ, listZ, listHZ, tupleZ, sortedSZ, allZ, anyZ, intZ1, strIZ, mulSZ, addZ, repHZ, repZ, appendZ, extendZ, insertZ, countSZ, joinZ, isBlZ, inZ, isOwnQ, eqZ_int, eqZ_str, eqZ_bl, neZ_int, neZ_str, neZ_bl, lenOwnZ, strOwnZ, reprZ, wipeE, kwD, List.set_cons_zero, List.set_cons_succ, List.getElem?_cons_zero, List.getElem?_cons_succ, List.map_cons, List.map_nil, List.cons_append, List.nil_append, List.append_nil, List.length_cons, List.length_nil, Nat.reduceAdd, Nat.reduceSub, List.replicate_succ, List.replicate_zero, if_true, if_false, Bool.false_eq_true, Nat.zero_add, Md.pr]
        rw [estr]
        refine ⟨trivial, by omega, by omega, ?_, by omega, ?_, k1 _ rfl⟩
        · rw [len_app]; omega
        · rw [len_app, len_app]; omega
      · intro d hd
        obtain ⟨z, _, hz⟩ := List.mem_filterMap.mp hd
        split at hz
        · cases hz; exact Fl.str _
        · cases hz
      · have e1 : (rangeD 0 ((M.ns.length : Nat) : Int).toNat).filterMap (fun d => match d with
            | .int i => some (.str (M.nm i.toNat ++ starS (M.R i.toNat i.toNat)))
            | _ => none) = ((List.range M.n).map fun i => M.nm i ++ starS (M.R i i)).map D.str := by
          unfold rangeD
          rw [List.filterMap_map, List.map_map, Int.toNat_natCast, ← List.filterMap_eq_map]
          congr 1
          funext i
          simp
        have e2 : (tiesD M).filterMap (fun d => match d with
            | .tup [.str a, .str b] => some (.str (a ++ "-" ++ b))
            | _ => none) = ((tiesI M).map fun p => M.nm p.1 ++ "-" ++ M.nm p.2).map D.str := by
          unfold tiesD
          rw [List.filterMap_map, List.map_map, ← List.filterMap_eq_map]
          rfl
        rw [e1, e2]
        refine ⟨?_, wordsS M, ?_, words_len ok, end_same trivial h⟩
        · rw [List.length_map, List.length_map, List.length_map, List.length_map, List.length_range]
          have := tiesI_len ok
          have : M.n ≤ 16 := ok.few
          omega
        · unfold wordsS
          rw [List.map_append]
          rfl
end
end K01
namespace K01
open PySem L2 Z
section
variable (α : Ad) (ds : List D) (S : Store) (Q : D → Store → Prop) (E : XD → Store → Prop)
theorem cutD_take {l : List D} (n : Nat) : cutD l none (some (n : Int)) = l.take n := by
  unfold cutD
  rw [HT.sIx_none, HT.sIx_nat, List.drop_zero, Nat.sub_zero]
  by_cases h : n ≤ l.length
  · rw [Nat.min_eq_left h]
  · rw [Nat.min_eq_right (by omega), List.take_length, List.take_of_length_le (by omega)]
theorem s__law_bag (hl : ds.length = 1) (h : m__law_bag α ds S Q E) : absOut BagOk (bodyZ 3 (g__law_bag α)) ds S Q E := by
  obtain ⟨ns, rfl, hn, h⟩ := h
  unfold absOut
  simp only [g__law_bag, bodyZ, seqG, asgG, dropG, retG, retNG, ifG, skipG, augG, parG, par3G, frzG, setFldG, asgTG, forG, nameT, tupT, consT, nilT, subT, attrT, varZ, cZ, binZ, unZ, caZ, boolZ, andZ, orZ, notZ, andV, orV, notV, ifZ, chainZ, nilZ, consZ, tupZ, lstZ, lstHZ, callZ, methZ, makeZ, makeNZ, fldZ, frzE, deepE, lcZ, dcZ, dispZ, pnilZ, pconsZ, oneD, walkU, srcU, walkE, srcE, walkR1, walkR2, walkS, joinedZ, jconsZ, jnilZ, fmtZ, dgetZ, dinZ, dninZ, bmZ, intZ0, intZ, uintZ, getZ, sliceZ, partZ, noPartZ, cutQ, yesZ, Z.lenZ, lenQ, listZ, listHZ, tupleZ, sortedSZ, allZ, anyZ, intZ1, strIZ, mulSZ, addZ, repHZ, repZ, appendZ, extendZ, insertZ, countSZ, joinZ, isBlZ, inZ, isOwnQ, eqZ_int, eqZ_str, eqZ_bl, neZ_int, neZ_str, neZ_bl, lenOwnZ, strOwnZ, reprZ, wipeE, kwD, List.set_cons_zero, List.set_cons_succ, List.getElem?_cons_zero, List.getElem?_cons_succ, List.map_cons, List.map_nil, List.cons_append, List.nil_append, List.append_nil, List.length_cons, List.length_nil, Nat.reduceAdd, Nat.reduceSub, List.replicate_succ, List.replicate_zero, if_true, if_false, Bool.false_eq_true, Nat.zero_add]
  rw [show (63 : Int) = ((63 : Nat) : Int) from rfl, cutD_take, List.take_of_length_le (by rw [List.length_map]; exact hn)]
  refine loop_at _ (fun i δ S' => S' = S ∧ ∃ (salt : Int) (x : Option D), δ = [some (.kls (ns.map .int)), some (.int salt), x] ∧ 0 ≤ salt ∧ salt < 2147483629) ⟨rfl, 9460, none, rfl, by decide, by decide⟩ (fun δ S' hP => ?_) (fun i x δ S' k hx hP hk => ?_)
  · obtain ⟨rfl, salt, x, rfl, h1, h2⟩ := hP
    refine ⟨trivial, ?_⟩
    simp only [bodyZ, seqG, asgG, dropG, retG, retNG, ifG, skipG, augG, parG, par3G, frzG, setFldG, asgTG, forG, nameT, tupT, consT, nilT, subT, attrT, varZ, cZ, binZ, unZ, caZ, boolZ, andZ, orZ, notZ, andV, orV, notV, ifZ, chainZ, nilZ, consZ, tupZ, lstZ, lstHZ, callZ, methZ, makeZ, makeNZ, fldZ, frzE, deepE, lcZ, dcZ, dispZ, pnilZ, pconsZ, oneD, walkU, srcU, walkE, srcE, walkR1, walkR2, walkS, joinedZ, jconsZ, jnilZ, fmtZ, dgetZ, dinZ, dninZ, bmZ, intZ0, intZ, uintZ, getZ, sliceZ, partZ, noPartZ, cutQ, yesZ, Z.lenZ, lenQ, listZ, listHZ, tupleZ, sortedSZ, allZ, anyZ, intZ1, strIZ, mulSZ, addZ, repHZ, repZ, appendZ, extendZ, insertZ, countSZ, joinZ, isBlZ, inZ, isOwnQ, eqZ_int, eqZ_str, eqZ_bl, neZ_int, neZ_str, neZ_bl, lenOwnZ, strOwnZ, reprZ, wipeE, kwD, List.set_cons_zero, List.set_cons_succ, List.getElem?_cons_zero, List.getElem?_cons_succ, List.map_cons, List.map_nil, List.cons_append, List.nil_append, List.append_nil, List.length_cons, List.length_nil, Nat.reduceAdd, Nat.reduceSub, List.replicate_succ, List.replicate_zero, if_true, if_false, Bool.false_eq_true, Nat.zero_add]
    rw [cutD_take, List.take_of_length_le (by rw [List.length_map]; exact hn)]
    refine ⟨_, rfl, by decide, .inl ⟨_, _, rfl, at_new _ _, ⟨ns, 0, 0, salt, 0, rfl, hn, by decide, by decide, h1, h2⟩, fun k => ?_, ?_⟩⟩
    · simp only [scL, D.sc]
      exact ⟨scL_of (Fl.ints ns), trivial, trivial, trivial, trivial, trivial⟩
    · rw [set_new]; exact h
  · obtain ⟨rfl, salt, x0, rfl, h1, h2⟩ := hP
    rw [List.getElem?_map] at hx
    cases hc : ns[i]? with
    | none => rw [hc] at hx; cases hx
    | some c =>
      rw [hc] at hx
      cases hx
      simp only [bodyZ, seqG, asgG, dropG, retG, retNG, ifG, skipG, augG, parG, par3G, frzG, setFldG, asgTG, forG, nameT, tupT, consT, nilT, subT, attrT, varZ, cZ, binZ, unZ, caZ, boolZ, andZ, orZ, notZ, andV, orV, notV, ifZ, chainZ, nilZ, consZ, tupZ, lstZ, lstHZ, callZ, methZ, makeZ, makeNZ, fldZ, frzE, deepE, lcZ, dcZ, dispZ, pnilZ, pconsZ, oneD, walkU, srcU, walkE, srcE, walkR1, walkR2, walkS, joinedZ, jconsZ, jnilZ, fmtZ, dgetZ, dinZ, dninZ, bmZ, intZ0, intZ, uintZ, getZ, sliceZ, partZ, noPartZ, cutQ, yesZ, Z.lenZ, lenQ, listZ, listHZ, tupleZ, sortedSZ, allZ, anyZ, intZ1, strIZ, mulSZ, addZ, repHZ, repZ, appendZ, extendZ, insertZ, countSZ, joinZ, isBlZ, inZ, isOwnQ, eqZ_int, eqZ_str, eqZ_bl, neZ_int, neZ_str, neZ_bl, lenOwnZ, strOwnZ, reprZ, wipeE, kwD, List.set_cons_zero, List.set_cons_succ, List.getElem?_cons_zero, List.getElem?_cons_succ, List.map_cons, List.map_nil, List.cons_append, List.nil_append, List.append_nil, List.length_cons, List.length_nil, Nat.reduceAdd, Nat.reduceSub, List.replicate_succ, List.replicate_zero, if_true, if_false, Bool.false_eq_true, Nat.zero_add]
      refine ⟨trivial, .inl ⟨by omega, by omega⟩, by decide, hk _ _ ⟨rfl, _, _, rfl, Int.emod_nonneg _ (by decide), Int.emod_lt_of_pos _ (by decide)⟩⟩
theorem bag_sc (cells : List Int) (pos big salt cnt : Int) (k : Nat) : scL k [.lst (cells.map .int), .int pos, .int big, .int salt, .int cnt] := by
  simp only [scL, D.sc]
  exact ⟨scL_of (Fl.ints cells), trivial, trivial, trivial, trivial, trivial⟩
/-- the bag as it stands while it is used -/
def Bg (T : Store) (n : Nat) (cells : List Int) (pos big salt cnt : Int) : Prop := T[n]? = some (.lst [.lst (cells.map .int), .int pos, .int big, .int salt, .int cnt])
section
variable {T : Store} {n : Nat} {cells : List Int} {pos big salt cnt : Int}
theorem Bg.g0 (h : Bg T n cells pos big salt cnt) (Q : D → Store → Prop) (E : XD → Store → Prop) : getZ (.hnd n) (.int 0) T Q E = Q (.lst (cells.map .int)) T := getZ_hnd h rfl Q E
theorem Bg.g1 (h : Bg T n cells pos big salt cnt) (Q : D → Store → Prop) (E : XD → Store → Prop) : getZ (.hnd n) (.int 1) T Q E = Q (.int pos) T := getZ_hnd h rfl Q E
theorem Bg.g2 (h : Bg T n cells pos big salt cnt) (Q : D → Store → Prop) (E : XD → Store → Prop) : getZ (.hnd n) (.int 2) T Q E = Q (.int big) T := getZ_hnd h rfl Q E
theorem Bg.g3 (h : Bg T n cells pos big salt cnt) (Q : D → Store → Prop) (E : XD → Store → Prop) : getZ (.hnd n) (.int 3) T Q E = Q (.int salt) T := getZ_hnd h rfl Q E
theorem Bg.g4 (h : Bg T n cells pos big salt cnt) (Q : D → Store → Prop) (E : XD → Store → Prop) : getZ (.hnd n) (.int 4) T Q E = Q (.int cnt) T := getZ_hnd h rfl Q E
theorem Bg.st (h : Bg T n cells pos big salt cnt) (cells' : List Int) (pos' big' salt' cnt' : Int) : Bg (T.set n (.lst [.lst (cells'.map .int), .int pos', .int big', .int salt', .int cnt'])) n cells' pos' big' salt' cnt' := List.getElem?_set_self (List.getElem?_eq_some_iff.mp h).1
theorem setBag {l : List D} {k : Nat} {d : D} {Q : Store → Prop} (h : T[n]? = some (.lst l)) (hk : k < l.length) (q : Q (T.set n (.lst (l.set k d)))) : setIxQ (.hnd n) (.int (k : Nat)) d T Q := by
  refine .inl ⟨l, (k : Nat), k, h, rfl, ?_, q⟩
  unfold ixN
  rw [if_pos (by omega), if_pos (by omega)]
  simp
theorem Bg.s1 {v : Int} {Q : Store → Prop} (h : Bg T n cells pos big salt cnt) (q : Q (T.set n (.lst [.lst (cells.map .int), .int v, .int big, .int salt, .int cnt]))) : setIxQ (.hnd n) (.int 1) (.int v) T Q := setBag (k := 1) h (by simp) q
theorem Bg.s2 {v : Int} {Q : Store → Prop} (h : Bg T n cells pos big salt cnt) (q : Q (T.set n (.lst [.lst (cells.map .int), .int pos, .int v, .int salt, .int cnt]))) : setIxQ (.hnd n) (.int 2) (.int v) T Q := setBag (k := 2) h (by simp) q
theorem Bg.s3 {v : Int} {Q : Store → Prop} (h : Bg T n cells pos big salt cnt) (q : Q (T.set n (.lst [.lst (cells.map .int), .int pos, .int big, .int v, .int cnt]))) : setIxQ (.hnd n) (.int 3) (.int v) T Q := setBag (k := 3) h (by simp) q
theorem Bg.s4 {v : Int} {Q : Store → Prop} (h : Bg T n cells pos big salt cnt) (q : Q (T.set n (.lst [.lst (cells.map .int), .int pos, .int big, .int salt, .int v]))) : setIxQ (.hnd n) (.int 4) (.int v) T Q := setBag (k := 4) h (by simp) q
end
theorem s__law_pull (hl : ds.length = 2) (h : m__law_pull α ds S Q E) : absF (bodyZ 6 (g__law_pull α)) ds S Q E := by
  obtain ⟨n, many, rfl, hS, hm0, hm1, h⟩ := h
  have hlt : n < S.length := (List.getElem?_eq_some_iff.mp hS).1
  refine ⟨n, BagOk, _, rfl, hS, fun l hp hsc => ?_⟩
  obtain ⟨cells, pos, big, salt, cnt, rfl, hc, hpos, hbig, hs0, hs1⟩ := hp
  have hset : S.set n (.abs BagOk) = S := by
    apply List.ext_getElem?
    intro i
    by_cases hi : n = i
    · subst hi; rw [List.getElem?_set_self hlt, hS]
    · rw [List.getElem?_set_ne hi]
  have fin : ∀ (cells : List Int) (pos big salt cnt r : Int), cells.length ≤ 63 → 0 ≤ pos → 0 ≤ big → 0 ≤ salt → salt < 2147483629 → 0 ≤ r → r < many → ∃ l', (S.set n (.lst [.lst (cells.map .int), .int pos, .int big, .int salt, .int cnt]))[n]? = some (.lst l') ∧ BagOk l' ∧ (∀ k, scL k l') ∧ Q (.int r) ((S.set n (.lst [.lst (cells.map .int), .int pos, .int big, .int salt, .int cnt])).set n (.abs BagOk)) :=
    fun cells pos big salt cnt r a1 a2 a3 a4 a5 a6 a7 => ⟨_, List.getElem?_set_self hlt, ⟨cells, pos, big, salt, cnt, rfl, a1, a2, a3, a4, a5⟩, bag_sc cells pos big salt cnt, by rw [List.set_set, hset]; exact h r a6 a7⟩
  have hB : ∀ (cells : List Int) (pos big salt cnt : Int), Bg (S.set n (.lst [.lst (cells.map .int), .int pos, .int big, .int salt, .int cnt])) n cells pos big salt cnt := fun cells pos big salt cnt => List.getElem?_set_self hlt
  have pw : (10 : Int) ^ ((18 : Int)).toNat = 1000000000000000000 := by decide
  unfold bodyZ g__law_pull
  refine seq_with (fun δ' S' => ∃ (pos big salt : Int) (x : Option D), δ' = [some (.hnd n), some (.int many), x, none, none, none] ∧ S' = S.set n (.lst [.lst (cells.map .int), .int pos, .int big, .int salt, .int cnt]) ∧ 0 ≤ pos ∧ 0 ≤ big ∧ 0 ≤ salt ∧ salt < 2147483629) (fun δ' S' hP => ?_) (fun K hK => ?_)
  · obtain ⟨pos, big, salt, x, rfl, rfl, a2, a3, a4, a5⟩ := hP
    refine seq_with (fun δ' S' => δ' = [some (.hnd n), some (.int many), x, none, none, none] ∧ S' = S.set n (.lst [.lst (cells.map .int), .int pos, .int big, .int salt, .int cnt])) (fun δ' S' hP => ?_) (fun K hK => ?_)
    · obtain ⟨rfl, rfl⟩ := hP
      simp only [bodyZ, asgG, dropG, retG, retNG, ifG, skipG, augG, parG, par3G, frzG, setFldG, asgTG, forG, nameT, tupT, consT, nilT, subT, attrT, varZ, cZ, binZ, unZ, caZ, boolZ, andZ, orZ, notZ, andV, orV, notV, ifZ, chainZ, nilZ, consZ, tupZ, lstZ, lstHZ, callZ, methZ, makeZ, makeNZ, fldZ, frzE, deepE, lcZ, dcZ, dispZ, pnilZ, pconsZ, oneD, walkU, srcU, walkE, srcE, walkR1, walkR2, walkS, joinedZ, jconsZ, jnilZ, fmtZ, dgetZ, dinZ, dninZ, bmZ, intZ0, intZ, uintZ, sliceZ, partZ, noPartZ, cutQ, yesZ, Z.lenZ, lenQ, listZ, listHZ, tupleZ, sortedSZ, allZ, anyZ, intZ1, strIZ, mulSZ, addZ, repHZ, repZ, appendZ, extendZ, insertZ, countSZ, joinZ, isBlZ, inZ, isOwnQ, eqZ_int, eqZ_str, eqZ_bl, neZ_int, neZ_str, neZ_bl, lenOwnZ, strOwnZ, reprZ, wipeE, kwD, List.set_cons_zero, List.set_cons_succ, List.getElem?_cons_zero, List.getElem?_cons_succ, List.map_cons, List.map_nil, List.cons_append, List.nil_append, List.append_nil, List.length_cons, List.length_nil, Nat.reduceAdd, Nat.reduceSub, List.replicate_succ, List.replicate_zero, if_true, if_false, Bool.false_eq_true, Nat.zero_add, (hB cells pos big salt cnt).g4, seqG]
      refine (hB cells pos big salt cnt).s4 ?_
      rw [List.set_set]
      simp only [bodyZ, asgG, dropG, retG, retNG, ifG, skipG, augG, parG, par3G, frzG, setFldG, asgTG, forG, nameT, tupT, consT, nilT, subT, attrT, varZ, cZ, binZ, unZ, caZ, boolZ, andZ, orZ, notZ, andV, orV, notV, ifZ, chainZ, nilZ, consZ, tupZ, lstZ, lstHZ, callZ, methZ, makeZ, makeNZ, fldZ, frzE, deepE, lcZ, dcZ, dispZ, pnilZ, pconsZ, oneD, walkU, srcU, walkE, srcE, walkR1, walkR2, walkS, joinedZ, jconsZ, jnilZ, fmtZ, dgetZ, dinZ, dninZ, bmZ, intZ0, intZ, uintZ, sliceZ, partZ, noPartZ, cutQ, yesZ, Z.lenZ, lenQ, listZ, listHZ, tupleZ, sortedSZ, allZ, anyZ, intZ1, strIZ, mulSZ, addZ, repHZ, repZ, appendZ, extendZ, insertZ, countSZ, joinZ, isBlZ, inZ, isOwnQ, eqZ_int, eqZ_str, eqZ_bl, neZ_int, neZ_str, neZ_bl, lenOwnZ, strOwnZ, reprZ, wipeE, kwD, List.set_cons_zero, List.set_cons_succ, List.getElem?_cons_zero, List.getElem?_cons_succ, List.map_cons, List.map_nil, List.cons_append, List.nil_append, List.append_nil, List.length_cons, List.length_nil, Nat.reduceAdd, Nat.reduceSub, List.replicate_succ, List.replicate_zero, if_true, if_false, Bool.false_eq_true, Nat.zero_add, (hB cells pos big salt (cnt + 1)).g4, (hB cells pos big salt (cnt + 1)).g3]
      have b0 : 0 ≤ (salt + (cnt + 1) * 7477) % 2147483629 := Int.emod_nonneg _ (by decide)
      have b1 : (salt + (cnt + 1) * 7477) % 2147483629 < 2147483629 := Int.emod_lt_of_pos _ (by decide)
      generalize (salt + (cnt + 1) * 7477) % 2147483629 = ba at b0 b1
      have c0 : 0 ≤ ba * ba % 2147483587 := Int.emod_nonneg _ (by decide)
      have c1 : ba * ba % 2147483587 < 2147483587 := Int.emod_lt_of_pos _ (by decide)
      generalize hcc : ba * ba % 2147483587 = cc at c0 c1
      have d0 : 0 ≤ ba % 39979 := Int.emod_nonneg _ (by decide)
      have d1 : ba % 39979 < 39979 := Int.emod_lt_of_pos _ (by decide)
      refine ⟨.inr ⟨by decide, by decide⟩, by decide, .inl ⟨by omega, by omega⟩, by decide, by decide, .inl ⟨by omega, by omega⟩, .inl ⟨by decide, by decide⟩, by decide, ?_⟩
      refine (hB cells pos big salt (cnt + 1)).s3 ?_
      rw [List.set_set]
      simp only [bodyZ, asgG, dropG, retG, retNG, ifG, skipG, augG, parG, par3G, frzG, setFldG, asgTG, forG, nameT, tupT, consT, nilT, subT, attrT, varZ, cZ, binZ, unZ, caZ, boolZ, andZ, orZ, notZ, andV, orV, notV, ifZ, chainZ, nilZ, consZ, tupZ, lstZ, lstHZ, callZ, methZ, makeZ, makeNZ, fldZ, frzE, deepE, lcZ, dcZ, dispZ, pnilZ, pconsZ, oneD, walkU, srcU, walkE, srcE, walkR1, walkR2, walkS, joinedZ, jconsZ, jnilZ, fmtZ, dgetZ, dinZ, dninZ, bmZ, intZ0, intZ, uintZ, sliceZ, partZ, noPartZ, cutQ, yesZ, Z.lenZ, lenQ, listZ, listHZ, tupleZ, sortedSZ, allZ, anyZ, intZ1, strIZ, mulSZ, addZ, repHZ, repZ, appendZ, extendZ, insertZ, countSZ, joinZ, isBlZ, inZ, isOwnQ, eqZ_int, eqZ_str, eqZ_bl, neZ_int, neZ_str, neZ_bl, lenOwnZ, strOwnZ, reprZ, wipeE, kwD, List.set_cons_zero, List.set_cons_succ, List.getElem?_cons_zero, List.getElem?_cons_succ, List.map_cons, List.map_nil, List.cons_append, List.nil_append, List.append_nil, List.length_cons, List.length_nil, Nat.reduceAdd, Nat.reduceSub, List.replicate_succ, List.replicate_zero, if_true, if_false, Bool.false_eq_true, Nat.zero_add, (hB cells pos big _ (cnt + 1)).g3]
      refine ⟨⟨by decide, by decide⟩, by decide, .inr ⟨by decide, by decide⟩, hm0, .inl ?_⟩
      exact fin _ _ _ _ _ _ hc a2 a3 (Int.emod_nonneg _ (by decide)) (Int.emod_lt_of_pos _ (by decide)) (Int.emod_nonneg _ (by omega)) (Int.emod_lt_of_pos _ hm0)
    · simp only [bodyZ, asgG, dropG, retG, retNG, ifG, skipG, augG, parG, par3G, frzG, setFldG, asgTG, forG, nameT, tupT, consT, nilT, subT, attrT, varZ, cZ, binZ, unZ, caZ, boolZ, andZ, orZ, notZ, andV, orV, notV, ifZ, chainZ, nilZ, consZ, tupZ, lstZ, lstHZ, callZ, methZ, makeZ, makeNZ, fldZ, frzE, deepE, lcZ, dcZ, dispZ, pnilZ, pconsZ, oneD, walkU, srcU, walkE, srcE, walkR1, walkR2, walkS, joinedZ, jconsZ, jnilZ, fmtZ, dgetZ, dinZ, dninZ, bmZ, intZ0, intZ, uintZ, sliceZ, partZ, noPartZ, cutQ, yesZ, Z.lenZ, lenQ, listZ, listHZ, tupleZ, sortedSZ, allZ, anyZ, intZ1, strIZ, mulSZ, addZ, repHZ, repZ, appendZ, extendZ, insertZ, countSZ, joinZ, isBlZ, inZ, isOwnQ, eqZ_int, eqZ_str, eqZ_bl, neZ_int, neZ_str, neZ_bl, lenOwnZ, strOwnZ, reprZ, wipeE, kwD, List.set_cons_zero, List.set_cons_succ, List.getElem?_cons_zero, List.getElem?_cons_succ, List.map_cons, List.map_nil, List.cons_append, List.nil_append, List.append_nil, List.length_cons, List.length_nil, Nat.reduceAdd, Nat.reduceSub, List.replicate_succ, List.replicate_zero, if_true, if_false, Bool.false_eq_true, Nat.zero_add, (hB cells pos big salt cnt).g2, seqG]
      by_cases hb : 0 < big
      · rw [decide_eq_true hb]
        simp only [if_true]
        refine ⟨hm0, ⟨hm0, by omega⟩, ?_⟩
        refine (hB cells pos big salt cnt).s2 ?_
        rw [List.set_set]
        refine .inl (fin _ _ _ _ _ _ hc a2 ?_ a4 a5 (Int.emod_nonneg _ (by omega)) (Int.emod_lt_of_pos _ hm0))
        exact Int.ediv_nonneg a3 (by omega)
      · rw [decide_eq_false hb]
        exact hK _ _ ⟨rfl, rfl⟩
  · simp only [bodyZ, asgG, dropG, retG, retNG, ifG, skipG, augG, parG, par3G, frzG, setFldG, asgTG, forG, nameT, tupT, consT, nilT, subT, attrT, varZ, cZ, binZ, unZ, caZ, boolZ, andZ, orZ, notZ, andV, orV, notV, ifZ, chainZ, nilZ, consZ, tupZ, lstZ, lstHZ, callZ, methZ, makeZ, makeNZ, fldZ, frzE, deepE, lcZ, dcZ, dispZ, pnilZ, pconsZ, oneD, walkU, srcU, walkE, srcE, walkR1, walkR2, walkS, joinedZ, jconsZ, jnilZ, fmtZ, dgetZ, dinZ, dninZ, bmZ, intZ0, intZ, uintZ, sliceZ, partZ, noPartZ, cutQ, yesZ, Z.lenZ, lenQ, listZ, listHZ, tupleZ, sortedSZ, allZ, anyZ, intZ1, strIZ, mulSZ, addZ, repHZ, repZ, appendZ, extendZ, insertZ, countSZ, joinZ, isBlZ, inZ, isOwnQ, eqZ_int, eqZ_str, eqZ_bl, neZ_int, neZ_str, neZ_bl, lenOwnZ, strOwnZ, reprZ, wipeE, kwD, List.set_cons_zero, List.set_cons_succ, List.getElem?_cons_zero, List.getElem?_cons_succ, List.map_cons, List.map_nil, List.cons_append, List.nil_append, List.append_nil, List.length_cons, List.length_nil, Nat.reduceAdd, Nat.reduceSub, List.replicate_succ, List.replicate_zero, if_true, if_false, Bool.false_eq_true, Nat.zero_add, (hB cells pos big salt cnt).g2, (hB cells pos big salt cnt).g1, (hB cells pos big salt cnt).g0, seqG]
    by_cases h1 : big < 1
    · rw [decide_eq_true h1]
      simp only [if_true, List.length_map]
      by_cases h2 : pos < (cells.length : Nat)
      · rw [decide_eq_true h2]
        simp only [if_true]
        have hcell : ∃ c, cells[pos.toNat]? = some c := ⟨_, List.getElem?_eq_getElem (by omega)⟩
        obtain ⟨c, hcell⟩ := hcell
        have hat : atI (cells.map D.int) pos = some (.int c) := by
          have e : pos = (pos.toNat : Nat) := by omega
          rw [e]
          exact atI_nat (by rw [List.getElem?_map, hcell]; rfl)
        rw [getZ_lst hat]
        simp only [bodyZ, asgG, dropG, retG, retNG, ifG, skipG, augG, parG, par3G, frzG, setFldG, asgTG, forG, nameT, tupT, consT, nilT, subT, attrT, varZ, cZ, binZ, unZ, caZ, boolZ, andZ, orZ, notZ, andV, orV, notV, ifZ, chainZ, nilZ, consZ, tupZ, lstZ, lstHZ, callZ, methZ, makeZ, makeNZ, fldZ, frzE, deepE, lcZ, dcZ, dispZ, pnilZ, pconsZ, oneD, walkU, srcU, walkE, srcE, walkR1, walkR2, walkS, joinedZ, jconsZ, jnilZ, fmtZ, dgetZ, dinZ, dninZ, bmZ, intZ0, intZ, uintZ, sliceZ, partZ, noPartZ, cutQ, yesZ, Z.lenZ, lenQ, listZ, listHZ, tupleZ, sortedSZ, allZ, anyZ, intZ1, strIZ, mulSZ, addZ, repHZ, repZ, appendZ, extendZ, insertZ, countSZ, joinZ, isBlZ, inZ, isOwnQ, eqZ_int, eqZ_str, eqZ_bl, neZ_int, neZ_str, neZ_bl, lenOwnZ, strOwnZ, reprZ, wipeE, kwD, List.set_cons_zero, List.set_cons_succ, List.getElem?_cons_zero, List.getElem?_cons_succ, List.map_cons, List.map_nil, List.cons_append, List.nil_append, List.append_nil, List.length_cons, List.length_nil, Nat.reduceAdd, Nat.reduceSub, List.replicate_succ, List.replicate_zero, if_true, if_false, Bool.false_eq_true, Nat.zero_add, (hB cells pos big salt cnt).g1]
        refine (hB cells pos big salt cnt).s1 ?_
        rw [List.set_set]
        simp only [bodyZ, asgG, dropG, retG, retNG, ifG, skipG, augG, parG, par3G, frzG, setFldG, asgTG, forG, nameT, tupT, consT, nilT, subT, attrT, varZ, cZ, binZ, unZ, caZ, boolZ, andZ, orZ, notZ, andV, orV, notV, ifZ, chainZ, nilZ, consZ, tupZ, lstZ, lstHZ, callZ, methZ, makeZ, makeNZ, fldZ, frzE, deepE, lcZ, dcZ, dispZ, pnilZ, pconsZ, oneD, walkU, srcU, walkE, srcE, walkR1, walkR2, walkS, joinedZ, jconsZ, jnilZ, fmtZ, dgetZ, dinZ, dninZ, bmZ, intZ0, intZ, uintZ, sliceZ, partZ, noPartZ, cutQ, yesZ, Z.lenZ, lenQ, listZ, listHZ, tupleZ, sortedSZ, allZ, anyZ, intZ1, strIZ, mulSZ, addZ, repHZ, repZ, appendZ, extendZ, insertZ, countSZ, joinZ, isBlZ, inZ, isOwnQ, eqZ_int, eqZ_str, eqZ_bl, neZ_int, neZ_str, neZ_bl, lenOwnZ, strOwnZ, reprZ, wipeE, kwD, List.set_cons_zero, List.set_cons_succ, List.getElem?_cons_zero, List.getElem?_cons_succ, List.map_cons, List.map_nil, List.cons_append, List.nil_append, List.append_nil, List.length_cons, List.length_nil, Nat.reduceAdd, Nat.reduceSub, List.replicate_succ, List.replicate_zero, if_true, if_false, Bool.false_eq_true, Nat.zero_add, (hB cells (pos + 1) big salt cnt).g3]
        refine ⟨⟨by decide, by decide, by decide⟩, ?_⟩
        rw [pw]
        by_cases h3 : (1000000000000000000 : Int) ≤ c
        · rw [decide_eq_true h3]
          simp only [if_true]
          refine (hB cells (pos + 1) big salt cnt).s2 ?_
          rw [List.set_set]
          exact hK _ _ ⟨pos + 1, c, salt, _, rfl, rfl, by omega, by omega, hs0, hs1⟩
        · rw [decide_eq_false h3]
          simp only [Bool.false_eq_true, if_false]
          refine ⟨.inl ⟨by omega, by omega⟩, by decide, by decide, ?_⟩
          refine (hB cells (pos + 1) big salt cnt).s3 ?_
          rw [List.set_set]
          exact hK _ _ ⟨pos + 1, big, _, _, rfl, rfl, by omega, hbig, Int.emod_nonneg _ (by decide), Int.emod_lt_of_pos _ (by decide)⟩
      · rw [decide_eq_false h2]
        exact hK _ _ ⟨pos, big, salt, none, rfl, rfl, hpos, hbig, hs0, hs1⟩
    · rw [decide_eq_false h1]
      exact hK _ _ ⟨pos, big, salt, none, rfl, rfl, hpos, hbig, hs0, hs1⟩
end
end K01
namespace K01
open PySem L2 Z
section
variable (α : Ad) (ds : List D) (S : Store) (Q : D → Store → Prop) (E : XD → Store → Prop)
theorem s__law_of (hl : ds.length = 2) (h : m__law_of α ds S Q E) : bodyZ 2 (g__law_of α) ds S Q E := by
  obtain ⟨n, l, rfl, hS, hne, hlen, h⟩ := h
  have hpos : 0 < l.length := List.length_pos_iff.mpr hne
  simp only [g__law_of, bodyZ, asgG, dropG, retG, retNG, ifG, skipG, augG, parG, par3G, frzG, setFldG, asgTG, forG, nameT, tupT, consT, nilT, subT, attrT, varZ, cZ, binZ, unZ, caZ, boolZ, andZ, orZ, notZ, andV, orV, notV, ifZ, chainZ, nilZ, consZ, tupZ, lstZ, lstHZ, callZ, methZ, makeZ, makeNZ, fldZ, frzE, deepE, lcZ, dcZ, dispZ, pnilZ, pconsZ, oneD, walkU, srcU, walkE, srcE, walkR1, walkR2, walkS, joinedZ, jconsZ, jnilZ, fmtZ, dgetZ, dinZ, dninZ, bmZ, intZ0, intZ, uintZ, sliceZ, partZ, noPartZ, cutQ, yesZ, Z.lenZ, lenQ, listZ, listHZ, tupleZ, sortedSZ, allZ, anyZ, intZ1, strIZ, mulSZ, addZ, repHZ, repZ, appendZ, extendZ, insertZ, countSZ, joinZ, isBlZ, inZ, isOwnQ, eqZ_int, eqZ_str, eqZ_bl, neZ_int, neZ_str, neZ_bl, lenOwnZ, strOwnZ, reprZ, wipeE, kwD, List.set_cons_zero, List.set_cons_succ, List.getElem?_cons_zero, List.getElem?_cons_succ, List.map_cons, List.map_nil, List.cons_append, List.nil_append, List.append_nil, List.length_cons, List.length_nil, Nat.reduceAdd, Nat.reduceSub, List.replicate_succ, List.replicate_zero, if_true, if_false, Bool.false_eq_true, Nat.zero_add]
  refine ⟨trivial, n, _, rfl, hS, by omega, by omega, fun r h0 h1 => ?_⟩
  have hr : r.toNat < l.length := by omega
  have e : r = (r.toNat : Nat) := by omega
  obtain ⟨d, hd⟩ : ∃ d, l[r.toNat]? = some d := ⟨_, List.getElem?_eq_getElem hr⟩
  have hat : atI l r = some d := by
    rw [e]
    exact atI_nat hd
  show getZ (.lst l) (.int r) S _ _
  rw [getZ_lst hat]
  exact .inl (h _ (List.mem_of_getElem? hd))
theorem s__law_mixed (hl : ds.length = 2) (h : m__law_mixed α ds S Q E) : bodyZ 4 (g__law_mixed α) ds S Q E := by
  obtain ⟨n, l, rfl, hS, hlen, h⟩ := h
  simp only [g__law_mixed, bodyZ, seqG, asgG, dropG, retG, retNG, ifG, skipG, augG, parG, par3G, frzG, setFldG, asgTG, forG, nameT, tupT, consT, nilT, subT, attrT, varZ, cZ, binZ, unZ, caZ, boolZ, andZ, orZ, notZ, andV, orV, notV, ifZ, chainZ, nilZ, consZ, tupZ, lstZ, lstHZ, callZ, methZ, makeZ, makeNZ, fldZ, frzE, deepE, lcZ, dcZ, dispZ, pnilZ, pconsZ, oneD, walkU, srcU, walkE, srcE, walkR1, walkR2, walkS, joinedZ, jconsZ, jnilZ, fmtZ, dgetZ, dinZ, dninZ, bmZ, intZ0, intZ, uintZ, getZ, sliceZ, partZ, noPartZ, cutQ, yesZ, Z.lenZ, lenQ, listZ, listHZ, tupleZ, sortedSZ, allZ, anyZ, intZ1, strIZ, mulSZ, addZ, repHZ, repZ, appendZ, extendZ, insertZ, countSZ, joinZ, isBlZ, inZ, isOwnQ, eqZ_int, eqZ_str, eqZ_bl, neZ_int, neZ_str, neZ_bl, lenOwnZ, strOwnZ, reprZ, wipeE, kwD, List.set_cons_zero, List.set_cons_succ, List.getElem?_cons_zero, List.getElem?_cons_succ, List.map_cons, List.map_nil, List.cons_append, List.nil_append, List.append_nil, List.length_cons, List.length_nil, Nat.reduceAdd, Nat.reduceSub, List.replicate_succ, List.replicate_zero, if_true, if_false, Bool.false_eq_true, Nat.zero_add]
  refine ⟨by decide, ?_⟩
  refine loop_at l (fun i δ S' => ∃ (acc : List D) (x : Option D), acc.Perm (l.take i) ∧ δ = [some (.hnd n), some (.lst l), some (.hnd S.length), x] ∧ S' = S ++ [.lst acc]) ⟨[], none, by simp, rfl, rfl⟩ (fun δ S' hP => ?_) (fun i x δ S' k hx hP hk => ?_)
  · obtain ⟨acc, x, hp, rfl, rfl⟩ := hP
    rw [List.take_length] at hp
    exact ⟨trivial, .inl (h acc hp)⟩
  · obtain ⟨acc, x0, hp, rfl, rfl⟩ := hP
    have hi : i < l.length := (List.getElem?_eq_some_iff.mp hx).1
    have hal : acc.length = i := by
      rw [hp.length_eq, List.length_take]; omega
    simp only [bodyZ, seqG, asgG, dropG, retG, retNG, ifG, skipG, augG, parG, par3G, frzG, setFldG, asgTG, forG, nameT, tupT, consT, nilT, subT, attrT, varZ, cZ, binZ, unZ, caZ, boolZ, andZ, orZ, notZ, andV, orV, notV, ifZ, chainZ, nilZ, consZ, tupZ, lstZ, lstHZ, callZ, methZ, makeZ, makeNZ, fldZ, frzE, deepE, lcZ, dcZ, dispZ, pnilZ, pconsZ, oneD, walkU, srcU, walkE, srcE, walkR1, walkR2, walkS, joinedZ, jconsZ, jnilZ, fmtZ, dgetZ, dinZ, dninZ, bmZ, intZ0, intZ, uintZ, getZ, sliceZ, partZ, noPartZ, cutQ, yesZ, Z.lenZ, lenQ, listZ, listHZ, tupleZ, sortedSZ, allZ, anyZ, intZ1, strIZ, mulSZ, addZ, repHZ, repZ, appendZ, extendZ, insertZ, countSZ, joinZ, isBlZ, inZ, isOwnQ, eqZ_int, eqZ_str, eqZ_bl, neZ_int, neZ_str, neZ_bl, lenOwnZ, strOwnZ, reprZ, wipeE, kwD, List.set_cons_zero, List.set_cons_succ, List.getElem?_cons_zero, List.getElem?_cons_succ, List.map_cons, List.map_nil, List.cons_append, List.nil_append, List.append_nil, List.length_cons, List.length_nil, Nat.reduceAdd, Nat.reduceSub, List.replicate_succ, List.replicate_zero, if_true, if_false, Bool.false_eq_true, Nat.zero_add]
    refine ⟨trivial, tyL_new _ _, ?_⟩
    rw [at_new]
    simp only [bodyZ, seqG, asgG, dropG, retG, retNG, ifG, skipG, augG, parG, par3G, frzG, setFldG, asgTG, forG, nameT, tupT, consT, nilT, subT, attrT, varZ, cZ, binZ, unZ, caZ, boolZ, andZ, orZ, notZ, andV, orV, notV, ifZ, chainZ, nilZ, consZ, tupZ, lstZ, lstHZ, callZ, methZ, makeZ, makeNZ, fldZ, frzE, deepE, lcZ, dcZ, dispZ, pnilZ, pconsZ, oneD, walkU, srcU, walkE, srcE, walkR1, walkR2, walkS, joinedZ, jconsZ, jnilZ, fmtZ, dgetZ, dinZ, dninZ, bmZ, intZ0, intZ, uintZ, getZ, sliceZ, partZ, noPartZ, cutQ, yesZ, Z.lenZ, lenQ, listZ, listHZ, tupleZ, sortedSZ, allZ, anyZ, intZ1, strIZ, mulSZ, addZ, repHZ, repZ, appendZ, extendZ, insertZ, countSZ, joinZ, isBlZ, inZ, isOwnQ, eqZ_int, eqZ_str, eqZ_bl, neZ_int, neZ_str, neZ_bl, lenOwnZ, strOwnZ, reprZ, wipeE, kwD, List.set_cons_zero, List.set_cons_succ, List.getElem?_cons_zero, List.getElem?_cons_succ, List.map_cons, List.map_nil, List.cons_append, List.nil_append, List.append_nil, List.length_cons, List.length_nil, Nat.reduceAdd, Nat.reduceSub, List.replicate_succ, List.replicate_zero, if_true, if_false, Bool.false_eq_true, Nat.zero_add]
    refine ⟨trivial, n, _, rfl, at_app hS, by omega, by omega, fun r h0 h1 => ?_⟩
    refine ⟨acc, at_new _ _, by omega, h0, by omega, hk _ _ ⟨acc.take r.toNat ++ [x] ++ acc.drop r.toNat, _, ?_, rfl, by rw [set_new]⟩⟩
    have ht : l.take (i + 1) = l.take i ++ [x] := by rw [List.take_succ, hx]; rfl
    rw [ht]
    have p1 : (acc.take r.toNat ++ [x] ++ acc.drop r.toNat).Perm (x :: acc) := by
      rw [List.append_assoc, List.singleton_append]
      refine List.perm_middle.trans ?_
      rw [List.take_append_drop]
    exact p1.trans ((List.Perm.cons x hp).trans (List.perm_append_singleton x _).symm)
theorem s__law_same (hl : ds.length = 2) (h : m__law_same α ds S Q E) : bodyZ 2 (g__law_same α) ds S Q E := by
  obtain ⟨x, y, p, rfl, h1, h2, h3, h4, h5, h6, h7, h⟩ := h
  simp only [g__law_same, bodyZ, seqG, asgG, dropG, retG, retNG, ifG, skipG, augG, parG, par3G, frzG, setFldG, asgTG, forG, nameT, tupT, consT, nilT, subT, attrT, varZ, cZ, binZ, unZ, caZ, boolZ, andZ, orZ, notZ, andV, orV, notV, ifZ, chainZ, nilZ, consZ, tupZ, lstZ, lstHZ, callZ, methZ, makeZ, makeNZ, fldZ, frzE, deepE, lcZ, dcZ, dispZ, pnilZ, pconsZ, oneD, walkU, srcU, walkE, srcE, walkR1, walkR2, walkS, joinedZ, jconsZ, jnilZ, fmtZ, dgetZ, dinZ, dninZ, bmZ, intZ0, intZ, uintZ, getZ, sliceZ, partZ, noPartZ, cutQ, yesZ, Z.lenZ, lenQ, listZ, listHZ, tupleZ, sortedSZ, allZ, anyZ, intZ1, strIZ, mulSZ, addZ, repHZ, repZ, appendZ, extendZ, insertZ, countSZ, joinZ, isBlZ, inZ, isOwnQ, eqZ_int, eqZ_str, eqZ_bl, neZ_int, neZ_str, neZ_bl, lenOwnZ, strOwnZ, reprZ, wipeE, kwD, List.set_cons_zero, List.set_cons_succ, List.getElem?_cons_zero, List.getElem?_cons_succ, List.map_cons, List.map_nil, List.cons_append, List.nil_append, List.append_nil, List.length_cons, List.length_nil, Nat.reduceAdd, Nat.reduceSub, List.replicate_succ, List.replicate_zero, if_true, if_false, Bool.false_eq_true, Nat.zero_add]
  refine ⟨p, h1, h3, h5, h6, h7, p, h2, h4, h5, h6, h7, ?_⟩
  simp only [bodyZ, seqG, asgG, dropG, retG, retNG, ifG, skipG, augG, parG, par3G, frzG, setFldG, asgTG, forG, nameT, tupT, consT, nilT, subT, attrT, varZ, cZ, binZ, unZ, caZ, boolZ, andZ, orZ, notZ, andV, orV, notV, ifZ, chainZ, nilZ, consZ, tupZ, lstZ, lstHZ, callZ, methZ, makeZ, makeNZ, fldZ, frzE, deepE, lcZ, dcZ, dispZ, pnilZ, pconsZ, oneD, walkU, srcU, walkE, srcE, walkR1, walkR2, walkS, joinedZ, jconsZ, jnilZ, fmtZ, dgetZ, dinZ, dninZ, bmZ, intZ0, intZ, uintZ, getZ, sliceZ, partZ, noPartZ, cutQ, yesZ, Z.lenZ, lenQ, listZ, listHZ, tupleZ, sortedSZ, allZ, anyZ, intZ1, strIZ, mulSZ, addZ, repHZ, repZ, appendZ, extendZ, insertZ, countSZ, joinZ, isBlZ, inZ, isOwnQ, eqZ_int, eqZ_str, eqZ_bl, neZ_int, neZ_str, neZ_bl, lenOwnZ, strOwnZ, reprZ, wipeE, kwD, List.set_cons_zero, List.set_cons_succ, List.getElem?_cons_zero, List.getElem?_cons_succ, List.map_cons, List.map_nil, List.cons_append, List.nil_append, List.append_nil, List.length_cons, List.length_nil, Nat.reduceAdd, Nat.reduceSub, List.replicate_succ, List.replicate_zero, if_true, if_false, Bool.false_eq_true, Nat.zero_add, decide_true]
  exact .inl h
/-! names -/
def headS : Nat → Str
  | 2 => "ab"
  | 4 => "q"
  | _ => ""
def tailS : Nat → Str
  | 3 => "zz"
  | 4 => "qrstuv"
  | _ => ""
def wordN (c a : Nat) : Str := headS c ++ ⟨#[97 + a]⟩ ++ tailS c
theorem word_inj : ∀ c : Fin 5, ∀ a : Fin 26, ∀ c' : Fin 5, ∀ a' : Fin 26, wordN c a = wordN c' a' → a = a' := by decide +kernel
theorem word_ok : ∀ c : Fin 5, ∀ a : Fin 26, 1 ≤ (wordN c a).length ∧ (wordN c a).length ≤ 8 ∧ ∀ x ∈ (wordN c a).cps.toList, x ∈ LET.cps.toList := by decide +kernel
theorem let_at : ∀ a : Fin 26, LET.cps.toList[(a : Nat)]? = some (97 + (a : Nat)) := by decide +kernel
theorem head_len : ∀ c : Fin 5, (headS c).length ≤ 2 ∧ (tailS c).length ≤ 6 := by decide +kernel
theorem s__law_some_names (hl : ds.length = 2) (h : m__law_some_names α ds S Q E) : bodyZ 8 (g__law_some_names α) ds S Q E := by
  obtain ⟨n, many, rfl, hS, hm0, hm1, h⟩ := h
  simp only [g__law_some_names, bodyZ, seqG, asgG, dropG, retG, retNG, ifG, skipG, augG, parG, par3G, frzG, setFldG, asgTG, forG, nameT, tupT, consT, nilT, subT, attrT, varZ, cZ, binZ, unZ, caZ, boolZ, andZ, orZ, notZ, andV, orV, notV, ifZ, chainZ, nilZ, consZ, tupZ, lstZ, lstHZ, callZ, methZ, makeZ, makeNZ, fldZ, frzE, deepE, lcZ, dcZ, dispZ, pnilZ, pconsZ, oneD, walkU, srcU, walkE, srcE, walkR1, walkR2, walkS, joinedZ, jconsZ, jnilZ, fmtZ, dgetZ, dinZ, dninZ, bmZ, intZ0, intZ, uintZ, getZ, sliceZ, partZ, noPartZ, cutQ, yesZ, Z.lenZ, lenQ, listZ, listHZ, tupleZ, sortedSZ, allZ, anyZ, intZ1, strIZ, mulSZ, addZ, repHZ, repZ, appendZ, extendZ, insertZ, countSZ, joinZ, isBlZ, inZ, isOwnQ, eqZ_int, eqZ_str, eqZ_bl, neZ_int, neZ_str, neZ_bl, lenOwnZ, strOwnZ, reprZ, wipeE, kwD, List.set_cons_zero, List.set_cons_succ, List.getElem?_cons_zero, List.getElem?_cons_succ, List.map_cons, List.map_nil, List.cons_append, List.nil_append, List.append_nil, List.length_cons, List.length_nil, Nat.reduceAdd, Nat.reduceSub, List.replicate_succ, List.replicate_zero, if_true, if_false, Bool.false_eq_true, Nat.zero_add]
  refine ⟨by decide, trivial, n, 26, rfl, at_app hS, by decide, by decide, fun first f0 f1 => ?_⟩
  have e26 : (26 : Int) = ((26 : Nat) : Int) := rfl
  refine ⟨⟨by omega, by omega⟩, ?_⟩
  refine loop_at _ (fun i δ S' => ∃ (acc : List Str) (x y z : Option D), acc.length = i ∧ i ≤ many.toNat ∧ (∀ j w, acc[j]? = some w → ∃ c : Fin 5, w = wordN c ((first.toNat + 7 * j) % 26)) ∧ δ = [some (.hnd n), some (.int many), some (.hnd S.length), some (.str "abcdefghijklmnopqrstuvwxyz"), some (.int first), x, y, z] ∧ S' = S ++ [.lst (acc.map .str)]) ⟨[], none, none, none, rfl, Nat.zero_le _, fun j w hw => (by simp at hw), rfl, rfl⟩ (fun δ S' hP => ?_) (fun i x δ S' k hx hP hk => ?_)
  · obtain ⟨acc, x, y, z, hal, _, hac, rfl, rfl⟩ := hP
    refine ⟨trivial, ?_⟩
    simp only [bodyZ, seqG, asgG, dropG, retG, retNG, ifG, skipG, augG, parG, par3G, frzG, setFldG, asgTG, forG, nameT, tupT, consT, nilT, subT, attrT, varZ, cZ, binZ, unZ, caZ, boolZ, andZ, orZ, notZ, andV, orV, notV, ifZ, chainZ, nilZ, consZ, tupZ, lstZ, lstHZ, callZ, methZ, makeZ, makeNZ, fldZ, frzE, deepE, lcZ, dcZ, dispZ, pnilZ, pconsZ, oneD, walkU, srcU, walkE, srcE, walkR1, walkR2, walkS, joinedZ, jconsZ, jnilZ, fmtZ, dgetZ, dinZ, dninZ, bmZ, intZ0, intZ, uintZ, getZ, sliceZ, partZ, noPartZ, cutQ, yesZ, Z.lenZ, lenQ, listZ, listHZ, tupleZ, sortedSZ, allZ, anyZ, intZ1, strIZ, mulSZ, addZ, repHZ, repZ, appendZ, extendZ, insertZ, countSZ, joinZ, isBlZ, inZ, isOwnQ, eqZ_int, eqZ_str, eqZ_bl, neZ_int, neZ_str, neZ_bl, lenOwnZ, strOwnZ, reprZ, wipeE, kwD, List.set_cons_zero, List.set_cons_succ, List.getElem?_cons_zero, List.getElem?_cons_succ, List.map_cons, List.map_nil, List.cons_append, List.nil_append, List.append_nil, List.length_cons, List.length_nil, Nat.reduceAdd, Nat.reduceSub, List.replicate_succ, List.replicate_zero, if_true, if_false, Bool.false_eq_true, Nat.zero_add]
    have hlen : acc.length = many.toNat := by rw [hal]; unfold rangeD; simp
    have nd : acc.Nodup := by
      show acc.Pairwise (· ≠ ·)
      rw [List.pairwise_iff_getElem]
      intro i j hi hj hij e
      obtain ⟨wi, ei⟩ : ∃ w, acc[i]? = some w := ⟨_, List.getElem?_eq_getElem hi⟩
      have ej : acc[j]? = some wi := by rw [List.getElem?_eq_getElem hj, ← e, ← List.getElem?_eq_getElem hi, ei]
      obtain ⟨c, h1⟩ := hac i wi ei
      obtain ⟨c', h2⟩ := hac j wi ej
      have hh := word_inj c ⟨(first.toNat + 7 * i) % 26, Nat.mod_lt _ (by decide)⟩ c' ⟨(first.toNat + 7 * j) % 26, Nat.mod_lt _ (by decide)⟩ (h1.symm.trans h2)
      have h3 : (first.toNat + 7 * i) % 26 = (first.toNat + 7 * j) % 26 := congrArg Fin.val hh
      omega
    refine ⟨acc, lstOf_new _ _, by omega, fun ys hp hs => end_same (scL_of (Fl.strs ys)) (h ys ?_ (hp.nodup_iff.mpr nd) hs fun w hw => ?_)⟩
    · rw [hp.length_eq]; omega
    · obtain ⟨j, hj⟩ := List.getElem?_of_mem (hp.mem_iff.mp hw)
      obtain ⟨c, rfl⟩ := hac j w hj
      exact word_ok c ⟨(first.toNat + 7 * j) % 26, Nat.mod_lt _ (by decide)⟩
  · obtain ⟨acc, x0, y0, z0, hal, him, hac, rfl, rfl⟩ := hP
    unfold rangeD at hx
    have hi : i < many.toNat := by
      have := (List.getElem?_eq_some_iff.mp hx).1
      simpa using this
    rw [List.getElem?_map, List.getElem?_range (by simpa using hi)] at hx
    cases hx
    simp only [bodyZ, asgG, dropG, retG, retNG, ifG, skipG, augG, parG, par3G, frzG, setFldG, asgTG, forG, nameT, tupT, consT, nilT, subT, attrT, varZ, cZ, binZ, unZ, caZ, boolZ, andZ, orZ, notZ, andV, orV, notV, ifZ, chainZ, nilZ, consZ, tupZ, lstZ, lstHZ, callZ, methZ, makeZ, makeNZ, fldZ, frzE, deepE, lcZ, dcZ, dispZ, pnilZ, pconsZ, oneD, walkU, srcU, walkE, srcE, walkR1, walkR2, walkS, joinedZ, jconsZ, jnilZ, fmtZ, dgetZ, dinZ, dninZ, bmZ, intZ0, intZ, uintZ, sliceZ, partZ, noPartZ, cutQ, yesZ, Z.lenZ, lenQ, listZ, listHZ, tupleZ, sortedSZ, allZ, anyZ, intZ1, strIZ, mulSZ, addZ, repHZ, repZ, appendZ, extendZ, insertZ, countSZ, joinZ, isBlZ, inZ, isOwnQ, eqZ_int, eqZ_str, eqZ_bl, neZ_int, neZ_str, neZ_bl, lenOwnZ, strOwnZ, reprZ, wipeE, kwD, List.set_cons_zero, List.set_cons_succ, List.getElem?_cons_zero, List.getElem?_cons_succ, List.map_cons, List.map_nil, List.cons_append, List.nil_append, List.append_nil, List.length_cons, List.length_nil, Nat.reduceAdd, Nat.reduceSub, List.replicate_succ, List.replicate_zero, if_true, if_false, Bool.false_eq_true, Nat.zero_add, Int.zero_add, seqG]
    refine ⟨trivial, by decide, by decide, by decide, by decide, by decide, by decide, trivial, n, _, rfl, at_app hS, by simp, by decide, fun d hd => ?_⟩
    have hc : ∃ c : Fin 5, d = .tup [.str (headS c), .str (tailS c)] := by
      simp only [List.mem_cons, List.not_mem_nil, or_false] at hd
      rcases hd with rfl | rfl | rfl | rfl | rfl
      · exact ⟨0, rfl⟩
      · exact ⟨1, rfl⟩
      · exact ⟨2, rfl⟩
      · exact ⟨3, rfl⟩
      · exact ⟨4, rfl⟩
    obtain ⟨c, rfl⟩ := hc
    have hh := head_len c
    have a0 : 0 ≤ (first + 7 * (i : Int)) % 26 := Int.emod_nonneg _ (by decide)
    have a1 : (first + 7 * (i : Int)) % 26 < 26 := Int.emod_lt_of_pos _ (by decide)
    have ea : (first + 7 * (i : Int)) % 26 = (((first.toNat + 7 * i) % 26 : Nat) : Int) := by omega
    have la := let_at ⟨(first.toNat + 7 * i) % 26, Nat.mod_lt _ (by decide)⟩
    refine ⟨rfl, tyL_new _ _, .inl ⟨by omega, by omega⟩, by decide, ?_⟩
    rw [ea]
    refine ⟨by decide, 97 + (first.toNat + 7 * i) % 26, atI_nat la, ?_⟩
    have l1 : (⟨#[97 + (first.toNat + 7 * i) % 26]⟩ : Str).length = 1 := rfl
    have sz : (100000 : Nat) ≤ sizeLine := by decide
    refine ⟨by omega, by rw [len_app]; omega, _, at_new _ _, by rw [List.length_map]; omega, hk _ _ ⟨acc ++ [wordN c ((first.toNat + 7 * i) % 26)], _, _, _, by simp [hal], hi, fun j w hw => ?_, rfl, ?_⟩⟩
    · by_cases hj : j < acc.length
      · rw [List.getElem?_append_left hj] at hw
        exact hac j w hw
      · rw [List.getElem?_append_right (by omega)] at hw
        have : j - acc.length = 0 := by
          cases q : j - acc.length with
          | zero => rfl
          | succ m => rw [q] at hw; simp at hw
        rw [this] at hw
        cases hw
        have : j = i := by omega
        subst this
        exact ⟨c, rfl⟩
    · rw [set_new, List.map_append]
      rfl
end
end K01
namespace K01
open PySem L2 Z
section
variable (α : Ad) (ds : List D) (S : Store) (Q : D → Store → Prop) (E : XD → Store → Prop)
def rowD (m : Nat) (R : Nat → Nat → Bool) (i : Nat) : List D := (List.range m).map fun k => .int (b2i (R i k))
def Tm (S : Store) (m : Nat) (R : Nat → Nat → Bool) : Store := S ++ (.lst ((List.range m).map fun j => .hnd (S.length + 1 + j)) :: (List.range m).map fun i => C.lst (rowD m R i))
theorem Tm_grid (m : Nat) (R : Nat → Nat → Bool) : (Tm S m R)[S.length]? = some (.lst ((List.range m).map fun j => .hnd (S.length + 1 + j))) := by
  unfold Tm
  rw [List.getElem?_append_right (Nat.le_refl _), Nat.sub_self, List.getElem?_cons_zero]
theorem Tm_row (m : Nat) (R : Nat → Nat → Bool) {i : Nat} (hi : i < m) : (Tm S m R)[S.length + 1 + i]? = some (.lst (rowD m R i)) := by
  unfold Tm
  rw [List.getElem?_append_right (by omega), show S.length + 1 + i - S.length = i + 1 by omega, List.getElem?_cons_succ, List.getElem?_map, List.getElem?_range hi]
  rfl
theorem Tm_bag {n : Nat} {m : Nat} {R : Nat → Nat → Bool} {c : C} (h : S[n]? = some c) : (Tm S m R)[n]? = some c := at_app h
def upR (R : Nat → Nat → Bool) (i k : Nat) (b : Bool) : Nat → Nat → Bool := fun a c => if a = i ∧ c = k then b else R a c
theorem set_range {α : Type} (f : Nat → α) (v : α) (m k : Nat) : ((List.range m).map f).set k v = (List.range m).map fun j => if j = k then v else f j := by
  apply List.ext_getElem?
  intro j
  by_cases hk : k = j
  · subst hk
    by_cases h : k < m
    · rw [List.getElem?_set_self (by simpa using h), List.getElem?_map, List.getElem?_range h]; simp
    · rw [List.getElem?_eq_none (by simpa using h), List.getElem?_eq_none (by simpa using h)]
  · rw [List.getElem?_set_ne hk, List.getElem?_map, List.getElem?_map]
    by_cases h : j < m
    · rw [List.getElem?_range h]
      have : ¬ j = k := fun e => hk e.symm
      simp [this]
    · rw [List.getElem?_eq_none (by simpa using h)]; rfl
theorem Tm_set (m : Nat) (R : Nat → Nat → Bool) {i k : Nat} (hi : i < m) (b : Bool) : (Tm S m R).set (S.length + 1 + i) (.lst ((rowD m R i).set k (.int (b2i b)))) = Tm S m (upR R i k b) := by
  unfold Tm
  rw [List.set_append_right _ _ (by omega), show S.length + 1 + i - S.length = i + 1 by omega, List.set_cons_succ, set_range]
  congr 2
  apply List.map_congr_left
  intro a _
  by_cases h : a = i
  · subst h
    rw [if_pos rfl]
    unfold rowD
    rw [set_range]
    congr 1
    apply List.map_congr_left
    intro c _
    unfold upR
    by_cases hc : c = k
    · simp [hc]
    · simp [hc]
  · rw [if_neg h]
    unfold rowD upR
    congr 1
    apply List.map_congr_left
    intro c _
    simp [h]
theorem Tm_get {m : Nat} {R : Nat → Nat → Bool} {i : Nat} (hi : i < m) (Q : D → Store → Prop) (E : XD → Store → Prop) : getZ (.hnd S.length) (.int (i : Nat)) (Tm S m R) Q E = Q (.hnd (S.length + 1 + i)) (Tm S m R) := getZ_hnd (Tm_grid S m R) (range_at _ hi) Q E
theorem Tm_put {m : Nat} {R : Nat → Nat → Bool} {i k : Nat} (hi : i < m) (hk : k < m) (b : Bool) {Q : Store → Prop} (q : Q (Tm S m (upR R i k b))) : setIxQ (.hnd (S.length + 1 + i)) (.int (k : Nat)) (.int (b2i b)) (Tm S m R) Q := by
  refine setBag (Tm_row S m R hi) (by unfold rowD; simpa using hk) ?_
  rw [Tm_set S m R hi]
  exact q
theorem fzL_map {β : Type} {T : Store} {A : Nat → Bool} (f g : β → D) : ∀ l : List β, (∀ x ∈ l, FzD T A (f x) (g x)) → FzL T A (l.map f) (l.map g)
  | [], _ => .nil
  | x :: l, h => .cons (h x (List.mem_cons_self ..)) (fzL_map f g l fun y hy => h y (List.mem_cons_of_mem _ hy))
theorem fl_grid (m : Nat) (R : Nat → Nat → Bool) : Fl (gridD m R) := Fl.lst (Fl.map fun _ => Fl.lst (Fl.map fun _ => Fl.int _))
theorem s__law_some_grid (hl : ds.length = 2) (h : m__law_some_grid α ds S Q E) : bodyZ 8 (g__law_some_grid α) ds S (deepQ S Q) E := by
  obtain ⟨n, many, rfl, hS, hm0, hm1, h⟩ := h
  obtain ⟨m, rfl⟩ : ∃ m : Nat, many = m := ⟨many.toNat, by omega⟩
  have hm : m ≤ 16 := by omega
  rw [Int.toNat_natCast] at h
  simp only [g__law_some_grid, bodyZ, asgG, dropG, retG, retNG, ifG, skipG, augG, parG, par3G, frzG, setFldG, asgTG, forG, nameT, tupT, consT, nilT, subT, attrT, varZ, cZ, binZ, unZ, caZ, boolZ, andZ, orZ, notZ, andV, orV, notV, ifZ, chainZ, nilZ, consZ, tupZ, lstZ, lstHZ, callZ, methZ, makeZ, makeNZ, fldZ, frzE, deepE, lcZ, dcZ, dispZ, pnilZ, pconsZ, oneD, walkU, srcU, walkE, srcE, walkR1, walkR2, walkS, joinedZ, jconsZ, jnilZ, fmtZ, dgetZ, dinZ, dninZ, bmZ, intZ0, intZ, uintZ, sliceZ, partZ, noPartZ, cutQ, yesZ, Z.lenZ, lenQ, listZ, listHZ, tupleZ, sortedSZ, allZ, anyZ, intZ1, strIZ, mulSZ, addZ, repHZ, repZ, appendZ, extendZ, insertZ, countSZ, joinZ, isBlZ, inZ, isOwnQ, eqZ_int, eqZ_str, eqZ_bl, neZ_int, neZ_str, neZ_bl, lenOwnZ, strOwnZ, reprZ, wipeE, kwD, List.set_cons_zero, List.set_cons_succ, List.getElem?_cons_zero, List.getElem?_cons_succ, List.map_cons, List.map_nil, List.cons_append, List.nil_append, List.append_nil, List.length_cons, List.length_nil, Nat.reduceAdd, Nat.reduceSub, List.replicate_succ, List.replicate_zero, if_true, if_false, Bool.false_eq_true, Nat.zero_add, seqG]
  refine ⟨trivial, n, 5, rfl, hS, by decide, by decide, fun thick t0 t1 => ⟨trivial, n, 4, rfl, hS, by decide, by decide, fun rest r0 r1 => ⟨⟨by omega, by omega⟩, ?_⟩⟩⟩
  have hxs : (rangeD 0 ((m : Int)).toNat).length = m := by unfold rangeD; simp
  refine lc_ind _ (fun i T => T = S ++ (.lst ((List.range i).map fun j => .hnd (S.length + 1 + j)) :: List.replicate i (C.lst (List.replicate m (.int 0))))) rfl (fun T hP => ?_) (fun i x T k hx hP hk => ?_)
  · subst hP
    rw [hxs]
    have e0 : S ++ (C.lst ((List.range m).map fun j => .hnd (S.length + 1 + j)) :: List.replicate m (C.lst (List.replicate m (.int 0)))) = Tm S m (fun _ _ => false) := by
      unfold Tm
      congr 2
      refine (List.eq_replicate_iff.mpr ⟨by simp, fun b hb => ?_⟩).symm
      obtain ⟨i, _, rfl⟩ := List.mem_map.mp hb
      congr 1
      unfold rowD
      exact List.eq_replicate_iff.mpr ⟨by simp, fun b hb => by
        obtain ⟨i, _, rfl⟩ := List.mem_map.mp hb
        rfl⟩
    rw [e0]
    refine ⟨trivial, ⟨by omega, by omega⟩, ?_⟩
    refine loop_at _ (fun i δ S' => ∃ (R : Nat → Nat → Bool) (x y : Option D), (∀ i j, R i j = R j i) ∧ δ = [some (.hnd n), some (.int m), some (.int thick), some (.int rest), some (.hnd S.length), x, y, none] ∧ S' = Tm S m R) ⟨_, none, none, fun _ _ => rfl, rfl, rfl⟩ (fun δ S' hP => ?_) (fun i x δ S' k hx hP hk => ?_)
    · obtain ⟨R, x, y, hR, rfl, rfl⟩ := hP
      refine ⟨trivial, .inl ?_⟩
      refine deepQ_same (d := gridD m R) (.hlst (by simp [newA]) (Tm_grid S m R) ?_) (fl_grid m R _) (h R hR)
      exact fzL_map _ _ _ fun j hj => .hlst (by simp [newA]; omega) (Tm_row S m R (List.mem_range.mp hj)) (by
        have : ∀ l : List D, FzL (Tm S m R) (newA S.length) l l := by
          intro l
          induction l with
          | nil => exact .nil
          | cons a l ih => exact .cons (.same a) ih
        exact this _)
    · obtain ⟨R, x0, y0, hR, rfl, rfl⟩ := hP
      have hi : i < m := by
        have := (List.getElem?_eq_some_iff.mp hx).1
        rwa [hxs] at this
      unfold rangeD at hx
      rw [List.getElem?_map, List.getElem?_range (by simpa using hi)] at hx
      cases hx
      simp only [bodyZ, asgG, dropG, retG, retNG, ifG, skipG, augG, parG, par3G, frzG, setFldG, asgTG, forG, nameT, tupT, consT, nilT, subT, attrT, varZ, cZ, binZ, unZ, caZ, boolZ, andZ, orZ, notZ, andV, orV, notV, ifZ, chainZ, nilZ, consZ, tupZ, lstZ, lstHZ, callZ, methZ, makeZ, makeNZ, fldZ, frzE, deepE, lcZ, dcZ, dispZ, pnilZ, pconsZ, oneD, walkU, srcU, walkE, srcE, walkR1, walkR2, walkS, joinedZ, jconsZ, jnilZ, fmtZ, dgetZ, dinZ, dninZ, bmZ, intZ0, intZ, uintZ, sliceZ, partZ, noPartZ, cutQ, yesZ, Z.lenZ, lenQ, listZ, listHZ, tupleZ, sortedSZ, allZ, anyZ, intZ1, strIZ, mulSZ, addZ, repHZ, repZ, appendZ, extendZ, insertZ, countSZ, joinZ, isBlZ, inZ, isOwnQ, eqZ_int, eqZ_str, eqZ_bl, neZ_int, neZ_str, neZ_bl, lenOwnZ, strOwnZ, reprZ, wipeE, kwD, List.set_cons_zero, List.set_cons_succ, List.getElem?_cons_zero, List.getElem?_cons_succ, List.map_cons, List.map_nil, List.cons_append, List.nil_append, List.append_nil, List.length_cons, List.length_nil, Nat.reduceAdd, Nat.reduceSub, List.replicate_succ, List.replicate_zero, if_true, if_false, Bool.false_eq_true, Nat.zero_add, Int.zero_add]
      refine ⟨trivial, ?_⟩
      refine seq_with (fun δ' S' => ∃ (R : Nat → Nat → Bool) (y : Option D), (∀ i j, R i j = R j i) ∧ δ' = [some (.hnd n), some (.int m), some (.int thick), some (.int rest), some (.hnd S.length), some (.int (i : Nat)), y, none] ∧ S' = Tm S m R) (fun δ' S' hP => ?_) (fun K hK => ?_)
      · obtain ⟨R, y, hR, rfl, rfl⟩ := hP
        simp only [bodyZ, asgG, dropG, retG, retNG, ifG, skipG, augG, parG, par3G, frzG, setFldG, asgTG, forG, nameT, tupT, consT, nilT, subT, attrT, varZ, cZ, binZ, unZ, caZ, boolZ, andZ, orZ, notZ, andV, orV, notV, ifZ, chainZ, nilZ, consZ, tupZ, lstZ, lstHZ, callZ, methZ, makeZ, makeNZ, fldZ, frzE, deepE, lcZ, dcZ, dispZ, pnilZ, pconsZ, oneD, walkU, srcU, walkE, srcE, walkR1, walkR2, walkS, joinedZ, jconsZ, jnilZ, fmtZ, dgetZ, dinZ, dninZ, bmZ, intZ0, intZ, uintZ, sliceZ, partZ, noPartZ, cutQ, yesZ, Z.lenZ, lenQ, listZ, listHZ, tupleZ, sortedSZ, allZ, anyZ, intZ1, strIZ, mulSZ, addZ, repHZ, repZ, appendZ, extendZ, insertZ, countSZ, joinZ, isBlZ, inZ, isOwnQ, eqZ_int, eqZ_str, eqZ_bl, neZ_int, neZ_str, neZ_bl, lenOwnZ, strOwnZ, reprZ, wipeE, kwD, List.set_cons_zero, List.set_cons_succ, List.getElem?_cons_zero, List.getElem?_cons_succ, List.map_cons, List.map_nil, List.cons_append, List.nil_append, List.append_nil, List.length_cons, List.length_nil, Nat.reduceAdd, Nat.reduceSub, List.replicate_succ, List.replicate_zero, if_true, if_false, Bool.false_eq_true, Nat.zero_add]
        refine ⟨trivial, n, 3, rfl, Tm_bag S hS, by decide, by decide, fun r r0 r1 => ?_⟩
        simp only [bodyZ, asgG, dropG, retG, retNG, ifG, skipG, augG, parG, par3G, frzG, setFldG, asgTG, forG, nameT, tupT, consT, nilT, subT, attrT, varZ, cZ, binZ, unZ, caZ, boolZ, andZ, orZ, notZ, andV, orV, notV, ifZ, chainZ, nilZ, consZ, tupZ, lstZ, lstHZ, callZ, methZ, makeZ, makeNZ, fldZ, frzE, deepE, lcZ, dcZ, dispZ, pnilZ, pconsZ, oneD, walkU, srcU, walkE, srcE, walkR1, walkR2, walkS, joinedZ, jconsZ, jnilZ, fmtZ, dgetZ, dinZ, dninZ, bmZ, intZ0, intZ, uintZ, sliceZ, partZ, noPartZ, cutQ, yesZ, Z.lenZ, lenQ, listZ, listHZ, tupleZ, sortedSZ, allZ, anyZ, intZ1, strIZ, mulSZ, addZ, repHZ, repZ, appendZ, extendZ, insertZ, countSZ, joinZ, isBlZ, inZ, isOwnQ, eqZ_int, eqZ_str, eqZ_bl, neZ_int, neZ_str, neZ_bl, lenOwnZ, strOwnZ, reprZ, wipeE, kwD, List.set_cons_zero, List.set_cons_succ, List.getElem?_cons_zero, List.getElem?_cons_succ, List.map_cons, List.map_nil, List.cons_append, List.nil_append, List.append_nil, List.length_cons, List.length_nil, Nat.reduceAdd, Nat.reduceSub, List.replicate_succ, List.replicate_zero, if_true, if_false, Bool.false_eq_true, Nat.zero_add, Tm_get S hi]
        refine Tm_put S hi hi (decide (r < rest)) (hk _ _ ⟨_, _, _, ?_, rfl, rfl⟩)
        intro a b
        unfold upR
        by_cases h1 : a = i
        · by_cases h2 : b = i
          · simp [h1, h2]
          · simp [h1, h2]; exact hR _ _
        · by_cases h2 : b = i
          · simp [h1, h2]; exact hR _ _
          · simp [h1, h2]; exact hR _ _
      · simp only [bodyZ, asgG, dropG, retG, retNG, ifG, skipG, augG, parG, par3G, frzG, setFldG, asgTG, forG, nameT, tupT, consT, nilT, subT, attrT, varZ, cZ, binZ, unZ, caZ, boolZ, andZ, orZ, notZ, andV, orV, notV, ifZ, chainZ, nilZ, consZ, tupZ, lstZ, lstHZ, callZ, methZ, makeZ, makeNZ, fldZ, frzE, deepE, lcZ, dcZ, dispZ, pnilZ, pconsZ, oneD, walkU, srcU, walkE, srcE, walkR1, walkR2, walkS, joinedZ, jconsZ, jnilZ, fmtZ, dgetZ, dinZ, dninZ, bmZ, intZ0, intZ, uintZ, sliceZ, partZ, noPartZ, cutQ, yesZ, Z.lenZ, lenQ, listZ, listHZ, tupleZ, sortedSZ, allZ, anyZ, intZ1, strIZ, mulSZ, addZ, repHZ, repZ, appendZ, extendZ, insertZ, countSZ, joinZ, isBlZ, inZ, isOwnQ, eqZ_int, eqZ_str, eqZ_bl, neZ_int, neZ_str, neZ_bl, lenOwnZ, strOwnZ, reprZ, wipeE, kwD, List.set_cons_zero, List.set_cons_succ, List.getElem?_cons_zero, List.getElem?_cons_succ, List.map_cons, List.map_nil, List.cons_append, List.nil_append, List.append_nil, List.length_cons, List.length_nil, Nat.reduceAdd, Nat.reduceSub, List.replicate_succ, List.replicate_zero, if_true, if_false, Bool.false_eq_true, Nat.zero_add]
        refine ⟨⟨by omega, by omega⟩, ?_⟩
        refine loop_at _ (fun j δ S' => ∃ (R : Nat → Nat → Bool) (y : Option D), (∀ i j, R i j = R j i) ∧ δ = [some (.hnd n), some (.int m), some (.int thick), some (.int rest), some (.hnd S.length), some (.int (i : Nat)), y, none] ∧ S' = Tm S m R) ⟨R, y0, hR, rfl, rfl⟩ (fun δ S' hP => ?_) (fun j x δ S' k2 hx hP hk2 => ?_)
        · exact ⟨trivial, hK _ _ hP⟩
        · obtain ⟨R, y1, hR, rfl, rfl⟩ := hP
          have hj : j < i := by
            have := (List.getElem?_eq_some_iff.mp hx).1
            unfold rangeD at this
            simpa using this
          unfold rangeD at hx
          rw [List.getElem?_map, List.getElem?_range (by simpa using hj)] at hx
          cases hx
          simp only [bodyZ, asgG, dropG, retG, retNG, ifG, skipG, augG, parG, par3G, frzG, setFldG, asgTG, forG, nameT, tupT, consT, nilT, subT, attrT, varZ, cZ, binZ, unZ, caZ, boolZ, andZ, orZ, notZ, andV, orV, notV, ifZ, chainZ, nilZ, consZ, tupZ, lstZ, lstHZ, callZ, methZ, makeZ, makeNZ, fldZ, frzE, deepE, lcZ, dcZ, dispZ, pnilZ, pconsZ, oneD, walkU, srcU, walkE, srcE, walkR1, walkR2, walkS, joinedZ, jconsZ, jnilZ, fmtZ, dgetZ, dinZ, dninZ, bmZ, intZ0, intZ, uintZ, sliceZ, partZ, noPartZ, cutQ, yesZ, Z.lenZ, lenQ, listZ, listHZ, tupleZ, sortedSZ, allZ, anyZ, intZ1, strIZ, mulSZ, addZ, repHZ, repZ, appendZ, extendZ, insertZ, countSZ, joinZ, isBlZ, inZ, isOwnQ, eqZ_int, eqZ_str, eqZ_bl, neZ_int, neZ_str, neZ_bl, lenOwnZ, strOwnZ, reprZ, wipeE, kwD, List.set_cons_zero, List.set_cons_succ, List.getElem?_cons_zero, List.getElem?_cons_succ, List.map_cons, List.map_nil, List.cons_append, List.nil_append, List.append_nil, List.length_cons, List.length_nil, Nat.reduceAdd, Nat.reduceSub, List.replicate_succ, List.replicate_zero, if_true, if_false, Bool.false_eq_true, Nat.zero_add, Int.zero_add]
          refine ⟨trivial, trivial, n, 4, rfl, Tm_bag S hS, by decide, by decide, fun r r0 r1 => ?_⟩
          have hjm : j < m := Nat.lt_trans hj hi
          simp only [bodyZ, asgG, dropG, retG, retNG, ifG, skipG, augG, parG, par3G, frzG, setFldG, asgTG, forG, nameT, tupT, consT, nilT, subT, attrT, varZ, cZ, binZ, unZ, caZ, boolZ, andZ, orZ, notZ, andV, orV, notV, ifZ, chainZ, nilZ, consZ, tupZ, lstZ, lstHZ, callZ, methZ, makeZ, makeNZ, fldZ, frzE, deepE, lcZ, dcZ, dispZ, pnilZ, pconsZ, oneD, walkU, srcU, walkE, srcE, walkR1, walkR2, walkS, joinedZ, jconsZ, jnilZ, fmtZ, dgetZ, dinZ, dninZ, bmZ, intZ0, intZ, uintZ, sliceZ, partZ, noPartZ, cutQ, yesZ, Z.lenZ, lenQ, listZ, listHZ, tupleZ, sortedSZ, allZ, anyZ, intZ1, strIZ, mulSZ, addZ, repHZ, repZ, appendZ, extendZ, insertZ, countSZ, joinZ, isBlZ, inZ, isOwnQ, eqZ_int, eqZ_str, eqZ_bl, neZ_int, neZ_str, neZ_bl, lenOwnZ, strOwnZ, reprZ, wipeE, kwD, List.set_cons_zero, List.set_cons_succ, List.getElem?_cons_zero, List.getElem?_cons_succ, List.map_cons, List.map_nil, List.cons_append, List.nil_append, List.append_nil, List.length_cons, List.length_nil, Nat.reduceAdd, Nat.reduceSub, List.replicate_succ, List.replicate_zero, if_true, if_false, Bool.false_eq_true, Nat.zero_add]
          by_cases hc : r < thick
          · rw [decide_eq_true hc]
            simp only [if_true, Tm_get S hi]
            refine ⟨by decide, trivial, ?_⟩
            refine Tm_put S hi hjm true ?_
            simp only [Tm_get S hjm]
            refine Tm_put S hjm hi true (hk2 _ _ ⟨_, _, ?_, rfl, rfl⟩)
            intro a b
            unfold upR
            by_cases h1 : a = i <;> by_cases h2 : b = i <;> by_cases h3 : a = j <;> by_cases h4 : b = j <;> simp [h1, h2, h3, h4] <;> first | exact hR _ _ | omega | (split <;> first | rfl | exact hR _ _ | omega) | skip
          · rw [decide_eq_false hc]
            exact hk2 _ _ ⟨R, _, hR, rfl, rfl⟩
  · subst hP
    have hi : i < m := by
      have := (List.getElem?_eq_some_iff.mp hx).1
      rwa [hxs] at this
    simp only [bodyZ, asgG, dropG, retG, retNG, ifG, skipG, augG, parG, par3G, frzG, setFldG, asgTG, forG, nameT, tupT, consT, nilT, subT, attrT, varZ, cZ, binZ, unZ, caZ, boolZ, andZ, orZ, notZ, andV, orV, notV, ifZ, chainZ, nilZ, consZ, tupZ, lstZ, lstHZ, callZ, methZ, makeZ, makeNZ, fldZ, frzE, deepE, lcZ, dcZ, dispZ, pnilZ, pconsZ, oneD, walkU, srcU, walkE, srcE, walkR1, walkR2, walkS, joinedZ, jconsZ, jnilZ, fmtZ, dgetZ, dinZ, dninZ, bmZ, intZ0, intZ, uintZ, sliceZ, partZ, noPartZ, cutQ, yesZ, Z.lenZ, lenQ, listZ, listHZ, tupleZ, sortedSZ, allZ, anyZ, intZ1, strIZ, mulSZ, addZ, repHZ, repZ, appendZ, extendZ, insertZ, countSZ, joinZ, isBlZ, inZ, isOwnQ, eqZ_int, eqZ_str, eqZ_bl, neZ_int, neZ_str, neZ_bl, lenOwnZ, strOwnZ, reprZ, wipeE, kwD, List.set_cons_zero, List.set_cons_succ, List.getElem?_cons_zero, List.getElem?_cons_succ, List.map_cons, List.map_nil, List.cons_append, List.nil_append, List.append_nil, List.length_cons, List.length_nil, Nat.reduceAdd, Nat.reduceSub, List.replicate_succ, List.replicate_zero, if_true, if_false, Bool.false_eq_true, Nat.zero_add]
    refine ⟨trivial, by decide, _, (m : Int), rfl, rfl, by omega, by omega, ?_, ?_⟩
    · simp; omega
    · have hlen : (S ++ (C.lst ((List.range i).map fun j => .hnd (S.length + 1 + j)) :: List.replicate i (C.lst (List.replicate m (.int 0))))).length = S.length + 1 + i := by simp; omega
      refine ⟨_, at_app (by rw [List.getElem?_append_right (Nat.le_refl _), Nat.sub_self, List.getElem?_cons_zero]), by simp; omega, hk _ ?_⟩
      rw [hlen, set_app (by rw [hlen]; omega), List.set_append_right _ _ (Nat.le_refl _), Nat.sub_self, List.set_cons_zero, List.append_assoc, List.cons_append]
      congr 2
      · rw [List.range_succ, List.map_append]
        rfl
      · rw [List.replicate_succ', Int.toNat_natCast]
        congr 3
        rw [List.flatten_replicate_singleton]
theorem s__law_drawn (hl : ds.length = 2) (h : m__law_drawn α ds S Q E) : bodyZ 3 (g__law_drawn α) ds S Q E := by
  obtain ⟨n, rfl, hS, h⟩ := h
  unfold bodyZ g__law_drawn
  refine seq_with (fun δ' S' => ∃ many : Int, 0 ≤ many ∧ many ≤ 16 ∧ δ' = [some (.hnd n), some (.int 16), some (.int many)] ∧ S' = S) (fun δ' S' hP => ?_) (fun K hK => ?_)
  · obtain ⟨many, h0, h1, rfl, rfl⟩ := hP
    simp only [bodyZ, asgG, dropG, retG, retNG, ifG, skipG, augG, parG, par3G, frzG, setFldG, asgTG, forG, nameT, tupT, consT, nilT, subT, attrT, varZ, cZ, binZ, unZ, caZ, boolZ, andZ, orZ, notZ, andV, orV, notV, ifZ, chainZ, nilZ, consZ, tupZ, lstZ, lstHZ, callZ, methZ, makeZ, makeNZ, fldZ, frzE, deepE, lcZ, dcZ, dispZ, pnilZ, pconsZ, oneD, walkU, srcU, walkE, srcE, walkR1, walkR2, walkS, joinedZ, jconsZ, jnilZ, fmtZ, dgetZ, dinZ, dninZ, bmZ, intZ0, intZ, uintZ, sliceZ, partZ, noPartZ, cutQ, yesZ, Z.lenZ, lenQ, listZ, listHZ, tupleZ, sortedSZ, allZ, anyZ, intZ1, strIZ, mulSZ, addZ, repHZ, repZ, appendZ, extendZ, insertZ, countSZ, joinZ, isBlZ, inZ, isOwnQ, eqZ_int, eqZ_str, eqZ_bl, neZ_int, neZ_str, neZ_bl, lenOwnZ, strOwnZ, reprZ, wipeE, kwD, List.set_cons_zero, List.set_cons_succ, List.getElem?_cons_zero, List.getElem?_cons_succ, List.map_cons, List.map_nil, List.cons_append, List.nil_append, List.append_nil, List.length_cons, List.length_nil, Nat.reduceAdd, Nat.reduceSub, List.replicate_succ, List.replicate_zero, if_true, if_false, Bool.false_eq_true, Nat.zero_add]
    have hS1 : (S' ++ [C.dic []])[n]? = some (.abs BagOk) := at_app hS
    refine ⟨trivial, n, many, rfl, hS1, h0, h1, fun ns hlen hnd hsrt hok => ⟨trivial, n, many, rfl, hS1, h0, h1, fun R hR => ⟨at_new _ _, _, rfl, by simp, ?_⟩⟩⟩
    rw [set_new]
    have h16 : ns.length ≤ 16 := by omega
    have hM : (⟨ns, R⟩ : Md).Ok := ⟨h16, hnd, hsrt, hok, hR⟩
    have hmm : many.toNat = ns.length := by omega
    rw [hmm]
    refine frz_dic (l := [(.inr "names", .lst (ns.map .str)), (.inr "grid", gridD ns.length R)]) (fun d hd => ?_) (.inl (h ⟨ns, R⟩ hM))
    rcases List.mem_cons.mp hd with rfl | hd
    · exact Fl.lst (Fl.strs ns)
    · rw [List.mem_singleton.mp hd]; exact fl_grid _ _
  · simp only [bodyZ, asgG, dropG, retG, retNG, ifG, skipG, augG, parG, par3G, frzG, setFldG, asgTG, forG, nameT, tupT, consT, nilT, subT, attrT, varZ, cZ, binZ, unZ, caZ, boolZ, andZ, orZ, notZ, andV, orV, notV, ifZ, chainZ, nilZ, consZ, tupZ, lstZ, lstHZ, callZ, methZ, makeZ, makeNZ, fldZ, frzE, deepE, lcZ, dcZ, dispZ, pnilZ, pconsZ, oneD, walkU, srcU, walkE, srcE, walkR1, walkR2, walkS, joinedZ, jconsZ, jnilZ, fmtZ, dgetZ, dinZ, dninZ, bmZ, intZ0, intZ, uintZ, sliceZ, partZ, noPartZ, cutQ, yesZ, Z.lenZ, lenQ, listZ, listHZ, tupleZ, sortedSZ, allZ, anyZ, intZ1, strIZ, mulSZ, addZ, repHZ, repZ, appendZ, extendZ, insertZ, countSZ, joinZ, isBlZ, inZ, isOwnQ, eqZ_int, eqZ_str, eqZ_bl, neZ_int, neZ_str, neZ_bl, lenOwnZ, strOwnZ, reprZ, wipeE, kwD, List.set_cons_zero, List.set_cons_succ, List.getElem?_cons_zero, List.getElem?_cons_succ, List.map_cons, List.map_nil, List.cons_append, List.nil_append, List.append_nil, List.length_cons, List.length_nil, Nat.reduceAdd, Nat.reduceSub, List.replicate_succ, List.replicate_zero, if_true, if_false, Bool.false_eq_true, Nat.zero_add]
    refine ⟨trivial, n, 3, rfl, hS, by decide, by decide, fun r r0 r1 => ?_⟩
    simp only [bodyZ, asgG, dropG, retG, retNG, ifG, skipG, augG, parG, par3G, frzG, setFldG, asgTG, forG, nameT, tupT, consT, nilT, subT, attrT, varZ, cZ, binZ, unZ, caZ, boolZ, andZ, orZ, notZ, andV, orV, notV, ifZ, chainZ, nilZ, consZ, tupZ, lstZ, lstHZ, callZ, methZ, makeZ, makeNZ, fldZ, frzE, deepE, lcZ, dcZ, dispZ, pnilZ, pconsZ, oneD, walkU, srcU, walkE, srcE, walkR1, walkR2, walkS, joinedZ, jconsZ, jnilZ, fmtZ, dgetZ, dinZ, dninZ, bmZ, intZ0, intZ, uintZ, sliceZ, partZ, noPartZ, cutQ, yesZ, Z.lenZ, lenQ, listZ, listHZ, tupleZ, sortedSZ, allZ, anyZ, intZ1, strIZ, mulSZ, addZ, repHZ, repZ, appendZ, extendZ, insertZ, countSZ, joinZ, isBlZ, inZ, isOwnQ, eqZ_int, eqZ_str, eqZ_bl, neZ_int, neZ_str, neZ_bl, lenOwnZ, strOwnZ, reprZ, wipeE, kwD, List.set_cons_zero, List.set_cons_succ, List.getElem?_cons_zero, List.getElem?_cons_succ, List.map_cons, List.map_nil, List.cons_append, List.nil_append, List.append_nil, List.length_cons, List.length_nil, Nat.reduceAdd, Nat.reduceSub, List.replicate_succ, List.replicate_zero, if_true, if_false, Bool.false_eq_true, Nat.zero_add]
    by_cases hr : r = 0
    · rw [decide_eq_true hr]
      exact hK _ _ ⟨16, by decide, by decide, rfl, rfl⟩
    · rw [decide_eq_false hr]
      simp only [Bool.false_eq_true, if_false]
      exact ⟨trivial, n, _, rfl, hS, by decide, by decide, fun r r0 r1 => hK _ _ ⟨r, r0, by omega, rfl, rfl⟩⟩
end
end K01
namespace K01
open PySem L2 Z
section
variable (α : Ad) (ds : List D) (S : Store) (Q : D → Store → Prop) (E : XD → Store → Prop)
theorem dic_enc (M : Md) (S : Store) : dicOf S (encM M) = some [(.inr "names", .lst (M.ns.map .str)), (.inr "grid", gridD M.n M.R)] := rfl
theorem grid_at (M : Md) {i k : Nat} (hi : i < M.n) (hk : k < M.n) {T : Store} (Q : D → Store → Prop) (E : XD → Store → Prop) (h : Q (.int (b2i (M.R i k))) T) : getZ (gridD M.n M.R) (.int (i : Nat)) T (fun x S1 => getZ x (.int (k : Nat)) S1 Q E) E := by
  unfold gridD
  rw [getZ_lst (range_at _ hi), getZ_lst (range_at _ hk)]
  exact h
theorem names_get (M : Md) {i : Nat} (hi : i < M.n) {T : Store} (Q : D → Store → Prop) (E : XD → Store → Prop) : getZ (.lst (M.ns.map .str)) (.int (i : Nat)) T Q E = Q (.str (M.nm i)) T := getZ_lst (folk_at M hi) Q E
theorem row_filter (M : Md) {i : Nat} (hi : i < M.n) : (((List.range (M.n - (i + 1))).map (i + 1 + ·)).filter (M.R i)).map (fun k => (i, k)) = rowI M i := by
  unfold rowI
  have e : M.n = (i + 1) + (M.n - (i + 1)) := by omega
  have z : (List.range M.n).filter (fun k => decide (i < k) && M.R i k) = ((List.range (M.n - (i + 1))).map (i + 1 + ·)).filter (M.R i) := by
    conv => lhs; rw [e]
    rw [List.range_add, List.filter_append]
    have e1 : (List.range (i + 1)).filter (fun k => decide (i < k) && M.R i k) = [] := by
      rw [List.filter_eq_nil_iff]
      intro k hk
      have := List.mem_range.mp hk
      have h0 : decide (i < k) = false := decide_eq_false (by omega)
      simp [h0]
    rw [e1, List.nil_append]
    apply List.filter_congr
    intro k hk
    obtain ⟨j, _, rfl⟩ := List.mem_map.mp hk
    have h0 : decide (i < i + 1 + j) = true := decide_eq_true (by omega)
    rw [h0, Bool.true_and]
  rw [z]
theorem s__law_ties_of (hl : ds.length = 1) (h : m__law_ties_of α ds S Q E) : bodyZ 6 (g__law_ties_of α) ds S Q E := by
  obtain ⟨M, ok, rfl, h⟩ := h
  have hn : M.ns.length ≤ 16 := ok.few
  have hn' : M.n ≤ 16 := ok.few
  simp only [g__law_ties_of, bodyZ, asgG, dropG, retG, retNG, ifG, skipG, augG, parG, par3G, frzG, setFldG, asgTG, forG, nameT, tupT, consT, nilT, subT, attrT, varZ, cZ, binZ, unZ, caZ, boolZ, andZ, orZ, notZ, andV, orV, notV, ifZ, chainZ, nilZ, consZ, tupZ, lstZ, lstHZ, callZ, methZ, makeZ, makeNZ, fldZ, frzE, deepE, lcZ, dcZ, dispZ, pnilZ, pconsZ, oneD, walkU, srcU, walkE, srcE, walkR1, walkR2, walkS, joinedZ, jconsZ, jnilZ, fmtZ, dgetZ, dinZ, dninZ, bmZ, intZ0, intZ, uintZ, sliceZ, partZ, noPartZ, cutQ, yesZ, Z.lenZ, lenQ, listZ, listHZ, tupleZ, sortedSZ, allZ, anyZ, intZ1, strIZ, mulSZ, addZ, repHZ, repZ, appendZ, extendZ, insertZ, countSZ, joinZ, isBlZ, inZ, isOwnQ, eqZ_int, eqZ_str, eqZ_bl, neZ_int, neZ_str, neZ_bl, lenOwnZ, strOwnZ, reprZ, wipeE, kwD, List.set_cons_zero, List.set_cons_succ, List.getElem?_cons_zero, List.getElem?_cons_succ, List.map_cons, List.map_nil, List.cons_append, List.nil_append, List.append_nil, List.length_cons, List.length_nil, Nat.reduceAdd, Nat.reduceSub, List.replicate_succ, List.replicate_zero, if_true, if_false, Bool.false_eq_true, Nat.zero_add, seqG]
  refine ⟨by decide, _, _, _, dic_enc M S, rfl, val_names M, by decide, trivial, ?_⟩
  simp only [List.length_map]
  refine ⟨⟨by omega, by omega⟩, ?_⟩
  refine loop_at _ (fun i δ S' => ∃ (T : Store) (x y : Option D), i ≤ M.n ∧ δ = [some (encM M), some (.lst ((tiesTo M i).map M.pr)), some (.lst (M.ns.map .str)), x, y, none] ∧ S' = S ++ T) ⟨[], none, none, Nat.zero_le _, rfl, by simp⟩ (fun δ S' hP => ?_) (fun i x δ S' k hx hP hk => ?_)
  · obtain ⟨T, x, y, _, rfl, rfl⟩ := hP
    have e : (rangeD 0 ((M.ns.length : Nat) : Int).toNat).length = M.n := by unfold rangeD; simp
    rw [e]
    exact ⟨trivial, end_same (scL_of (Fl.map fun _ => fl_pr M _)) h⟩
  · obtain ⟨T, x0, y0, hi0, rfl, rfl⟩ := hP
    have hi : i < M.n := by
      have := (List.getElem?_eq_some_iff.mp hx).1
      unfold rangeD at this
      simpa using this
    unfold rangeD at hx
    rw [List.getElem?_map, List.getElem?_range (by simpa using hi)] at hx
    cases hx
    simp only [bodyZ, asgG, dropG, retG, retNG, ifG, skipG, augG, parG, par3G, frzG, setFldG, asgTG, forG, nameT, tupT, consT, nilT, subT, attrT, varZ, cZ, binZ, unZ, caZ, boolZ, andZ, orZ, notZ, andV, orV, notV, ifZ, chainZ, nilZ, consZ, tupZ, lstZ, lstHZ, callZ, methZ, makeZ, makeNZ, fldZ, frzE, deepE, lcZ, dcZ, dispZ, pnilZ, pconsZ, oneD, walkU, srcU, walkE, srcE, walkR1, walkR2, walkS, joinedZ, jconsZ, jnilZ, fmtZ, dgetZ, dinZ, dninZ, bmZ, intZ0, intZ, uintZ, sliceZ, partZ, noPartZ, cutQ, yesZ, Z.lenZ, lenQ, listZ, listHZ, tupleZ, sortedSZ, allZ, anyZ, intZ1, strIZ, mulSZ, addZ, repHZ, repZ, appendZ, extendZ, insertZ, countSZ, joinZ, isBlZ, inZ, isOwnQ, eqZ_int, eqZ_str, eqZ_bl, neZ_int, neZ_str, neZ_bl, lenOwnZ, strOwnZ, reprZ, wipeE, kwD, List.set_cons_zero, List.set_cons_succ, List.getElem?_cons_zero, List.getElem?_cons_succ, List.map_cons, List.map_nil, List.cons_append, List.nil_append, List.append_nil, List.length_cons, List.length_nil, Nat.reduceAdd, Nat.reduceSub, List.replicate_succ, List.replicate_zero, if_true, if_false, Bool.false_eq_true, Nat.zero_add, Int.zero_add, List.length_map, seqG]
    refine ⟨trivial, ⟨by omega, by omega⟩, ⟨by omega, by omega⟩, ?_⟩
    have er : rangeD ((i : Int) + 1) (((M.ns.length : Nat) : Int) - ((i : Int) + 1)).toNat = ((List.range (M.n - (i + 1))).map (i + 1 + ·)).map fun k => D.int (k : Nat) := by
      unfold rangeD
      rw [List.map_map]
      have : (((M.ns.length : Nat) : Int) - ((i : Int) + 1)).toNat = M.n - (i + 1) := by
        show _ = M.ns.length - (i + 1)
        omega
      rw [this]
      apply List.map_congr_left
      intro j _
      show D.int _ = D.int _
      congr 1
    rw [er]
    refine lc_pure (fun d => match d with
      | .int k => if M.R i k.toNat = true then some (.int k) else none
      | _ => none) ?_ (fun _ => trivial) (fun x hx l k k' k1 k2 => ?_) ?_
    · rw [List.length_map, List.length_map, List.length_range]; omega
    · obtain ⟨j, hj, rfl⟩ := List.mem_map.mp hx
      have hjn : j < M.n := by
        obtain ⟨a, ha, rfl⟩ := List.mem_map.mp hj
        have := List.mem_range.mp ha
        omega
      simp only [bodyZ, asgG, dropG, retG, retNG, ifG, skipG, augG, parG, par3G, frzG, setFldG, asgTG, forG, nameT, tupT, consT, nilT, subT, attrT, varZ, cZ, binZ, unZ, caZ, boolZ, andZ, orZ, notZ, andV, orV, notV, ifZ, chainZ, nilZ, consZ, tupZ, lstZ, lstHZ, callZ, methZ, makeZ, makeNZ, fldZ, frzE, deepE, lcZ, dcZ, dispZ, pnilZ, pconsZ, oneD, walkU, srcU, walkE, srcE, walkR1, walkR2, walkS, joinedZ, jconsZ, jnilZ, fmtZ, dgetZ, dinZ, dninZ, bmZ, intZ0, intZ, uintZ, sliceZ, partZ, noPartZ, cutQ, yesZ, Z.lenZ, lenQ, listZ, listHZ, tupleZ, sortedSZ, allZ, anyZ, intZ1, strIZ, mulSZ, addZ, repHZ, repZ, appendZ, extendZ, insertZ, countSZ, joinZ, isBlZ, inZ, isOwnQ, eqZ_int, eqZ_str, eqZ_bl, neZ_int, neZ_str, neZ_bl, lenOwnZ, strOwnZ, reprZ, wipeE, kwD, List.set_cons_zero, List.set_cons_succ, List.getElem?_cons_zero, List.getElem?_cons_succ, List.map_cons, List.map_nil, List.cons_append, List.nil_append, List.append_nil, List.length_cons, List.length_nil, Nat.reduceAdd, Nat.reduceSub, List.replicate_succ, List.replicate_zero, if_true, if_false, Bool.false_eq_true, Nat.zero_add]
      refine ⟨_, _, _, dic_enc M _, rfl, val_grid M, ?_⟩
      refine grid_at M hi hjn _ _ ?_
      simp only [bodyZ, asgG, dropG, retG, retNG, ifG, skipG, augG, parG, par3G, frzG, setFldG, asgTG, forG, nameT, tupT, consT, nilT, subT, attrT, varZ, cZ, binZ, unZ, caZ, boolZ, andZ, orZ, notZ, andV, orV, notV, ifZ, chainZ, nilZ, consZ, tupZ, lstZ, lstHZ, callZ, methZ, makeZ, makeNZ, fldZ, frzE, deepE, lcZ, dcZ, dispZ, pnilZ, pconsZ, oneD, walkU, srcU, walkE, srcE, walkR1, walkR2, walkS, joinedZ, jconsZ, jnilZ, fmtZ, dgetZ, dinZ, dninZ, bmZ, intZ0, intZ, uintZ, sliceZ, partZ, noPartZ, cutQ, yesZ, Z.lenZ, lenQ, listZ, listHZ, tupleZ, sortedSZ, allZ, anyZ, intZ1, strIZ, mulSZ, addZ, repHZ, repZ, appendZ, extendZ, insertZ, countSZ, joinZ, isBlZ, inZ, isOwnQ, eqZ_int, eqZ_str, eqZ_bl, neZ_int, neZ_str, neZ_bl, lenOwnZ, strOwnZ, reprZ, wipeE, kwD, List.set_cons_zero, List.set_cons_succ, List.getElem?_cons_zero, List.getElem?_cons_succ, List.map_cons, List.map_nil, List.cons_append, List.nil_append, List.append_nil, List.length_cons, List.length_nil, Nat.reduceAdd, Nat.reduceSub, List.replicate_succ, List.replicate_zero, if_true, if_false, Bool.false_eq_true, Nat.zero_add, b2i1]
      cases hR : M.R i j with
      | true => exact k1 _ (by simp [hR])
      | false => exact k2 (by simp [hR])
    · refine ⟨_, _, _, rfl, at_new _ _, rfl, ?_⟩
      rw [set_new]
      simp only [bodyZ, asgG, dropG, retG, retNG, ifG, skipG, augG, parG, par3G, frzG, setFldG, asgTG, forG, nameT, tupT, consT, nilT, subT, attrT, varZ, cZ, binZ, unZ, caZ, boolZ, andZ, orZ, notZ, andV, orV, notV, ifZ, chainZ, nilZ, consZ, tupZ, lstZ, lstHZ, callZ, methZ, makeZ, makeNZ, fldZ, frzE, deepE, lcZ, dcZ, dispZ, pnilZ, pconsZ, oneD, walkU, srcU, walkE, srcE, walkR1, walkR2, walkS, joinedZ, jconsZ, jnilZ, fmtZ, dgetZ, dinZ, dninZ, bmZ, intZ0, intZ, uintZ, sliceZ, partZ, noPartZ, cutQ, yesZ, Z.lenZ, lenQ, listZ, listHZ, tupleZ, sortedSZ, allZ, anyZ, intZ1, strIZ, mulSZ, addZ, repHZ, repZ, appendZ, extendZ, insertZ, countSZ, joinZ, isBlZ, inZ, isOwnQ, eqZ_int, eqZ_str, eqZ_bl, neZ_int, neZ_str, neZ_bl, lenOwnZ, strOwnZ, reprZ, wipeE, kwD, List.set_cons_zero, List.set_cons_succ, List.getElem?_cons_zero, List.getElem?_cons_succ, List.map_cons, List.map_nil, List.cons_append, List.nil_append, List.append_nil, List.length_cons, List.length_nil, Nat.reduceAdd, Nat.reduceSub, List.replicate_succ, List.replicate_zero, if_true, if_false, Bool.false_eq_true, Nat.zero_add]
      have ef : (((List.range (M.n - (i + 1))).map (i + 1 + ·)).map fun k => D.int (k : Nat)).filterMap (fun d => match d with
          | .int k => if M.R i k.toNat = true then some (.int k) else none
          | _ => none) = (((List.range (M.n - (i + 1))).map (i + 1 + ·)).filter (M.R i)).map fun k => D.int (k : Nat) := by
        rw [List.filterMap_map]
        exact filterMap_if (fun k => M.R i k) (fun k => D.int (k : Nat)) _
      rw [ef]
      refine lc_pure (fun d => match d with
        | .int k => some (M.pr (i, k.toNat))
        | _ => none) ?_ (fun _ => trivial) (fun x hx l k k' k1 k2 => ?_) (frz_lst ?_ ?_)
      · rw [List.length_map]
        refine Nat.lt_of_le_of_lt (List.length_filter_le _ _) ?_
        rw [List.length_map, List.length_range]; omega
      · obtain ⟨j, hj, rfl⟩ := List.mem_map.mp hx
        have hjn : j < M.n := by
          obtain ⟨a, ha, rfl⟩ := List.mem_map.mp (List.mem_filter.mp hj).1
          have := List.mem_range.mp ha
          omega
        simp only [bodyZ, asgG, dropG, retG, retNG, ifG, skipG, augG, parG, par3G, frzG, setFldG, asgTG, forG, nameT, tupT, consT, nilT, subT, attrT, varZ, cZ, binZ, unZ, caZ, boolZ, andZ, orZ, notZ, andV, orV, notV, ifZ, chainZ, nilZ, consZ, tupZ, lstZ, lstHZ, callZ, methZ, makeZ, makeNZ, fldZ, frzE, deepE, lcZ, dcZ, dispZ, pnilZ, pconsZ, oneD, walkU, srcU, walkE, srcE, walkR1, walkR2, walkS, joinedZ, jconsZ, jnilZ, fmtZ, dgetZ, dinZ, dninZ, bmZ, intZ0, intZ, uintZ, sliceZ, partZ, noPartZ, cutQ, yesZ, Z.lenZ, lenQ, listZ, listHZ, tupleZ, sortedSZ, allZ, anyZ, intZ1, strIZ, mulSZ, addZ, repHZ, repZ, appendZ, extendZ, insertZ, countSZ, joinZ, isBlZ, inZ, isOwnQ, eqZ_int, eqZ_str, eqZ_bl, neZ_int, neZ_str, neZ_bl, lenOwnZ, strOwnZ, reprZ, wipeE, kwD, List.set_cons_zero, List.set_cons_succ, List.getElem?_cons_zero, List.getElem?_cons_succ, List.map_cons, List.map_nil, List.cons_append, List.nil_append, List.append_nil, List.length_cons, List.length_nil, Nat.reduceAdd, Nat.reduceSub, List.replicate_succ, List.replicate_zero, if_true, if_false, Bool.false_eq_true, Nat.zero_add, names_get M hi, names_get M hjn]
        exact ⟨by decide, k1 _ rfl⟩
      · intro d hd
        obtain ⟨z, _, hz⟩ := List.mem_filterMap.mp hd
        split at hz
        · cases hz; exact fl_pr M _
        · cases hz
      · have e2 : ((((List.range (M.n - (i + 1))).map (i + 1 + ·)).filter (M.R i)).map fun k => D.int (k : Nat)).filterMap (fun d => match d with
            | .int k => some (M.pr (i, k.toNat))
            | _ => none) = (rowI M i).map M.pr := by
          rw [← row_filter M hi, List.filterMap_map, List.map_map]
          exact filterMap_all _ _
        rw [e2]
        refine ⟨?_, ?_⟩
        · rw [List.length_map, List.length_map, ← List.length_append, ← tiesTo_succ]
          have h4 := tiesTo_len M (i + 1)
          have h5 : (i + 1) * M.n ≤ 16 * 16 := Nat.mul_le_mul (Nat.le_trans hi ok.few) ok.few
          omega
        · rw [← List.map_append, ← tiesTo_succ]
          exact hk _ _ ⟨T ++ [.dead], _, _, hi, rfl, by rw [List.append_assoc]⟩
theorem s__law_uneasy_of (hl : ds.length = 1) (h : m__law_uneasy_of α ds S Q E) : bodyZ 2 (g__law_uneasy_of α) ds S Q E := by
  obtain ⟨M, ok, rfl, h⟩ := h
  have hn : M.ns.length ≤ 16 := ok.few
  have hn' : M.n ≤ 16 := ok.few
  simp only [g__law_uneasy_of, bodyZ, asgG, dropG, retG, retNG, ifG, skipG, augG, parG, par3G, frzG, setFldG, asgTG, forG, nameT, tupT, consT, nilT, subT, attrT, varZ, cZ, binZ, unZ, caZ, boolZ, andZ, orZ, notZ, andV, orV, notV, ifZ, chainZ, nilZ, consZ, tupZ, lstZ, lstHZ, callZ, methZ, makeZ, makeNZ, fldZ, frzE, deepE, lcZ, dcZ, dispZ, pnilZ, pconsZ, oneD, walkU, srcU, walkE, srcE, walkR1, walkR2, walkS, joinedZ, jconsZ, jnilZ, fmtZ, dgetZ, dinZ, dninZ, bmZ, intZ0, intZ, uintZ, sliceZ, partZ, noPartZ, cutQ, yesZ, Z.lenZ, lenQ, listZ, listHZ, tupleZ, sortedSZ, allZ, anyZ, intZ1, strIZ, mulSZ, addZ, repHZ, repZ, appendZ, extendZ, insertZ, countSZ, joinZ, isBlZ, inZ, isOwnQ, eqZ_int, eqZ_str, eqZ_bl, neZ_int, neZ_str, neZ_bl, lenOwnZ, strOwnZ, reprZ, wipeE, kwD, List.set_cons_zero, List.set_cons_succ, List.getElem?_cons_zero, List.getElem?_cons_succ, List.map_cons, List.map_nil, List.cons_append, List.nil_append, List.append_nil, List.length_cons, List.length_nil, Nat.reduceAdd, Nat.reduceSub, List.replicate_succ, List.replicate_zero, if_true, if_false, Bool.false_eq_true, Nat.zero_add]
  refine ⟨_, _, _, dic_enc M S, rfl, val_names M, ?_⟩
  simp only [List.length_map]
  refine ⟨⟨by omega, by omega⟩, ?_⟩
  refine lc_pure (fun d => match d with
    | .int k => if M.R k.toNat k.toNat = true then some (.str (M.nm k.toNat)) else none
    | _ => none) ?_ (fun _ => trivial) (fun x hx l k k' k1 k2 => ?_) (.inl ?_)
  · unfold rangeD; simp; omega
  · unfold rangeD at hx
    obtain ⟨i, hi, rfl⟩ := List.mem_map.mp hx
    have hin : i < M.n := by have := List.mem_range.mp hi; simpa using this
    simp only [bodyZ, asgG, dropG, retG, retNG, ifG, skipG, augG, parG, par3G, frzG, setFldG, asgTG, forG, nameT, tupT, consT, nilT, subT, attrT, varZ, cZ, binZ, unZ, caZ, boolZ, andZ, orZ, notZ, andV, orV, notV, ifZ, chainZ, nilZ, consZ, tupZ, lstZ, lstHZ, callZ, methZ, makeZ, makeNZ, fldZ, frzE, deepE, lcZ, dcZ, dispZ, pnilZ, pconsZ, oneD, walkU, srcU, walkE, srcE, walkR1, walkR2, walkS, joinedZ, jconsZ, jnilZ, fmtZ, dgetZ, dinZ, dninZ, bmZ, intZ0, intZ, uintZ, sliceZ, partZ, noPartZ, cutQ, yesZ, Z.lenZ, lenQ, listZ, listHZ, tupleZ, sortedSZ, allZ, anyZ, intZ1, strIZ, mulSZ, addZ, repHZ, repZ, appendZ, extendZ, insertZ, countSZ, joinZ, isBlZ, inZ, isOwnQ, eqZ_int, eqZ_str, eqZ_bl, neZ_int, neZ_str, neZ_bl, lenOwnZ, strOwnZ, reprZ, wipeE, kwD, List.set_cons_zero, List.set_cons_succ, List.getElem?_cons_zero, List.getElem?_cons_succ, List.map_cons, List.map_nil, List.cons_append, List.nil_append, List.append_nil, List.length_cons, List.length_nil, Nat.reduceAdd, Nat.reduceSub, List.replicate_succ, List.replicate_zero, if_true, if_false, Bool.false_eq_true, Nat.zero_add, Int.zero_add]
    refine ⟨_, _, _, dic_enc M _, rfl, val_grid M, ?_⟩
    refine grid_at M hin hin _ _ ?_
    simp only [bodyZ, asgG, dropG, retG, retNG, ifG, skipG, augG, parG, par3G, frzG, setFldG, asgTG, forG, nameT, tupT, consT, nilT, subT, attrT, varZ, cZ, binZ, unZ, caZ, boolZ, andZ, orZ, notZ, andV, orV, notV, ifZ, chainZ, nilZ, consZ, tupZ, lstZ, lstHZ, callZ, methZ, makeZ, makeNZ, fldZ, frzE, deepE, lcZ, dcZ, dispZ, pnilZ, pconsZ, oneD, walkU, srcU, walkE, srcE, walkR1, walkR2, walkS, joinedZ, jconsZ, jnilZ, fmtZ, dgetZ, dinZ, dninZ, bmZ, intZ0, intZ, uintZ, sliceZ, partZ, noPartZ, cutQ, yesZ, Z.lenZ, lenQ, listZ, listHZ, tupleZ, sortedSZ, allZ, anyZ, intZ1, strIZ, mulSZ, addZ, repHZ, repZ, appendZ, extendZ, insertZ, countSZ, joinZ, isBlZ, inZ, isOwnQ, eqZ_int, eqZ_str, eqZ_bl, neZ_int, neZ_str, neZ_bl, lenOwnZ, strOwnZ, reprZ, wipeE, kwD, List.set_cons_zero, List.set_cons_succ, List.getElem?_cons_zero, List.getElem?_cons_succ, List.map_cons, List.map_nil, List.cons_append, List.nil_append, List.append_nil, List.length_cons, List.length_nil, Nat.reduceAdd, Nat.reduceSub, List.replicate_succ, List.replicate_zero, if_true, if_false, Bool.false_eq_true, Nat.zero_add, b2i1]
    cases hR : M.R i i with
    | true =>
      simp only [if_true]
      refine ⟨_, _, _, dic_enc M _, rfl, val_names M, ?_⟩
      rw [names_get M hin]
      exact k1 _ (by simp [hR])
    | false => exact k2 (by simp [hR])
  · have e : (rangeD 0 ((M.ns.length : Nat) : Int).toNat).filterMap (fun d => match d with
        | .int k => if M.R k.toNat k.toNat = true then some (D.str (M.nm k.toNat)) else none
        | _ => none) = (restS M).map D.str := by
      unfold restS restI rangeD
      rw [List.filterMap_map, List.map_map, Int.toNat_natCast]
      have z := filterMap_if (fun i => M.R i i) (fun i => D.str (M.nm i)) (List.range M.n)
      refine Eq.trans ?_ z
      congr 1
      funext i
      simp
    rw [e]
    exact h
end
end K01
namespace K01
open PySem L2 Z
section
variable (α : Ad) (ds : List D) (S : Store) (Q : D → Store → Prop) (E : XD → Store → Prop)
def okC (x : Str) : Prop := ∀ c ∈ x.cps.toList, c < 0x110000
theorem okC_app {x y : Str} (hx : okC x) (hy : okC y) : okC (x ++ y) := by
  intro c hc
  have hc : c ∈ (x.cps ++ y.cps).toList := hc
  rw [Array.toList_append] at hc
  rcases List.mem_append.mp hc with h | h
  · exact hx c h
  · exact hy c h
theorem okC_name {x : Str} (h : okName x) : okC x := fun c hc => let_small c (h.2.2 c hc)
theorem okC_empty : okC Str.empty := fun c hc => by
  have : c ∈ ([] : List Nat) := hc
  cases this
theorem okC_star (b : Bool) : okC (starS b) := by
  cases b
  · exact okC_empty
  · unfold okC starS; decide +kernel
theorem okC_dash : okC "-" := by unfold okC; decide +kernel
theorem okC_blank : okC " " := by unfold okC; decide +kernel
theorem okC_join {z : Str} (hz : okC z) : ∀ l : List Str, (∀ x ∈ l, okC x) → okC (Str.join z l)
  | [], _ => okC_empty
  | [x], h => h x (List.mem_singleton.mpr rfl)
  | x :: y :: r, h => okC_app (okC_app (h x (List.mem_cons_self ..)) hz) (okC_join hz (y :: r) fun w hw => h w (List.mem_cons_of_mem _ hw))
theorem words_ok {M : Md} (ok : Md.Ok M) : ∀ x ∈ wordsS M, okC x ∧ x.length ≤ 17 := by
  intro x hx
  unfold wordsS at hx
  rcases List.mem_append.mp hx with hx | hx
  · obtain ⟨i, hi, rfl⟩ := List.mem_map.mp hx
    have := nm_len ok (List.mem_range.mp hi)
    have := star_len (M.R i i)
    exact ⟨okC_app (okC_name (nm_ok ok (List.mem_range.mp hi))) (okC_star _), by rw [len_app]; omega⟩
  · obtain ⟨p, hp, rfl⟩ := List.mem_map.mp hx
    obtain ⟨a1, a2, _⟩ := tiesI_lt hp
    have := nm_len ok (Nat.lt_trans a1 a2)
    have := nm_len ok a2
    have e : (Str.ofString "-").length = 1 := rfl
    exact ⟨okC_app (okC_app (okC_name (nm_ok ok (Nat.lt_trans a1 a2))) okC_dash) (okC_name (nm_ok ok a2)), by rw [len_app, len_app]; omega⟩
theorem words_few {M : Md} (ok : Md.Ok M) : (wordsS M).length ≤ 272 := by
  unfold wordsS
  rw [List.length_append, List.length_map, List.length_map, List.length_range]
  have := tiesI_len ok
  have : M.n ≤ 16 := ok.few
  omega
theorem nc_words {M : Md} (ok : Md.Ok M) : Nc (.list ((wordsS M).map .str)) 1 (272 * 18) := Nc.list (fun d hd => by
  obtain ⟨x, hx, rfl⟩ := List.mem_map.mp hd
  obtain ⟨h1, h2⟩ := words_ok ok x hx
  exact (Nc.str h1).mono (Nat.le_refl _) h2) (by rw [List.length_map]; exact words_few ok)
theorem nc_text {M : Md} (ok : Md.Ok M) : Nc (.str (textS M)) 0 6000 := by
  unfold textS
  split
  · exact (Nc.str okC_dash).mono (Nat.le_refl _) (by decide)
  · rw [show Txt.join " " (wordsS M) = Str.join " " (wordsS M) from StrLaws.glued_eq_join _ _]
    refine (Nc.str (okC_join okC_blank _ fun x hx => (words_ok ok x hx).1)).mono (Nat.le_refl _) ?_
    refine Nat.le_trans (StrLaws.join_length_le _ _) ?_
    have h3 : ∀ l : List Str, (∀ x ∈ l, x.length ≤ 17) → (l.map (·.length)).sum ≤ l.length * 17 := by
      intro l hl
      induction l with
      | nil => simp
      | cons a l ih =>
        rw [List.map_cons, List.sum_cons, List.length_cons, Nat.succ_mul]
        have := hl a (List.mem_cons_self ..)
        have := ih fun x hx => hl x (List.mem_cons_of_mem _ hx)
        omega
    have h4 := h3 _ fun x hx => (words_ok ok x hx).2
    have h5 := words_few ok
    have e : (Str.ofString " ").length = 1 := rfl
    rw [e]
    omega
theorem inV_strs (x : Str) : ∀ l : List Str, inV (.str x) (l.map V.str) = decide (x ∈ l)
  | [] => rfl
  | y :: l => by
    have := inV_strs x l
    unfold inV at this ⊢
    rw [List.map_cons, List.any_cons, this]
    by_cases h : y = x
    · subst h; simp [eqV]
    · have h' : ¬ x = y := fun e => h e.symm
      simp [eqV, h, h']
theorem flat_strs : ∀ l : List Str, flatDs (l.map .str) = some (l.map V.str)
  | [] => rfl
  | x :: l => by
    rw [List.map_cons, flatDs, flat_strs l]
    rfl
theorem mem_rest {M : Md} (ok : Md.Ok M) {i : Nat} (hi : i < M.n) : decide (M.nm i ∈ restS M) = M.R i i := by
  unfold restS restI
  cases hR : M.R i i with
  | true =>
    refine decide_eq_true (List.mem_map.mpr ⟨i, List.mem_filter.mpr ⟨List.mem_range.mpr hi, hR⟩, rfl⟩)
  | false =>
    refine decide_eq_false fun h => ?_
    obtain ⟨j, hj, e⟩ := List.mem_map.mp h
    obtain ⟨h1, h2⟩ := List.mem_filter.mp hj
    have := nm_inj ok.nd (List.mem_range.mp h1) hi e
    subst this
    rw [hR] at h2
    cases h2
theorem s__law_text_of (hl : ds.length = 1) (h : m__law_text_of α ds S Q E) : bodyZ 6 (g__law_text_of α) ds S Q E := by
  obtain ⟨M, ok, rfl, h⟩ := h
  have hn : M.ns.length ≤ 16 := ok.few
  have hn' : M.n ≤ 16 := ok.few
  simp only [g__law_text_of, bodyZ, asgG, dropG, retG, retNG, ifG, skipG, augG, parG, par3G, frzG, setFldG, asgTG, forG, nameT, tupT, consT, nilT, subT, attrT, varZ, cZ, binZ, unZ, caZ, boolZ, andZ, orZ, notZ, andV, orV, notV, ifZ, chainZ, nilZ, consZ, tupZ, lstZ, lstHZ, callZ, methZ, makeZ, makeNZ, fldZ, frzE, deepE, lcZ, dcZ, dispZ, pnilZ, pconsZ, oneD, walkU, srcU, walkE, srcE, walkR1, walkR2, walkS, joinedZ, jconsZ, jnilZ, fmtZ, dgetZ, dinZ, dninZ, bmZ, intZ0, intZ, uintZ, sliceZ, partZ, noPartZ, cutQ, yesZ, Z.lenZ, lenQ, listZ, listHZ, tupleZ, sortedSZ, allZ, anyZ, intZ1, strIZ, mulSZ, addZ, repHZ, repZ, appendZ, extendZ, insertZ, countSZ, joinZ, isBlZ, inZ, isOwnQ, eqZ_int, eqZ_str, eqZ_bl, neZ_int, neZ_str, neZ_bl, lenOwnZ, strOwnZ, reprZ, wipeE, kwD, List.set_cons_zero, List.set_cons_succ, List.getElem?_cons_zero, List.getElem?_cons_succ, List.map_cons, List.map_nil, List.cons_append, List.nil_append, List.append_nil, List.length_cons, List.length_nil, Nat.reduceAdd, Nat.reduceSub, List.replicate_succ, List.replicate_zero, if_true, if_false, Bool.false_eq_true, Nat.zero_add, seqG]
  refine ⟨trivial, M, ok, rfl, frz_lst (Fl.strs _) ?_⟩
  refine ⟨_, _, _, dic_enc M S, rfl, val_names M, ?_⟩
  refine lc_pure (fun d => match d with
    | .str x => some (.str (x ++ starS (decide (x ∈ restS M))))
    | _ => none) ?_ (fun _ => trivial) (fun x hx l k k' k1 k2 => ?_) ?_
  · rw [List.length_map]; omega
  · obtain ⟨y, hy, rfl⟩ := List.mem_map.mp hx
    have h1 := (ok.okn y hy).2.1
    have h2 := star_len (decide (y ∈ restS M))
    simp only [bodyZ, asgG, dropG, retG, retNG, ifG, skipG, augG, parG, par3G, frzG, setFldG, asgTG, forG, nameT, tupT, consT, nilT, subT, attrT, varZ, cZ, binZ, unZ, caZ, boolZ, andZ, orZ, notZ, andV, orV, notV, ifZ, chainZ, nilZ, consZ, tupZ, lstZ, lstHZ, callZ, methZ, makeZ, makeNZ, fldZ, frzE, deepE, lcZ, dcZ, dispZ, pnilZ, pconsZ, oneD, walkU, srcU, walkE, srcE, walkR1, walkR2, walkS, joinedZ, jconsZ, jnilZ, fmtZ, dgetZ, dinZ, dninZ, bmZ, intZ0, intZ, uintZ, sliceZ, partZ, noPartZ, cutQ, yesZ, Z.lenZ, lenQ, listZ, listHZ, tupleZ, sortedSZ, allZ, anyZ, intZ1, strIZ, mulSZ, addZ, repHZ, repZ, appendZ, extendZ, insertZ, countSZ, joinZ, isBlZ, inZ, isOwnQ, eqZ_int, eqZ_str, eqZ_bl, neZ_int, neZ_str, neZ_bl, lenOwnZ, strOwnZ, reprZ, wipeE, kwD, List.set_cons_zero, List.set_cons_succ, List.getElem?_cons_zero, List.getElem?_cons_succ, List.map_cons, List.map_nil, List.cons_append, List.nil_append, List.append_nil, List.length_cons, List.length_nil, Nat.reduceAdd, Nat.reduceSub, List.replicate_succ, List.replicate_zero, if_true, if_false, Bool.false_eq_true, Nat.zero_add]
    refine ⟨_, _, _, rfl, rfl, flat_strs _, ?_⟩
    rw [inV_strs]
    have e : (if decide (y ∈ restS M) = true then (1 : Int) else 0) = b2i (decide (y ∈ restS M)) := rfl
    rw [e]
    refine ⟨b2i_le _, b2i_ge _, by decide, ?_⟩
    rw [mulStar]
    have sz : (100000 : Nat) ≤ sizeLine := by decide
    exact ⟨by omega, k1 _ rfl⟩
  · refine ⟨_, _, _, rfl, at_new _ _, rfl, ?_⟩
    rw [set_new]
    have e1 : (M.ns.map D.str).filterMap (fun d => match d with
        | .str x => some (.str (x ++ starS (decide (x ∈ restS M))))
        | _ => none) = ((List.range M.n).map fun i => M.nm i ++ starS (M.R i i)).map D.str := by
      conv => lhs; rw [ns_eq M]
      rw [List.map_map, List.map_map, List.filterMap_map]
      refine Eq.trans (filterMap_all (fun i => D.str (M.nm i ++ starS (decide (M.nm i ∈ restS M)))) _) ?_
      apply List.map_congr_left
      intro i hi
      show D.str _ = D.str _
      rw [mem_rest ok (List.mem_range.mp hi)]
    rw [e1]
    refine ⟨trivial, M, ok, rfl, ?_⟩
    refine lc_pure (fun d => match d with
      | .tup [.str a, .str b] => some (.str (a ++ "-" ++ b))
      | _ => none) ?_ (fun _ => trivial) (fun x hx l k k' k1 k2 => ?_) (frz_lst ?_ ?_)
    · unfold tiesD
      rw [List.length_map]
      exact Nat.lt_of_le_of_lt (tiesI_len ok) (by decide)
    · unfold tiesD at hx
      obtain ⟨p, hp, rfl⟩ := List.mem_map.mp hx
      obtain ⟨a1, a2, _⟩ := tiesI_lt hp
      have b1 := nm_len ok (Nat.lt_trans a1 a2)
      have b2 := nm_len ok a2
      have e : (Str.ofString "-").length = 1 := rfl
      have sz : (100000 : Nat) ≤ sizeLine := by decide
      simp only [bodyZ, asgG, dropG, retG, retNG, ifG, skipG, augG, parG, par3G, frzG, setFldG, asgTG, forG, nameT, tupT, consT, nilT, subT, attrT, varZ, cZ, binZ, unZ, caZ, boolZ, andZ, orZ, notZ, andV, orV, notV, ifZ, chainZ, nilZ, consZ, tupZ, lstZ, lstHZ, callZ, methZ, makeZ, makeNZ, fldZ, frzE, deepE, lcZ, dcZ, dispZ, pnilZ, pconsZ, oneD, walkU, srcU, walkE, srcE, walkR1, walkR2, walkS, joinedZ, jconsZ, jnilZ, fmtZ, dgetZ, dinZ, dninZ, bmZ, intZ0, intZ, uintZ, sliceZ, partZ, noPartZ, cutQ, yesZ, Z.lenZ, lenQ, listZ, listHZ, tupleZ, sortedSZ, allZ, anyZ, intZ1, strIZ, mulSZ, addZ, repHZ, repZ, appendZ, extendZ, insertZ, countSZ, joinZ, isBlZ, inZ, isOwnQ, eqZ_int, eqZ_str, eqZ_bl, neZ_int, neZ_str, neZ_bl, lenOwnZ, strOwnZ, reprZ, wipeE, kwD, List.set_cons_zero, List.set_cons_succ, List.getElem?_cons_zero, List.getElem?_cons_succ, List.map_cons, List.map_nil, List.cons_append, List.nil_append, List.append_nil, List.length_cons, List.length_nil, Nat.reduceAdd, Nat.reduceSub, List.replicate_succ, List.replicate_zero, if_true, if_false, Bool.false_eq_true, Nat.zero_add, Md.pr]
      refine ⟨trivial, by omega, ?_, k1 _ rfl⟩
      rw [len_app]; omega
    · intro d hd
      obtain ⟨z, _, hz⟩ := List.mem_filterMap.mp hd
      split at hz
      · cases hz; exact Fl.str _
      · cases hz
    · have e2 : (tiesD M).filterMap (fun d => match d with
          | .tup [.str a, .str b] => some (.str (a ++ "-" ++ b))
          | _ => none) = ((tiesI M).map fun p => M.nm p.1 ++ "-" ++ M.nm p.2).map D.str := by
        unfold tiesD
        rw [List.filterMap_map, List.map_map]
        exact filterMap_all _ _
      rw [e2]
      dsimp only
      have e3 : ((List.range M.n).map fun i => M.nm i ++ starS (M.R i i)).map D.str ++ ((tiesI M).map fun p => M.nm p.1 ++ "-" ++ M.nm p.2).map D.str = (wordsS M).map D.str := by
        unfold wordsS
        rw [List.map_append]
      rw [e3]
      refine ⟨?_, ?_⟩
      · have := words_few ok
        have h7 : (wordsS M).length = ((List.range M.n).map fun i => M.nm i ++ starS (M.R i i)).length + ((tiesI M).map fun p => M.nm p.1 ++ "-" ++ M.nm p.2).length := by
          unfold wordsS
          rw [List.length_append]
        rw [List.length_map, List.length_map (as := (tiesI M).map _)]
        omega
      · refine ⟨by decide, ?_⟩
        refine ⟨.list ((wordsS M).map .str), .list (([] : List Str).map .str), isP_lst (isPs_strs _ _), isP_lst (isPs_strs _ []), (nc_words ok).shaped (by decide), rfl, ?_⟩
        rw [PyData.eqv, eqv_strs]
        have hne : decide (wordsS M = []) = decide (M.ns = []) := by
          apply decide_eq_decide.mpr
          constructor
          · intro h0
            unfold wordsS at h0
            have h1 := (List.append_eq_nil_iff.mp h0).1
            have h2 := congrArg List.length h1
            rw [List.length_map, List.length_range] at h2
            exact List.eq_nil_of_length_eq_zero h2
          · intro h0
            have h1 : M.n = 0 := by show M.ns.length = 0; rw [h0]; rfl
            unfold wordsS tiesI tiesTo
            rw [h1]
            rfl
        rw [hne]
        unfold textS at h
        by_cases he : M.ns = []
        · rw [if_pos he] at h
          rw [decide_eq_true he]
          exact end_same trivial h
        · rw [if_neg he] at h
          rw [decide_eq_false he]
          simp only [bodyZ, asgG, dropG, retG, retNG, ifG, skipG, augG, parG, par3G, frzG, setFldG, asgTG, forG, nameT, tupT, consT, nilT, subT, attrT, varZ, cZ, binZ, unZ, caZ, boolZ, andZ, orZ, notZ, andV, orV, notV, ifZ, chainZ, nilZ, consZ, tupZ, lstZ, lstHZ, callZ, methZ, makeZ, makeNZ, fldZ, frzE, deepE, lcZ, dcZ, dispZ, pnilZ, pconsZ, oneD, walkU, srcU, walkE, srcE, walkR1, walkR2, walkS, joinedZ, jconsZ, jnilZ, fmtZ, dgetZ, dinZ, dninZ, bmZ, intZ0, intZ, uintZ, sliceZ, partZ, noPartZ, cutQ, yesZ, Z.lenZ, lenQ, listZ, listHZ, tupleZ, sortedSZ, allZ, anyZ, intZ1, strIZ, mulSZ, addZ, repHZ, repZ, appendZ, extendZ, insertZ, countSZ, joinZ, isBlZ, inZ, isOwnQ, eqZ_int, eqZ_str, eqZ_bl, neZ_int, neZ_str, neZ_bl, lenOwnZ, strOwnZ, reprZ, wipeE, kwD, List.set_cons_zero, List.set_cons_succ, List.getElem?_cons_zero, List.getElem?_cons_succ, List.map_cons, List.map_nil, List.cons_append, List.nil_append, List.append_nil, List.length_cons, List.length_nil, Nat.reduceAdd, Nat.reduceSub, List.replicate_succ, List.replicate_zero, if_true, if_false, Bool.false_eq_true, Nat.zero_add, Bool.not_false]
          exact ⟨⟨_, rfl⟩, wordsS M, rfl, words_len ok, end_same trivial h⟩
end
end K01
namespace K01
open PySem L2 Z
section
theorem rising_pw : ∀ (l : List Str) (p : Str), PyProof.Rows.risingS p l = true → (p :: l).Pairwise fun a b => ¬ b.cps.toList < a.cps.toList
  | [], p, _ => by simp
  | x :: r, p, h => by
    have h : (!PySem.Spec.ltCps x.cps.toList p.cps.toList && PyProof.Rows.risingS x r) = true := h
    rw [Bool.and_eq_true, Bool.not_eq_true', PyProof.Rows.ltCps_eq] at h
    have h1 : ¬ x.cps.toList < p.cps.toList := of_decide_eq_false h.1
    have ih := rising_pw r x h.2
    refine List.pairwise_cons.mpr ⟨fun y hy => ?_, ih⟩
    rcases List.mem_cons.mp hy with rfl | hy
    · exact h1
    · have h2 := (List.pairwise_cons.mp ih).1 y hy
      intro hlt
      exact h2 (Classical.byContradiction fun hn => by
        have a1 : p.cps.toList ≤ x.cps.toList := h1
        have a2 : x.cps.toList ≤ y.cps.toList := h2
        exact absurd hlt (List.le_trans a1 a2))
theorem sorted_pw (l : List Str) (h : PyProof.Rows.sortedS l = true) : l.Pairwise fun a b => ¬ b.cps.toList < a.cps.toList := by
  cases l with
  | nil => exact .nil
  | cons x r => exact rising_pw r x h
theorem str_ext {x y : Str} (h : x.cps.toList = y.cps.toList) : x = y := by
  obtain ⟨a⟩ := x
  obtain ⟨b⟩ := y
  have : a = b := Array.ext' h
  rw [this]
theorem sorted_uniq {l m : List Str} (hp : l.Perm m) (hl : PyProof.Rows.sortedS l = true) (hm : PyProof.Rows.sortedS m = true) : l = m := by
  refine List.Perm.eq_of_pairwise (le := fun a b => ¬ b.cps.toList < a.cps.toList) (fun a b _ _ h1 h2 => ?_) (sorted_pw l hl) (sorted_pw m hm) hp
  have a1 : a.cps.toList ≤ b.cps.toList := h1
  have a2 : b.cps.toList ≤ a.cps.toList := h2
  exact str_ext (List.le_antisymm a1 a2)
def tabD (n : Nat) (R : Nat → Nat → Bool) : List D := (List.range n).map fun i => .int (mask n (R i) : Nat)
theorem tabD_at {n : Nat} {R : Nat → Nat → Bool} {i : Nat} (h : i < n) : atI (tabD n R) (i : Int) = some (.int (mask n (R i) : Nat)) := range_at _ h
theorem bor_pow (m b : Nat) : Builtin.bitOr (m : Int) (1 * 2 ^ ((b : Int)).toNat) = ((m ||| 2 ^ b : Nat) : Int) := by
  have e : (1 : Int) * 2 ^ ((b : Int)).toNat = ((2 ^ b : Nat) : Int) := by simp
  rw [e]
  rw [Bits.bitOr_pp (Int.natCast_nonneg _) (Int.natCast_nonneg _), Int.toNat_natCast, Int.toNat_natCast]
theorem bxor_pow (m b : Nat) : Builtin.bitXor (m : Int) (1 * 2 ^ ((b : Int)).toNat) = ((m ^^^ 2 ^ b : Nat) : Int) := by
  have e : (1 : Int) * 2 ^ ((b : Int)).toNat = ((2 ^ b : Nat) : Int) := by simp
  rw [e]
  rw [Bits.bitXor_pp (Int.natCast_nonneg _) (Int.natCast_nonneg _), Int.toNat_natCast, Int.toNat_natCast]
theorem tabD_ext {n : Nat} {R R' : Nat → Nat → Bool} (h : ∀ i k, i < n → k < n → R i k = R' i k) : tabD n R = tabD n R' := by
  unfold tabD
  apply List.map_congr_left
  intro i hi
  rw [mask_ext fun k hk => h i k (List.mem_range.mp hi) hk]
theorem tabD_or {n : Nat} {R : Nat → Nat → Bool} {a b : Nat} (hb : b < n) : (tabD n R).set a (.int ((mask n (R a) ||| 2 ^ b : Nat) : Int)) = tabD n fun i k => R i k || (decide (i = a) && decide (k = b)) := by
  unfold tabD
  rw [set_range]
  apply List.map_congr_left
  intro i hi
  by_cases h : i = a
  · subst h
    rw [if_pos rfl, mask_or hb]
    simp
  · rw [if_neg h]
    simp [h]
theorem tabD_xor {n : Nat} {R : Nat → Nat → Bool} {a b : Nat} (hb : b < n) : (tabD n R).set a (.int ((mask n (R a) ^^^ 2 ^ b : Nat) : Int)) = tabD n fun i k => R i k ^^ (decide (i = a) && decide (k = b)) := by
  unfold tabD
  rw [set_range]
  apply List.map_congr_left
  intro i hi
  by_cases h : i = a
  · subst h
    rw [if_pos rfl, mask_xor hb]
    simp
  · rw [if_neg h]
    simp [h]
theorem tabM_D (M : Md) : ((tabM M).map fun m => D.int (m : Nat)) = tabD M.n M.R := by
  unfold tabM tabD
  rw [List.map_map]
  rfl
theorem putFD_hit (k : Key) (d d' : D) (r : List (Key × D)) : putFD k d ((k, d') :: r) = (k, d) :: r := by
  unfold putFD
  rw [if_pos rfl]
theorem putFD_miss {k k' : Key} {d d' : D} {r : List (Key × D)} (h : decide (k' = k) = false) : putFD k d ((k', d') :: r) = (k', d') :: putFD k d r := by
  conv => lhs; unfold putFD
  rw [if_neg (of_decide_eq_false h)]
theorem plD_put {ns : List Str} (nd : ns.Nodup) {i : Nat} (hi : i < ns.length) : putD ((List.range i).map fun i => ((Sum.inr (ns.getD i Str.empty) : Key), D.int (i : Nat))) (.inr (ns.getD i Str.empty)) (.int (i : Nat)) = (List.range (i + 1)).map fun i => ((Sum.inr (ns.getD i Str.empty) : Key), D.int (i : Nat)) := by
  unfold putD
  rw [if_neg, List.range_succ, List.map_append]
  · rfl
  · intro h
    obtain ⟨p, hp, h2⟩ := List.any_eq_true.mp h
    obtain ⟨j, hj, rfl⟩ := List.mem_map.mp hp
    have hji := List.mem_range.mp hj
    have e : ns.getD j Str.empty = ns.getD i Str.empty := Sum.inr.inj (of_decide_eq_true h2)
    have := nm_inj (M := ⟨ns, fun _ _ => false⟩) nd (Nat.lt_trans hji hi) hi e
    omega
end
end K01
namespace K01
open PySem L2 Z
section
variable (α : Ad) (ds : List D) (S : Store) (Q : D → Store → Prop) (E : XD → Store → Prop)
def relP (ps : List (Nat × Nat)) (a b : Nat) : Bool := decide ((a, b) ∈ ps) || decide ((b, a) ∈ ps)
def F1 (M : Md) : List (Key × D) := [(.inr "folk", .tup (M.ns.map .str))]
def F2 (M : Md) : List (Key × D) := [(.inr "folk", .tup (M.ns.map .str)), (.inr "places", .dic (plD M.ns))]
theorem f1_put (M : Md) : putFD (.inr "folk") (.tup (M.ns.map .str)) [] = F1 M := rfl
theorem f2_put (M : Md) : putFD (.inr "places") (.dic (plD M.ns)) (F1 M) = F2 M := by
  unfold F1 F2
  rw [putFD_miss (by decide +kernel)]
  rfl
theorem f3_put (M : Md) : putFD (.inr "table") (.tup (tabD M.n M.R)) (F2 M) = fldsM M := by
  unfold F2 fldsM
  rw [putFD_miss (by decide +kernel), putFD_miss (by decide +kernel), tabM_D]
  rfl
theorem v1_folk (M : Md) : valD (F1 M) (.inr "folk") = some (.tup (M.ns.map .str)) := valD_hit _ _ _
theorem v2_folk (M : Md) : valD (F2 M) (.inr "folk") = some (.tup (M.ns.map .str)) := valD_hit _ _ _
theorem v2_places (M : Md) : valD (F2 M) (.inr "places") = some (.dic (plD M.ns)) := (valD_miss (by decide +kernel)).trans (valD_hit _ _ _)
theorem insOf_at {S : Store} {n : Nat} {C : Addr} {l : List (Key × D)} (h : S[n]? = some (.ins C l)) : insOf S (.hnd n) = some (C, l) := by simp only [insOf, h]
theorem pl_get {M : Md} (ok : Md.Ok M) {i : Nat} (h : i < M.n) : valD (plD M.ns) (.inr (M.nm i)) = some (.int (i : Nat)) := pl_at ok.nd h
theorem fl_plD (ns : List Str) : ∀ p ∈ plD ns, Fl p.2 := fun p hp => by
  obtain ⟨i, _, rfl⟩ := List.mem_map.mp hp
  exact Fl.int _
theorem fl_flds (M : Md) : ∀ p ∈ fldsM M, Fl p.2 := fun p hp => by
  unfold fldsM at hp
  simp only [List.mem_cons, List.not_mem_nil, or_false] at hp
  rcases hp with rfl | rfl | rfl
  · exact Fl.tup (Fl.strs _)
  · exact Fl.dic (fl_plD _)
  · exact Fl.tup (Fl.map fun _ => Fl.int _)
theorem fl_co (M : Md) : Fl (coM α M) := Fl.ins (fl_flds M)
theorem setTab {T : Store} {t : Nat} {n : Nat} {R : Nat → Nat → Bool} {a b : Nat} (hT : T[t]? = some (.lst (tabD n R))) (ha : a < n) (hb : b < n) {Q : Store → Prop} (q : Q (T.set t (.lst (tabD n fun i k => R i k || (decide (i = a) && decide (k = b)))))) : setIxQ (.hnd t) (.int (a : Nat)) (.int ((mask n (R a) ||| 2 ^ b : Nat) : Int)) T Q := by
  refine setBag hT (by unfold tabD; simpa using ha) ?_
  rw [tabD_or hb]
  exact q
theorem s_Company___init__ (hl : ds.length = 4) (h : m_Company___init__ α ds S Q E) : bodyZ 12 (g_Company___init__ α) ds S Q E := by
  obtain ⟨n, nd, td, rd, M, xs, ps, is, rfl, ok, hnd, hperm, htd, hrd, fit, hS, h⟩ := h
  have hn : M.ns.length ≤ 16 := ok.few
  have hn' : M.n ≤ 16 := ok.few
  have hlt : n < S.length := (List.getElem?_eq_some_iff.mp hS).1
  have hxl : xs.length = M.n := hperm.length_eq
  have hxn : xs.Nodup := hperm.nodup_iff.mpr ok.nd
  unfold bodyZ g_Company___init__
  -- given
  refine seq_with (fun δ S' => δ = [some (.hnd n), some nd, some td, some rd, some (.lst (xs.map .str)), none, none, none, none, none, none, none] ∧ S' = S) (fun δ S' hP => ?_) (fun K hK => ?_)
  rotate_left
  · simp only [bodyZ, asgG, dropG, retG, retNG, ifG, skipG, augG, parG, par3G, frzG, setFldG, asgTG, forG, nameT, tupT, consT, nilT, subT, attrT, varZ, cZ, binZ, unZ, caZ, boolZ, andZ, orZ, notZ, andV, orV, notV, ifZ, chainZ, nilZ, consZ, tupZ, lstZ, lstHZ, callZ, methZ, makeZ, makeNZ, fldZ, frzE, deepE, lcZ, dcZ, dispZ, pnilZ, pconsZ, oneD, walkU, srcU, walkE, srcE, walkR1, walkR2, walkS, joinedZ, jconsZ, jnilZ, fmtZ, dgetZ, dinZ, dninZ, bmZ, intZ0, intZ, uintZ, sliceZ, partZ, noPartZ, cutQ, yesZ, Z.lenZ, lenQ, listZ, listHZ, tupleZ, sortedSZ, allZ, anyZ, intZ1, strIZ, mulSZ, addZ, repHZ, repZ, appendZ, extendZ, insertZ, countSZ, joinZ, isBlZ, inZ, isOwnQ, eqZ_int, eqZ_str, eqZ_bl, neZ_int, neZ_str, neZ_bl, lenOwnZ, strOwnZ, reprZ, wipeE, kwD, List.set_cons_zero, List.set_cons_succ, List.getElem?_cons_zero, List.getElem?_cons_succ, List.map_cons, List.map_nil, List.cons_append, List.nil_append, List.append_nil, List.length_cons, List.length_nil, Nat.reduceAdd, Nat.reduceSub, List.replicate_succ, List.replicate_zero, if_true, if_false, Bool.false_eq_true, Nat.zero_add]
    exact ⟨_, hnd, hK _ _ ⟨rfl, rfl⟩⟩
  obtain ⟨rfl, rfl⟩ := hP
  -- names are names
  refine seq_with (fun δ S'' => (∃ x y, δ = [some (.hnd n), some nd, some td, some rd, some (.lst (xs.map .str)), x, y, none, none, none, none, none]) ∧ S'' = S') (fun δ S'' hP => ?_) (fun K hK => ?_)
  rotate_left
  · simp only [bodyZ, asgG, dropG, retG, retNG, ifG, skipG, augG, parG, par3G, frzG, setFldG, asgTG, forG, nameT, tupT, consT, nilT, subT, attrT, varZ, cZ, binZ, unZ, caZ, boolZ, andZ, orZ, notZ, andV, orV, notV, ifZ, chainZ, nilZ, consZ, tupZ, lstZ, lstHZ, callZ, methZ, makeZ, makeNZ, fldZ, frzE, deepE, lcZ, dcZ, dispZ, pnilZ, pconsZ, oneD, walkU, srcU, walkE, srcE, walkR1, walkR2, walkS, joinedZ, jconsZ, jnilZ, fmtZ, dgetZ, dinZ, dninZ, bmZ, intZ0, intZ, uintZ, sliceZ, partZ, noPartZ, cutQ, yesZ, Z.lenZ, lenQ, listZ, listHZ, tupleZ, sortedSZ, allZ, anyZ, intZ1, strIZ, mulSZ, addZ, repHZ, repZ, appendZ, extendZ, insertZ, countSZ, joinZ, isBlZ, inZ, isOwnQ, eqZ_int, eqZ_str, eqZ_bl, neZ_int, neZ_str, neZ_bl, lenOwnZ, strOwnZ, reprZ, wipeE, kwD, List.set_cons_zero, List.set_cons_succ, List.getElem?_cons_zero, List.getElem?_cons_succ, List.map_cons, List.map_nil, List.cons_append, List.nil_append, List.append_nil, List.length_cons, List.length_nil, Nat.reduceAdd, Nat.reduceSub, List.replicate_succ, List.replicate_zero, if_true, if_false, Bool.false_eq_true, Nat.zero_add]
    refine loop_at _ (fun i δ S'' => (∃ x y, δ = [some (.hnd n), some nd, some td, some rd, some (.lst (xs.map .str)), x, y, none, none, none, none, none]) ∧ S'' = S') ⟨⟨_, _, rfl⟩, rfl⟩ (fun δ S'' hP => ⟨trivial, hK _ _ hP⟩) (fun i x δ S'' k hx hP hk => ?_)
    obtain ⟨⟨x0, y0, rfl⟩, rfl⟩ := hP
    obtain ⟨d, h3, rfl⟩ := enumD_at hx
    have hi : i < xs.length := by have := (List.getElem?_eq_some_iff.mp h3).1; simpa using this
    rw [List.getElem?_map, List.getElem?_eq_getElem hi] at h3
    cases h3
    have hmem : xs[i] ∈ M.ns := hperm.mem_iff.mp (List.getElem_mem hi)
    simp only [bodyZ, asgG, dropG, retG, retNG, ifG, skipG, augG, parG, par3G, frzG, setFldG, asgTG, forG, nameT, tupT, consT, nilT, subT, attrT, varZ, cZ, binZ, unZ, caZ, boolZ, andZ, orZ, notZ, andV, orV, notV, ifZ, chainZ, nilZ, consZ, tupZ, lstZ, lstHZ, callZ, methZ, makeZ, makeNZ, fldZ, frzE, deepE, lcZ, dcZ, dispZ, pnilZ, pconsZ, oneD, walkU, srcU, walkE, srcE, walkR1, walkR2, walkS, joinedZ, jconsZ, jnilZ, fmtZ, dgetZ, dinZ, dninZ, bmZ, intZ0, intZ, uintZ, sliceZ, partZ, noPartZ, cutQ, yesZ, Z.lenZ, lenQ, listZ, listHZ, tupleZ, sortedSZ, allZ, anyZ, intZ1, strIZ, mulSZ, addZ, repHZ, repZ, appendZ, extendZ, insertZ, countSZ, joinZ, isBlZ, inZ, isOwnQ, eqZ_int, eqZ_str, eqZ_bl, neZ_int, neZ_str, neZ_bl, lenOwnZ, strOwnZ, reprZ, wipeE, kwD, List.set_cons_zero, List.set_cons_succ, List.getElem?_cons_zero, List.getElem?_cons_succ, List.map_cons, List.map_nil, List.cons_append, List.nil_append, List.append_nil, List.length_cons, List.length_nil, Nat.reduceAdd, Nat.reduceSub, List.replicate_succ, List.replicate_zero, if_true, if_false, Bool.false_eq_true, Nat.zero_add, Bool.not_true, seqG]
    refine ⟨trivial, trivial, trivial, _, rfl, ok.okn _ hmem, ?_⟩
    refine ⟨_, rfl, ?_⟩
    rw [cutD_take, ← List.map_take]
    refine ⟨_, _, _, rfl, rfl, flat_strs _, ?_⟩
    rw [inV_strs]
    have hno : decide (xs[i] ∈ xs.take i) = false := decide_eq_false fun hm => by
      obtain ⟨j, hj⟩ := List.getElem?_of_mem hm
      have hji : j < i := by
        have := (List.getElem?_eq_some_iff.mp hj).1
        rw [List.length_take] at this
        omega
      rw [List.getElem?_take_of_lt hji] at hj
      have := (List.getElem?_inj (Nat.lt_trans hji hi) hxn).mp (hj.trans (List.getElem?_eq_getElem hi).symm)
      omega
    rw [hno]
    exact hk _ _ ⟨⟨_, _, rfl⟩, rfl⟩
  obtain ⟨⟨x1, y1, rfl⟩, rfl⟩ := hP
  -- not too many
  refine seq_with (fun δ S' => δ = [some (.hnd n), some nd, some td, some rd, some (.lst (xs.map .str)), x1, y1, none, none, none, none, none] ∧ S' = S'') (fun δ S' hP => ?_) (fun K hK => ?_)
  rotate_left
  · simp only [bodyZ, asgG, dropG, retG, retNG, ifG, skipG, augG, parG, par3G, frzG, setFldG, asgTG, forG, nameT, tupT, consT, nilT, subT, attrT, varZ, cZ, binZ, unZ, caZ, boolZ, andZ, orZ, notZ, andV, orV, notV, ifZ, chainZ, nilZ, consZ, tupZ, lstZ, lstHZ, callZ, methZ, makeZ, makeNZ, fldZ, frzE, deepE, lcZ, dcZ, dispZ, pnilZ, pconsZ, oneD, walkU, srcU, walkE, srcE, walkR1, walkR2, walkS, joinedZ, jconsZ, jnilZ, fmtZ, dgetZ, dinZ, dninZ, bmZ, intZ0, intZ, uintZ, sliceZ, partZ, noPartZ, cutQ, yesZ, Z.lenZ, lenQ, listZ, listHZ, tupleZ, sortedSZ, allZ, anyZ, intZ1, strIZ, mulSZ, addZ, repHZ, repZ, appendZ, extendZ, insertZ, countSZ, joinZ, isBlZ, inZ, isOwnQ, eqZ_int, eqZ_str, eqZ_bl, neZ_int, neZ_str, neZ_bl, lenOwnZ, strOwnZ, reprZ, wipeE, kwD, List.set_cons_zero, List.set_cons_succ, List.getElem?_cons_zero, List.getElem?_cons_succ, List.map_cons, List.map_nil, List.cons_append, List.nil_append, List.append_nil, List.length_cons, List.length_nil, Nat.reduceAdd, Nat.reduceSub, List.replicate_succ, List.replicate_zero, if_true, if_false, Bool.false_eq_true, Nat.zero_add, List.length_map]
    rw [decide_eq_false (by omega)]
    exact hK _ _ ⟨rfl, rfl⟩
  obtain ⟨rfl, rfl⟩ := hP
  -- folk
  refine seq_with (fun δ S'' => δ = [some (.hnd n), some nd, some td, some rd, some (.lst (xs.map .str)), x1, y1, none, none, none, none, none] ∧ S'' = S'.set n (.ins α.Company (F1 M))) (fun δ S'' hP => ?_) (fun K hK => ?_)
  rotate_left
  · simp only [bodyZ, asgG, dropG, retG, retNG, ifG, skipG, augG, parG, par3G, frzG, setFldG, asgTG, forG, nameT, tupT, consT, nilT, subT, attrT, varZ, cZ, binZ, unZ, caZ, boolZ, andZ, orZ, notZ, andV, orV, notV, ifZ, chainZ, nilZ, consZ, tupZ, lstZ, lstHZ, callZ, methZ, makeZ, makeNZ, fldZ, frzE, deepE, lcZ, dcZ, dispZ, pnilZ, pconsZ, oneD, walkU, srcU, walkE, srcE, walkR1, walkR2, walkS, joinedZ, jconsZ, jnilZ, fmtZ, dgetZ, dinZ, dninZ, bmZ, intZ0, intZ, uintZ, sliceZ, partZ, noPartZ, cutQ, yesZ, Z.lenZ, lenQ, listZ, listHZ, tupleZ, sortedSZ, allZ, anyZ, intZ1, strIZ, mulSZ, addZ, repHZ, repZ, appendZ, extendZ, insertZ, countSZ, joinZ, isBlZ, inZ, isOwnQ, eqZ_int, eqZ_str, eqZ_bl, neZ_int, neZ_str, neZ_bl, lenOwnZ, strOwnZ, reprZ, wipeE, kwD, List.set_cons_zero, List.set_cons_succ, List.getElem?_cons_zero, List.getElem?_cons_succ, List.map_cons, List.map_nil, List.cons_append, List.nil_append, List.append_nil, List.length_cons, List.length_nil, Nat.reduceAdd, Nat.reduceSub, List.replicate_succ, List.replicate_zero, if_true, if_false, Bool.false_eq_true, Nat.zero_add]
    refine ⟨xs, rfl, by omega, fun ys hp hs => ⟨_, rfl, _, hS, by decide, hK _ _ ⟨rfl, ?_⟩⟩⟩
    rw [sorted_uniq (hp.trans hperm) hs ok.srt]
    rfl
  obtain ⟨rfl, rfl⟩ := hP
  have hS1 : (S'.set n (.ins α.Company (F1 M)))[n]? = some (.ins α.Company (F1 M)) := List.getElem?_set_self hlt
  have hl1 : (S'.set n (.ins α.Company (F1 M))).length = S'.length := List.length_set
  -- places
  refine seq_with (fun δ S'' => δ = [some (.hnd n), some nd, some td, some rd, some (.lst (xs.map .str)), x1, y1, none, none, none, none, none] ∧ S'' = S'.set n (.ins α.Company (F2 M))) (fun δ S'' hP => ?_) (fun K hK => ?_)
  rotate_left
  · simp only [bodyZ, asgG, dropG, retG, retNG, ifG, skipG, augG, parG, par3G, frzG, setFldG, asgTG, forG, nameT, tupT, consT, nilT, subT, attrT, varZ, cZ, binZ, unZ, caZ, boolZ, andZ, orZ, notZ, andV, orV, notV, ifZ, chainZ, nilZ, consZ, tupZ, lstZ, lstHZ, callZ, methZ, makeZ, makeNZ, fldZ, frzE, deepE, lcZ, dcZ, dispZ, pnilZ, pconsZ, oneD, walkU, srcU, walkE, srcE, walkR1, walkR2, walkS, joinedZ, jconsZ, jnilZ, fmtZ, dgetZ, dinZ, dninZ, bmZ, intZ0, intZ, uintZ, sliceZ, partZ, noPartZ, cutQ, yesZ, Z.lenZ, lenQ, listZ, listHZ, tupleZ, sortedSZ, allZ, anyZ, intZ1, strIZ, mulSZ, addZ, repHZ, repZ, appendZ, extendZ, insertZ, countSZ, joinZ, isBlZ, inZ, isOwnQ, eqZ_int, eqZ_str, eqZ_bl, neZ_int, neZ_str, neZ_bl, lenOwnZ, strOwnZ, reprZ, wipeE, kwD, List.set_cons_zero, List.set_cons_succ, List.getElem?_cons_zero, List.getElem?_cons_succ, List.map_cons, List.map_nil, List.cons_append, List.nil_append, List.append_nil, List.length_cons, List.length_nil, Nat.reduceAdd, Nat.reduceSub, List.replicate_succ, List.replicate_zero, if_true, if_false, Bool.false_eq_true, Nat.zero_add]
    refine ⟨_, _, insOf_at hS1, v1_folk M, ?_⟩
    refine dc_ind _ (fun i T => T = S'.set n (.ins α.Company (F1 M)) ++ [.dic ((List.range i).map fun i => ((Sum.inr (M.ns.getD i Str.empty) : Key), D.int (i : Nat)))]) rfl (fun T hP => ?_) (fun i x T k hx hP hk => ?_)
    · subst hP
      rw [enumD_len, List.length_map]
      refine ⟨trivial, frz_dic (fl_plD M.ns) ⟨_, hS1, by show 1 < 1000; decide, hK _ _ ⟨rfl, ?_⟩⟩⟩
      have e := f2_put M
      unfold plD at e
      rw [e, List.set_set]
    · subst hP
      obtain ⟨d, h3, rfl⟩ := enumD_at hx
      have hi : i < M.n := by have := (List.getElem?_eq_some_iff.mp h3).1; simpa using this
      rw [List.getElem?_map, nm_at M hi] at h3
      cases h3
      simp only [bodyZ, asgG, dropG, retG, retNG, ifG, skipG, augG, parG, par3G, frzG, setFldG, asgTG, forG, nameT, tupT, consT, nilT, subT, attrT, varZ, cZ, binZ, unZ, caZ, boolZ, andZ, orZ, notZ, andV, orV, notV, ifZ, chainZ, nilZ, consZ, tupZ, lstZ, lstHZ, callZ, methZ, makeZ, makeNZ, fldZ, frzE, deepE, lcZ, dcZ, dispZ, pnilZ, pconsZ, oneD, walkU, srcU, walkE, srcE, walkR1, walkR2, walkS, joinedZ, jconsZ, jnilZ, fmtZ, dgetZ, dinZ, dninZ, bmZ, intZ0, intZ, uintZ, sliceZ, partZ, noPartZ, cutQ, yesZ, Z.lenZ, lenQ, listZ, listHZ, tupleZ, sortedSZ, allZ, anyZ, intZ1, strIZ, mulSZ, addZ, repHZ, repZ, appendZ, extendZ, insertZ, countSZ, joinZ, isBlZ, inZ, isOwnQ, eqZ_int, eqZ_str, eqZ_bl, neZ_int, neZ_str, neZ_bl, lenOwnZ, strOwnZ, reprZ, wipeE, kwD, List.set_cons_zero, List.set_cons_succ, List.getElem?_cons_zero, List.getElem?_cons_succ, List.map_cons, List.map_nil, List.cons_append, List.nil_append, List.append_nil, List.length_cons, List.length_nil, Nat.reduceAdd, Nat.reduceSub, List.replicate_succ, List.replicate_zero, if_true, if_false, Bool.false_eq_true, Nat.zero_add]
      refine ⟨trivial, trivial, _, _, rfl, at_new _ _, ?_, hk _ ?_⟩
      · rw [List.length_map, List.length_range]; omega
      · rw [set_new]
        congr 3
        exact plD_put ok.nd hi
  obtain ⟨rfl, rfl⟩ := hP
  generalize hS2e : S'.set n (.ins α.Company (F2 M)) = S2
  have hS2 : S2[n]? = some (.ins α.Company (F2 M)) := by rw [← hS2e]; exact List.getElem?_set_self hlt
  have hl2 : S2.length = S'.length := by rw [← hS2e]; exact List.length_set
  -- the table
  refine seq_with (fun δ S'' => δ = [some (.hnd n), some nd, some td, some rd, some (.lst (xs.map .str)), x1, y1, some (.hnd S2.length), none, none, none, none] ∧ S'' = S2 ++ [.lst (tabD M.n fun _ _ => false)]) (fun δ S'' hP => ?_) (fun K hK => ?_)
  rotate_left
  · simp only [bodyZ, asgG, dropG, retG, retNG, ifG, skipG, augG, parG, par3G, frzG, setFldG, asgTG, forG, nameT, tupT, consT, nilT, subT, attrT, varZ, cZ, binZ, unZ, caZ, boolZ, andZ, orZ, notZ, andV, orV, notV, ifZ, chainZ, nilZ, consZ, tupZ, lstZ, lstHZ, callZ, methZ, makeZ, makeNZ, fldZ, frzE, deepE, lcZ, dcZ, dispZ, pnilZ, pconsZ, oneD, walkU, srcU, walkE, srcE, walkR1, walkR2, walkS, joinedZ, jconsZ, jnilZ, fmtZ, dgetZ, dinZ, dninZ, bmZ, intZ0, intZ, uintZ, sliceZ, partZ, noPartZ, cutQ, yesZ, Z.lenZ, lenQ, listZ, listHZ, tupleZ, sortedSZ, allZ, anyZ, intZ1, strIZ, mulSZ, addZ, repHZ, repZ, appendZ, extendZ, insertZ, countSZ, joinZ, isBlZ, inZ, isOwnQ, eqZ_int, eqZ_str, eqZ_bl, neZ_int, neZ_str, neZ_bl, lenOwnZ, strOwnZ, reprZ, wipeE, kwD, List.set_cons_zero, List.set_cons_succ, List.getElem?_cons_zero, List.getElem?_cons_succ, List.map_cons, List.map_nil, List.cons_append, List.nil_append, List.append_nil, List.length_cons, List.length_nil, Nat.reduceAdd, Nat.reduceSub, List.replicate_succ, List.replicate_zero, if_true, if_false, Bool.false_eq_true, Nat.zero_add]
    refine ⟨_, _, insOf_at hS2, v2_folk M, ?_⟩
    refine lc_pure (fun _ => some (.int 0)) (by rw [List.length_map]; omega) (fun _ => trivial) (fun x hx l k k' k1 k2 => ?_) (hK _ _ ⟨rfl, ?_⟩)
    · simp only [bodyZ, asgG, dropG, retG, retNG, ifG, skipG, augG, parG, par3G, frzG, setFldG, asgTG, forG, nameT, tupT, consT, nilT, subT, attrT, varZ, cZ, binZ, unZ, caZ, boolZ, andZ, orZ, notZ, andV, orV, notV, ifZ, chainZ, nilZ, consZ, tupZ, lstZ, lstHZ, callZ, methZ, makeZ, makeNZ, fldZ, frzE, deepE, lcZ, dcZ, dispZ, pnilZ, pconsZ, oneD, walkU, srcU, walkE, srcE, walkR1, walkR2, walkS, joinedZ, jconsZ, jnilZ, fmtZ, dgetZ, dinZ, dninZ, bmZ, intZ0, intZ, uintZ, sliceZ, partZ, noPartZ, cutQ, yesZ, Z.lenZ, lenQ, listZ, listHZ, tupleZ, sortedSZ, allZ, anyZ, intZ1, strIZ, mulSZ, addZ, repHZ, repZ, appendZ, extendZ, insertZ, countSZ, joinZ, isBlZ, inZ, isOwnQ, eqZ_int, eqZ_str, eqZ_bl, neZ_int, neZ_str, neZ_bl, lenOwnZ, strOwnZ, reprZ, wipeE, kwD, List.set_cons_zero, List.set_cons_succ, List.getElem?_cons_zero, List.getElem?_cons_succ, List.map_cons, List.map_nil, List.cons_append, List.nil_append, List.append_nil, List.length_cons, List.length_nil, Nat.reduceAdd, Nat.reduceSub, List.replicate_succ, List.replicate_zero, if_true, if_false, Bool.false_eq_true, Nat.zero_add]
      exact k1 _ rfl
    · congr 3
      rw [filterMap_all (fun _ => D.int 0), List.map_map]
      conv => lhs; rw [ns_eq M]
      rw [List.map_map]
      unfold tabD
      apply List.map_congr_left
      intro i _
      have hz : ∀ m, mask m (fun _ => false) = 0 := by
        intro m
        induction m with
        | zero => rfl
        | succ m ih => unfold mask; rw [ih]; simp
      show D.int 0 = _
      rw [hz]
      rfl
  obtain ⟨rfl, rfl⟩ := hP
  -- what stands in the store from now on
  have hT : ∀ R : Nat → Nat → Bool, (S2 ++ [C.lst (tabD M.n R)])[n]? = some (.ins α.Company (F2 M)) := fun R => at_app hS2
  have tget : ∀ (R : Nat → Nat → Bool) (i : Nat) (hi : i < M.n) (Q : D → Store → Prop) (E : XD → Store → Prop), getZ (.hnd S2.length) (.int (i : Nat)) (S2 ++ [C.lst (tabD M.n R)]) Q E = Q (.int (mask M.n (R i) : Nat)) (S2 ++ [C.lst (tabD M.n R)]) :=
    fun R i hi Q E => getZ_hnd (at_new _ _) (tabD_at hi) Q E
  -- the ties
  refine seq_with (fun δ S'' => (∃ a b c d e f, δ = [some (.hnd n), some nd, some td, some rd, some (.lst (xs.map .str)), a, b, some (.hnd S2.length), c, d, e, f]) ∧ S'' = S2 ++ [.lst (tabD M.n (relP ps))]) (fun δ S'' hP => ?_) (fun K hK => ?_)
  rotate_left
  · have hsrc : ∀ (T : Store) (Q : List D × (Store → Prop) → Store → Prop), Q (enumD (ps.map M.pr), fun _ => True) T → srcE td T Q := by
      intro T Q q
      rcases htd with rfl | rfl
      · exact q
      · exact q
    simp only [forG, walkE, varZ, List.getElem?_cons_zero, List.getElem?_cons_succ]
    refine hsrc _ _ ?_
    refine loop_at _ (fun i δ S'' => (∃ a b c d e f, δ = [some (.hnd n), some nd, some td, some rd, some (.lst (xs.map .str)), a, b, some (.hnd S2.length), c, d, e, f]) ∧ S'' = S2 ++ [.lst (tabD M.n (relP (ps.take i)))]) ⟨⟨_, _, _, _, _, _, rfl⟩, rfl⟩ (fun δ S'' hP => ?_) (fun i x δ S'' k hx hP hk => ?_)
    · rw [enumD_len, List.length_map, List.take_length] at hP
      exact ⟨trivial, hK _ _ hP⟩
    · obtain ⟨⟨a0, b0, c0, d0, e0, f0, rfl⟩, rfl⟩ := hP
      obtain ⟨d, h3, rfl⟩ := enumD_at hx
      have hi : i < ps.length := by have := (List.getElem?_eq_some_iff.mp h3).1; simpa using this
      obtain ⟨p, hp⟩ : ∃ p, ps[i]? = some p := ⟨_, List.getElem?_eq_getElem hi⟩
      rw [List.getElem?_map, hp] at h3
      cases h3
      obtain ⟨u, v⟩ := p
      obtain ⟨hu, hv, huv⟩ := fit.lt _ (List.mem_of_getElem? hp)
      have hu : u < M.n := hu
      have hv : v < M.n := hv
      have huv : u ≠ v := huv
      have hnew : relP (ps.take i) u v = false := by
        unfold relP
        have key : ∀ q, q ∈ ps.take i → q ≠ (u, v) ∧ q ≠ (v, u) := by
          intro q hq
          obtain ⟨j, hj⟩ := List.getElem?_of_mem hq
          have hji : j < i := by
            have := (List.getElem?_eq_some_iff.mp hj).1
            rw [List.length_take] at this
            omega
          rw [List.getElem?_take_of_lt hji] at hj
          obtain ⟨h1, rfl⟩ := List.getElem?_eq_some_iff.mp hj
          obtain ⟨h2, h2e⟩ := List.getElem?_eq_some_iff.mp hp
          have := (List.pairwise_iff_getElem.mp fit.once) j i h1 h2 hji
          rw [h2e] at this
          exact this
        rw [decide_eq_false fun hm => (key _ hm).1 rfl, decide_eq_false fun hm => (key _ hm).2 rfl]
        rfl
      have hne : decide (M.nm u = M.nm v) = false := decide_eq_false fun e => huv (nm_inj ok.nd hu hv e)
      simp only [Md.pr, nameT, tupT, consT, nilT, List.length_cons, List.length_nil, List.set_cons_zero, List.set_cons_succ, true_and, Nat.zero_add, Nat.reduceAdd]
      -- the tie is in order
      refine seq_with (fun δ S'' => δ = [some (.hnd n), some nd, some td, some rd, some (.lst (xs.map .str)), some (.int (i : Nat)), b0, some (.hnd S2.length), some (.str (M.nm u)), some (.str (M.nm v)), e0, f0] ∧ S'' = S2 ++ [.lst (tabD M.n (relP (ps.take i)))]) (fun δ S'' hP => ?_) (fun K hK => ?_)
      rotate_left
      · simp only [bodyZ, asgG, dropG, retG, retNG, ifG, skipG, augG, parG, par3G, frzG, setFldG, asgTG, forG, nameT, tupT, consT, nilT, subT, attrT, varZ, cZ, binZ, unZ, caZ, boolZ, andZ, orZ, notZ, andV, orV, notV, ifZ, chainZ, nilZ, consZ, tupZ, lstZ, lstHZ, callZ, methZ, makeZ, makeNZ, fldZ, frzE, deepE, lcZ, dcZ, dispZ, pnilZ, pconsZ, oneD, walkU, srcU, walkE, srcE, walkR1, walkR2, walkS, joinedZ, jconsZ, jnilZ, fmtZ, dgetZ, dinZ, dninZ, bmZ, intZ0, intZ, uintZ, sliceZ, partZ, noPartZ, cutQ, yesZ, Z.lenZ, lenQ, listZ, listHZ, tupleZ, sortedSZ, allZ, anyZ, intZ1, strIZ, mulSZ, addZ, repHZ, repZ, appendZ, extendZ, insertZ, countSZ, joinZ, isBlZ, inZ, isOwnQ, eqZ_int, eqZ_str, eqZ_bl, neZ_int, neZ_str, neZ_bl, lenOwnZ, strOwnZ, reprZ, wipeE, kwD, List.set_cons_zero, List.set_cons_succ, List.getElem?_cons_zero, List.getElem?_cons_succ, List.map_cons, List.map_nil, List.cons_append, List.nil_append, List.append_nil, List.length_cons, List.length_nil, Nat.reduceAdd, Nat.reduceSub, List.replicate_succ, List.replicate_zero, if_true, if_false, Bool.false_eq_true, Nat.zero_add, hT, insOf_at (hT _)]
        refine ⟨_, _, rfl, v2_places M, _, _, rfl, rfl, ?_⟩
        rw [pl_get ok hu]
        refine ⟨_, _, rfl, v2_places M, _, _, rfl, rfl, ?_⟩
        rw [pl_get ok hv, hne]
        exact hK _ _ ⟨rfl, rfl⟩
      obtain ⟨rfl, rfl⟩ := hP
      refine seq_with (fun δ S'' => δ = [some (.hnd n), some nd, some td, some rd, some (.lst (xs.map .str)), some (.int (i : Nat)), b0, some (.hnd S2.length), some (.str (M.nm u)), some (.str (M.nm v)), some (.int (u : Nat)), some (.int (v : Nat))] ∧ S'' = S2 ++ [.lst (tabD M.n (relP (ps.take i)))]) (fun δ S'' hP => ?_) (fun K hK => ?_)
      rotate_left
      · simp only [bodyZ, asgG, dropG, retG, retNG, ifG, skipG, augG, parG, par3G, frzG, setFldG, asgTG, forG, nameT, tupT, consT, nilT, subT, attrT, varZ, cZ, binZ, unZ, caZ, boolZ, andZ, orZ, notZ, andV, orV, notV, ifZ, chainZ, nilZ, consZ, tupZ, lstZ, lstHZ, callZ, methZ, makeZ, makeNZ, fldZ, frzE, deepE, lcZ, dcZ, dispZ, pnilZ, pconsZ, oneD, walkU, srcU, walkE, srcE, walkR1, walkR2, walkS, joinedZ, jconsZ, jnilZ, fmtZ, dgetZ, dinZ, dninZ, bmZ, intZ0, intZ, uintZ, sliceZ, partZ, noPartZ, cutQ, yesZ, Z.lenZ, lenQ, listZ, listHZ, tupleZ, sortedSZ, allZ, anyZ, intZ1, strIZ, mulSZ, addZ, repHZ, repZ, appendZ, extendZ, insertZ, countSZ, joinZ, isBlZ, inZ, isOwnQ, eqZ_int, eqZ_str, eqZ_bl, neZ_int, neZ_str, neZ_bl, lenOwnZ, strOwnZ, reprZ, wipeE, kwD, List.set_cons_zero, List.set_cons_succ, List.getElem?_cons_zero, List.getElem?_cons_succ, List.map_cons, List.map_nil, List.cons_append, List.nil_append, List.append_nil, List.length_cons, List.length_nil, Nat.reduceAdd, Nat.reduceSub, List.replicate_succ, List.replicate_zero, if_true, if_false, Bool.false_eq_true, Nat.zero_add]
        exact ⟨_, _, insOf_at (hT _), v2_places M, _, _, _, rfl, rfl, pl_get ok hu, _, _, insOf_at (hT _), v2_places M, _, _, _, rfl, rfl, pl_get ok hv, hK _ _ ⟨rfl, rfl⟩⟩
      obtain ⟨rfl, rfl⟩ := hP
      refine seq_with (fun δ S'' => δ = [some (.hnd n), some nd, some td, some rd, some (.lst (xs.map .str)), some (.int (i : Nat)), b0, some (.hnd S2.length), some (.str (M.nm u)), some (.str (M.nm v)), some (.int (u : Nat)), some (.int (v : Nat))] ∧ S'' = S2 ++ [.lst (tabD M.n (relP (ps.take i)))]) (fun δ S'' hP => ?_) (fun K hK => ?_)
      rotate_left
      · simp only [bodyZ, asgG, dropG, retG, retNG, ifG, skipG, augG, parG, par3G, frzG, setFldG, asgTG, forG, nameT, tupT, consT, nilT, subT, attrT, varZ, cZ, binZ, unZ, caZ, boolZ, andZ, orZ, notZ, andV, orV, notV, ifZ, chainZ, nilZ, consZ, tupZ, lstZ, lstHZ, callZ, methZ, makeZ, makeNZ, fldZ, frzE, deepE, lcZ, dcZ, dispZ, pnilZ, pconsZ, oneD, walkU, srcU, walkE, srcE, walkR1, walkR2, walkS, joinedZ, jconsZ, jnilZ, fmtZ, dgetZ, dinZ, dninZ, bmZ, intZ0, intZ, uintZ, sliceZ, partZ, noPartZ, cutQ, yesZ, Z.lenZ, lenQ, listZ, listHZ, tupleZ, sortedSZ, allZ, anyZ, intZ1, strIZ, mulSZ, addZ, repHZ, repZ, appendZ, extendZ, insertZ, countSZ, joinZ, isBlZ, inZ, isOwnQ, eqZ_int, eqZ_str, eqZ_bl, neZ_int, neZ_str, neZ_bl, lenOwnZ, strOwnZ, reprZ, wipeE, kwD, List.set_cons_zero, List.set_cons_succ, List.getElem?_cons_zero, List.getElem?_cons_succ, List.map_cons, List.map_nil, List.cons_append, List.nil_append, List.append_nil, List.length_cons, List.length_nil, Nat.reduceAdd, Nat.reduceSub, List.replicate_succ, List.replicate_zero, if_true, if_false, Bool.false_eq_true, Nat.zero_add, tget _ u hu]
        refine ⟨by omega, ?_⟩
        rw [bitAnd1, mask_test, b2i1, hnew, Bool.and_false]
        exact hK _ _ ⟨rfl, rfl⟩
      obtain ⟨rfl, rfl⟩ := hP
      refine seq_with (fun δ S'' => δ = [some (.hnd n), some nd, some td, some rd, some (.lst (xs.map .str)), some (.int (i : Nat)), b0, some (.hnd S2.length), some (.str (M.nm u)), some (.str (M.nm v)), some (.int (u : Nat)), some (.int (v : Nat))] ∧ S'' = S2 ++ [.lst (tabD M.n fun a b => relP (ps.take i) a b || (decide (a = u) && decide (b = v)))]) (fun δ S'' hP => ?_) (fun K hK => ?_)
      rotate_left
      · simp only [bodyZ, asgG, dropG, retG, retNG, ifG, skipG, augG, parG, par3G, frzG, setFldG, asgTG, forG, nameT, tupT, consT, nilT, subT, attrT, varZ, cZ, binZ, unZ, caZ, boolZ, andZ, orZ, notZ, andV, orV, notV, ifZ, chainZ, nilZ, consZ, tupZ, lstZ, lstHZ, callZ, methZ, makeZ, makeNZ, fldZ, frzE, deepE, lcZ, dcZ, dispZ, pnilZ, pconsZ, oneD, walkU, srcU, walkE, srcE, walkR1, walkR2, walkS, joinedZ, jconsZ, jnilZ, fmtZ, dgetZ, dinZ, dninZ, bmZ, intZ0, intZ, uintZ, sliceZ, partZ, noPartZ, cutQ, yesZ, Z.lenZ, lenQ, listZ, listHZ, tupleZ, sortedSZ, allZ, anyZ, intZ1, strIZ, mulSZ, addZ, repHZ, repZ, appendZ, extendZ, insertZ, countSZ, joinZ, isBlZ, inZ, isOwnQ, eqZ_int, eqZ_str, eqZ_bl, neZ_int, neZ_str, neZ_bl, lenOwnZ, strOwnZ, reprZ, wipeE, kwD, List.set_cons_zero, List.set_cons_succ, List.getElem?_cons_zero, List.getElem?_cons_succ, List.map_cons, List.map_nil, List.cons_append, List.nil_append, List.append_nil, List.length_cons, List.length_nil, Nat.reduceAdd, Nat.reduceSub, List.replicate_succ, List.replicate_zero, if_true, if_false, Bool.false_eq_true, Nat.zero_add, tget _ u hu]
        refine ⟨⟨by omega, by omega, by decide⟩, ?_⟩
        rw [bor_pow]
        refine setTab (at_new _ _) hu hv (hK _ _ ⟨rfl, ?_⟩)
        rw [set_new]
      obtain ⟨rfl, rfl⟩ := hP
      simp only [bodyZ, asgG, dropG, retG, retNG, ifG, skipG, augG, parG, par3G, frzG, setFldG, asgTG, forG, nameT, tupT, consT, nilT, subT, attrT, varZ, cZ, binZ, unZ, caZ, boolZ, andZ, orZ, notZ, andV, orV, notV, ifZ, chainZ, nilZ, consZ, tupZ, lstZ, lstHZ, callZ, methZ, makeZ, makeNZ, fldZ, frzE, deepE, lcZ, dcZ, dispZ, pnilZ, pconsZ, oneD, walkU, srcU, walkE, srcE, walkR1, walkR2, walkS, joinedZ, jconsZ, jnilZ, fmtZ, dgetZ, dinZ, dninZ, bmZ, intZ0, intZ, uintZ, sliceZ, partZ, noPartZ, cutQ, yesZ, Z.lenZ, lenQ, listZ, listHZ, tupleZ, sortedSZ, allZ, anyZ, intZ1, strIZ, mulSZ, addZ, repHZ, repZ, appendZ, extendZ, insertZ, countSZ, joinZ, isBlZ, inZ, isOwnQ, eqZ_int, eqZ_str, eqZ_bl, neZ_int, neZ_str, neZ_bl, lenOwnZ, strOwnZ, reprZ, wipeE, kwD, List.set_cons_zero, List.set_cons_succ, List.getElem?_cons_zero, List.getElem?_cons_succ, List.map_cons, List.map_nil, List.cons_append, List.nil_append, List.append_nil, List.length_cons, List.length_nil, Nat.reduceAdd, Nat.reduceSub, List.replicate_succ, List.replicate_zero, if_true, if_false, Bool.false_eq_true, Nat.zero_add, tget _ v hv]
      refine ⟨⟨by omega, by omega, by decide⟩, ?_⟩
      rw [bor_pow]
      refine setTab (R := fun a b => relP (ps.take i) a b || (decide (a = u) && decide (b = v))) (at_new _ _) hv hu (hk _ _ ⟨⟨_, _, _, _, _, _, rfl⟩, ?_⟩)
      rw [set_new]
      congr 3
      apply tabD_ext
      intro a b _ _
      have ht : ps.take (i + 1) = ps.take i ++ [(u, v)] := by rw [List.take_succ, hp]; rfl
      unfold relP
      rw [ht]
      by_cases h1 : a = u <;> by_cases h2 : b = v <;> by_cases h3 : a = v <;> by_cases h4 : b = u <;> simp [h1, h2, h3, h4, Prod.ext_iff]
  obtain ⟨⟨a1, b1, c1, d1, e1, f1, rfl⟩, rfl⟩ := hP
  -- the restless
  refine seq_with (fun δ S'' => (∃ b, δ = [some (.hnd n), some nd, some td, some rd, some (.lst (xs.map .str)), a1, b, some (.hnd S2.length), c1, d1, e1, f1]) ∧ S'' = S2 ++ [.lst (tabD M.n fun a b => relP ps a b || (decide (a = b) && decide (a ∈ is)))]) (fun δ S'' hP => ?_) (fun K hK => ?_)
  rotate_left
  · have hsrc : ∀ (T : Store) (Q : List D × (Store → Prop) → Store → Prop), Q ((is.map M.nm).map .str, fun _ => True) T → srcU rd T Q := by
      intro T Q q
      rcases hrd with rfl | rfl
      · exact q
      · exact q
    simp only [forG, walkU, varZ, List.getElem?_cons_zero, List.getElem?_cons_succ]
    refine hsrc _ _ ?_
    refine loop_at _ (fun i δ S'' => (∃ b, δ = [some (.hnd n), some nd, some td, some rd, some (.lst (xs.map .str)), a1, b, some (.hnd S2.length), c1, d1, e1, f1]) ∧ S'' = S2 ++ [.lst (tabD M.n fun a b => relP ps a b || (decide (a = b) && decide (a ∈ is.take i)))]) ⟨⟨_, rfl⟩, ?_⟩ (fun δ S'' hP => ?_) (fun i x δ S'' k hx hP hk => ?_)
    · simp
    · rw [List.length_map, List.length_map, List.take_length] at hP
      exact ⟨trivial, hK _ _ hP⟩
    · obtain ⟨⟨b0, rfl⟩, rfl⟩ := hP
      obtain ⟨u, hu0⟩ : ∃ u, is[i]? = some u := by
        cases q : is[i]? with
        | some u => exact ⟨u, rfl⟩
        | none => rw [List.getElem?_map, List.getElem?_map, q] at hx; cases hx
      rw [List.getElem?_map, List.getElem?_map, hu0] at hx
      cases hx
      have hu : u < M.n := fit.ilt u (List.mem_of_getElem? hu0)
      simp only [nameT, List.set_cons_zero, List.set_cons_succ, true_and]
      refine seq_with (fun δ S'' => δ = [some (.hnd n), some nd, some td, some rd, some (.lst (xs.map .str)), a1, some (.str (M.nm u)), some (.hnd S2.length), c1, d1, e1, f1] ∧ S'' = S2 ++ [.lst (tabD M.n fun a b => relP ps a b || (decide (a = b) && decide (a ∈ is.take i)))]) (fun δ S'' hP => ?_) (fun K hK => ?_)
      rotate_left
      · simp only [bodyZ, asgG, dropG, retG, retNG, ifG, skipG, augG, parG, par3G, frzG, setFldG, asgTG, forG, nameT, tupT, consT, nilT, subT, attrT, varZ, cZ, binZ, unZ, caZ, boolZ, andZ, orZ, notZ, andV, orV, notV, ifZ, chainZ, nilZ, consZ, tupZ, lstZ, lstHZ, callZ, methZ, makeZ, makeNZ, fldZ, frzE, deepE, lcZ, dcZ, dispZ, pnilZ, pconsZ, oneD, walkU, srcU, walkE, srcE, walkR1, walkR2, walkS, joinedZ, jconsZ, jnilZ, fmtZ, dgetZ, dinZ, dninZ, bmZ, intZ0, intZ, uintZ, sliceZ, partZ, noPartZ, cutQ, yesZ, Z.lenZ, lenQ, listZ, listHZ, tupleZ, sortedSZ, allZ, anyZ, intZ1, strIZ, mulSZ, addZ, repHZ, repZ, appendZ, extendZ, insertZ, countSZ, joinZ, isBlZ, inZ, isOwnQ, eqZ_int, eqZ_str, eqZ_bl, neZ_int, neZ_str, neZ_bl, lenOwnZ, strOwnZ, reprZ, wipeE, kwD, List.set_cons_zero, List.set_cons_succ, List.getElem?_cons_zero, List.getElem?_cons_succ, List.map_cons, List.map_nil, List.cons_append, List.nil_append, List.append_nil, List.length_cons, List.length_nil, Nat.reduceAdd, Nat.reduceSub, List.replicate_succ, List.replicate_zero, if_true, if_false, Bool.false_eq_true, Nat.zero_add, insOf_at (hT _)]
        refine ⟨_, _, rfl, v2_places M, _, _, rfl, rfl, ?_⟩
        rw [pl_get ok hu]
        exact hK _ _ ⟨rfl, rfl⟩
      obtain ⟨rfl, rfl⟩ := hP
      simp only [bodyZ, asgG, dropG, retG, retNG, ifG, skipG, augG, parG, par3G, frzG, setFldG, asgTG, forG, nameT, tupT, consT, nilT, subT, attrT, varZ, cZ, binZ, unZ, caZ, boolZ, andZ, orZ, notZ, andV, orV, notV, ifZ, chainZ, nilZ, consZ, tupZ, lstZ, lstHZ, callZ, methZ, makeZ, makeNZ, fldZ, frzE, deepE, lcZ, dcZ, dispZ, pnilZ, pconsZ, oneD, walkU, srcU, walkE, srcE, walkR1, walkR2, walkS, joinedZ, jconsZ, jnilZ, fmtZ, dgetZ, dinZ, dninZ, bmZ, intZ0, intZ, uintZ, sliceZ, partZ, noPartZ, cutQ, yesZ, Z.lenZ, lenQ, listZ, listHZ, tupleZ, sortedSZ, allZ, anyZ, intZ1, strIZ, mulSZ, addZ, repHZ, repZ, appendZ, extendZ, insertZ, countSZ, joinZ, isBlZ, inZ, isOwnQ, eqZ_int, eqZ_str, eqZ_bl, neZ_int, neZ_str, neZ_bl, lenOwnZ, strOwnZ, reprZ, wipeE, kwD, List.set_cons_zero, List.set_cons_succ, List.getElem?_cons_zero, List.getElem?_cons_succ, List.map_cons, List.map_nil, List.cons_append, List.nil_append, List.append_nil, List.length_cons, List.length_nil, Nat.reduceAdd, Nat.reduceSub, List.replicate_succ, List.replicate_zero, if_true, if_false, Bool.false_eq_true, Nat.zero_add]
      refine ⟨_, _, insOf_at (hT _), v2_places M, _, _, _, rfl, rfl, pl_get ok hu, ?_⟩
      rw [tget _ u hu]
      refine ⟨_, _, insOf_at (hT _), v2_places M, _, _, _, rfl, rfl, pl_get ok hu, ⟨by omega, by omega, by decide⟩, ?_⟩
      simp only [intZ0]
      rw [bor_pow]
      refine ⟨_, _, insOf_at (hT _), v2_places M, _, _, _, rfl, rfl, pl_get ok hu, ?_⟩
      refine setTab (R := fun a b => relP ps a b || (decide (a = b) && decide (a ∈ is.take i))) (at_new _ _) hu hu (hk _ _ ⟨⟨_, rfl⟩, ?_⟩)
      rw [set_new]
      congr 3
      apply tabD_ext
      intro a b _ _
      have ht : is.take (i + 1) = is.take i ++ [u] := by rw [List.take_succ, hu0]; rfl
      rw [ht]
      by_cases h1 : a = u <;> by_cases h2 : b = u <;> by_cases h3 : a = b <;> simp [h1, h2, h3] <;> first | omega | (subst_vars; simp_all) | skip
  obtain ⟨⟨b2, rfl⟩, rfl⟩ := hP
  -- the end
  have hR : tabD M.n (fun a b => relP ps a b || (decide (a = b) && decide (a ∈ is))) = tabD M.n M.R := by
    apply tabD_ext
    intro a b ha hb
    by_cases hab : a = b
    · subst hab
      have h1 : relP ps a a = false := by
        unfold relP
        have : ¬ (a, a) ∈ ps := fun hm => (fit.lt _ hm).2.2 rfl
        simp [this]
      rw [h1, decide_eq_true rfl, Bool.false_or, Bool.true_and]
      have := fit.rest a ha
      cases hRa : M.R a a with
      | true => exact decide_eq_true (this.mp hRa)
      | false => exact decide_eq_false fun hm => by have z := this.mpr hm; rw [hRa] at z; cases z
    · rw [decide_eq_false hab, Bool.false_and, Bool.or_false]
      have := fit.ties a b ha hb hab
      unfold relP
      cases hRa : M.R a b with
      | true =>
        rcases this.mp hRa with hm | hm
        · rw [decide_eq_true hm]; rfl
        · rw [decide_eq_true hm, Bool.or_true]
      | false =>
        rw [decide_eq_false fun hm => (by have z := this.mpr (.inl hm); rw [hRa] at z; cases z), decide_eq_false fun hm => (by have z := this.mpr (.inr hm); rw [hRa] at z; cases z)]
        rfl
  rw [hR]
  simp only [bodyZ, asgG, dropG, retG, retNG, ifG, skipG, augG, parG, par3G, frzG, setFldG, asgTG, forG, nameT, tupT, consT, nilT, subT, attrT, varZ, cZ, binZ, unZ, caZ, boolZ, andZ, orZ, notZ, andV, orV, notV, ifZ, chainZ, nilZ, consZ, tupZ, lstZ, lstHZ, callZ, methZ, makeZ, makeNZ, fldZ, frzE, deepE, lcZ, dcZ, dispZ, pnilZ, pconsZ, oneD, walkU, srcU, walkE, srcE, walkR1, walkR2, walkS, joinedZ, jconsZ, jnilZ, fmtZ, dgetZ, dinZ, dninZ, bmZ, intZ0, intZ, uintZ, sliceZ, partZ, noPartZ, cutQ, yesZ, Z.lenZ, lenQ, listZ, listHZ, tupleZ, sortedSZ, allZ, anyZ, intZ1, strIZ, mulSZ, addZ, repHZ, repZ, appendZ, extendZ, insertZ, countSZ, joinZ, isBlZ, inZ, isOwnQ, eqZ_int, eqZ_str, eqZ_bl, neZ_int, neZ_str, neZ_bl, lenOwnZ, strOwnZ, reprZ, wipeE, kwD, List.set_cons_zero, List.set_cons_succ, List.getElem?_cons_zero, List.getElem?_cons_succ, List.map_cons, List.map_nil, List.cons_append, List.nil_append, List.append_nil, List.length_cons, List.length_nil, Nat.reduceAdd, Nat.reduceSub, List.replicate_succ, List.replicate_zero, if_true, if_false, Bool.false_eq_true, Nat.zero_add]
  refine ⟨_, seqOf_at (at_new _ _), F2 M, hT _, by show 2 < 1000; decide, ?_⟩
  rw [f3_put, set_app (by rw [hl2]; exact hlt), ← hS2e, List.set_set]
  refine end_new (List.length_set) (fun m c hc => ?_) trivial h
  by_cases hm : n = m
  · subst hm
    rw [List.getElem?_set_self hlt] at hc
    cases hc
    exact .inr (scK_of (fl_flds M))
  · rw [List.getElem?_set_ne hm] at hc
    exact .inl hc
end
end K01
namespace K01
open PySem L2 Z
section
variable (α : Ad) (ds : List D) (S : Store) (Q : D → Store → Prop) (E : XD → Store → Prop)
theorem seqOf_app {S T : Store} {d : D} {l : List D} (h : seqOf S d = some l) : seqOf (S ++ T) d = some l := by
  cases d with
  | hnd n =>
    simp only [seqOf] at h ⊢
    cases hc : S[n]? with
    | none => rw [hc] at h; cases h
    | some c =>
      rw [at_app hc]
      rw [hc] at h
      exact h
  | _ => exact h
theorem ok_bare {M : Md} (ok : Md.Ok M) : Md.Ok ⟨M.ns, fun _ _ => false⟩ := ⟨ok.few, ok.nd, ok.srt, ok.okn, fun _ _ => rfl⟩
theorem fit_bare (ns : List Str) : Fit ⟨ns, fun _ _ => false⟩ [] [] := ⟨fun p h => (by cases h), .nil, fun i j _ _ _ => by simp, fun i h => (by cases h), fun i _ => by simp⟩
theorem put_tab {M M' : Md} (h : M'.ns = M.ns) : putFD (.inr "table") (.tup ((tabM M').map fun m => .int (m : Nat))) (fldsM M) = fldsM M' := by
  unfold fldsM
  rw [putFD_miss (by decide +kernel), putFD_miss (by decide +kernel), putFD_hit, h]
theorem s_made (hl : ds.length = 2) (h : m_made α ds S Q E) : bodyZ 3 (g_made α) ds S (frzQ S Q) E := by
  obtain ⟨M, M', t, ok, rfl, hns, ht, h⟩ := h
  unfold bodyZ g_made
  refine seq_with (fun δ S' => δ = [some (.tup (M.ns.map .str)), some t, some (.hnd S.length)] ∧ S' = S ++ [.ins α.Company (fldsM ⟨M.ns, fun _ _ => false⟩)]) (fun δ S' hP => ?_) (fun K hK => ?_)
  · obtain ⟨rfl, rfl⟩ := hP
    simp only [bodyZ, asgG, dropG, retG, retNG, ifG, skipG, augG, parG, par3G, frzG, setFldG, asgTG, forG, nameT, tupT, consT, nilT, subT, attrT, varZ, cZ, binZ, unZ, caZ, boolZ, andZ, orZ, notZ, andV, orV, notV, ifZ, chainZ, nilZ, consZ, tupZ, lstZ, lstHZ, callZ, methZ, makeZ, makeNZ, fldZ, frzE, deepE, lcZ, dcZ, dispZ, pnilZ, pconsZ, oneD, walkU, srcU, walkE, srcE, walkR1, walkR2, walkS, joinedZ, jconsZ, jnilZ, fmtZ, dgetZ, dinZ, dninZ, bmZ, intZ0, intZ, uintZ, sliceZ, partZ, noPartZ, cutQ, yesZ, Z.lenZ, lenQ, listZ, listHZ, tupleZ, sortedSZ, allZ, anyZ, intZ1, strIZ, mulSZ, addZ, repHZ, repZ, appendZ, extendZ, insertZ, countSZ, joinZ, isBlZ, inZ, isOwnQ, eqZ_int, eqZ_str, eqZ_bl, neZ_int, neZ_str, neZ_bl, lenOwnZ, strOwnZ, reprZ, wipeE, kwD, List.set_cons_zero, List.set_cons_succ, List.getElem?_cons_zero, List.getElem?_cons_succ, List.map_cons, List.map_nil, List.cons_append, List.nil_append, List.append_nil, List.length_cons, List.length_nil, Nat.reduceAdd, Nat.reduceSub, List.replicate_succ, List.replicate_zero, if_true, if_false, Bool.false_eq_true, Nat.zero_add, seqG]
    refine ⟨_, seqOf_app ht, _, at_new _ _, by show 3 < 1000; decide, .inl ?_⟩
    rw [set_new, put_tab (M' := M') (by rw [hns])]
    exact frz_ins (fl_flds M') h
  · simp only [bodyZ, asgG, dropG, retG, retNG, ifG, skipG, augG, parG, par3G, frzG, setFldG, asgTG, forG, nameT, tupT, consT, nilT, subT, attrT, varZ, cZ, binZ, unZ, caZ, boolZ, andZ, orZ, notZ, andV, orV, notV, ifZ, chainZ, nilZ, consZ, tupZ, lstZ, lstHZ, callZ, methZ, makeZ, makeNZ, fldZ, frzE, deepE, lcZ, dcZ, dispZ, pnilZ, pconsZ, oneD, walkU, srcU, walkE, srcE, walkR1, walkR2, walkS, joinedZ, jconsZ, jnilZ, fmtZ, dgetZ, dinZ, dninZ, bmZ, intZ0, intZ, uintZ, sliceZ, partZ, noPartZ, cutQ, yesZ, Z.lenZ, lenQ, listZ, listHZ, tupleZ, sortedSZ, allZ, anyZ, intZ1, strIZ, mulSZ, addZ, repHZ, repZ, appendZ, extendZ, insertZ, countSZ, joinZ, isBlZ, inZ, isOwnQ, eqZ_int, eqZ_str, eqZ_bl, neZ_int, neZ_str, neZ_bl, lenOwnZ, strOwnZ, reprZ, wipeE, kwD, List.set_cons_zero, List.set_cons_succ, List.getElem?_cons_zero, List.getElem?_cons_succ, List.map_cons, List.map_nil, List.cons_append, List.nil_append, List.append_nil, List.length_cons, List.length_nil, Nat.reduceAdd, Nat.reduceSub, List.replicate_succ, List.replicate_zero, if_true, if_false, Bool.false_eq_true, Nat.zero_add, d0_Company_2]
    refine ⟨trivial, S.length, _, _, _, ⟨M.ns, fun _ _ => false⟩, M.ns, [], [], rfl, ok_bare ok, rfl, List.Perm.refl _, .inr rfl, .inr rfl, fit_bare _, at_new _ _, rfl, ?_⟩
    rw [set_new]
    exact hK _ _ ⟨rfl, rfl⟩
theorem s_Company_rest_turned (hl : ds.length = 2) (h : m_Company_rest_turned α ds S Q E) : bodyZ 4 (g_Company_rest_turned α) ds S Q E := by
  obtain ⟨M, i, ok, hi, rfl, h⟩ := h
  have hn' : M.n ≤ 16 := ok.few
  simp only [g_Company_rest_turned, bodyZ, asgG, dropG, retG, retNG, ifG, skipG, augG, parG, par3G, frzG, setFldG, asgTG, forG, nameT, tupT, consT, nilT, subT, attrT, varZ, cZ, binZ, unZ, caZ, boolZ, andZ, orZ, notZ, andV, orV, notV, ifZ, chainZ, nilZ, consZ, tupZ, lstZ, lstHZ, callZ, methZ, makeZ, makeNZ, fldZ, frzE, deepE, lcZ, dcZ, dispZ, pnilZ, pconsZ, oneD, walkU, srcU, walkE, srcE, walkR1, walkR2, walkS, joinedZ, jconsZ, jnilZ, fmtZ, dgetZ, dinZ, dninZ, bmZ, intZ0, intZ, uintZ, sliceZ, partZ, noPartZ, cutQ, yesZ, Z.lenZ, lenQ, listZ, listHZ, tupleZ, sortedSZ, allZ, anyZ, intZ1, strIZ, mulSZ, addZ, repHZ, repZ, appendZ, extendZ, insertZ, countSZ, joinZ, isBlZ, inZ, isOwnQ, eqZ_int, eqZ_str, eqZ_bl, neZ_int, neZ_str, neZ_bl, lenOwnZ, strOwnZ, reprZ, wipeE, kwD, List.set_cons_zero, List.set_cons_succ, List.getElem?_cons_zero, List.getElem?_cons_succ, List.map_cons, List.map_nil, List.cons_append, List.nil_append, List.append_nil, List.length_cons, List.length_nil, Nat.reduceAdd, Nat.reduceSub, List.replicate_succ, List.replicate_zero, if_true, if_false, Bool.false_eq_true, Nat.zero_add, seqG]
  refine ⟨⟨_, rfl, val_no M (by decide +kernel) (by decide +kernel) (by decide +kernel)⟩, trivial, M, i, ok, hi, rfl, ?_⟩
  refine ⟨_, _, rfl, val_table M, _, rfl, ?_⟩
  rw [tabM_D, getZ_hnd (at_new _ _) (tabD_at hi)]
  simp only [bodyZ, asgG, dropG, retG, retNG, ifG, skipG, augG, parG, par3G, frzG, setFldG, asgTG, forG, nameT, tupT, consT, nilT, subT, attrT, varZ, cZ, binZ, unZ, caZ, boolZ, andZ, orZ, notZ, andV, orV, notV, ifZ, chainZ, nilZ, consZ, tupZ, lstZ, lstHZ, callZ, methZ, makeZ, makeNZ, fldZ, frzE, deepE, lcZ, dcZ, dispZ, pnilZ, pconsZ, oneD, walkU, srcU, walkE, srcE, walkR1, walkR2, walkS, joinedZ, jconsZ, jnilZ, fmtZ, dgetZ, dinZ, dninZ, bmZ, intZ0, intZ, uintZ, sliceZ, partZ, noPartZ, cutQ, yesZ, Z.lenZ, lenQ, listZ, listHZ, tupleZ, sortedSZ, allZ, anyZ, intZ1, strIZ, mulSZ, addZ, repHZ, repZ, appendZ, extendZ, insertZ, countSZ, joinZ, isBlZ, inZ, isOwnQ, eqZ_int, eqZ_str, eqZ_bl, neZ_int, neZ_str, neZ_bl, lenOwnZ, strOwnZ, reprZ, wipeE, kwD, List.set_cons_zero, List.set_cons_succ, List.getElem?_cons_zero, List.getElem?_cons_succ, List.map_cons, List.map_nil, List.cons_append, List.nil_append, List.append_nil, List.length_cons, List.length_nil, Nat.reduceAdd, Nat.reduceSub, List.replicate_succ, List.replicate_zero, if_true, if_false, Bool.false_eq_true, Nat.zero_add]
  refine ⟨⟨by omega, by omega, by decide⟩, ?_⟩
  rw [bxor_pow]
  refine setBag (at_new _ _) (by unfold tabD; simpa using hi) ?_
  rw [set_new, tabD_xor hi]
  refine ⟨_, _, rfl, val_folk M, trivial, M, turnM M i, _, ok, rfl, rfl, ?_, end_same (fl_co α _ _) h⟩
  rw [tabM_D]
  exact seqOf_at (at_new _ _)
theorem perm_map_inv {β γ : Type} (f : β → γ) {l' : List γ} {m : List γ} (h : l'.Perm m) : ∀ l : List β, m = l.map f → ∃ k : List β, l' = k.map f ∧ k.Perm l := by
  induction h with
  | nil =>
    intro l hl
    cases l with
    | nil => exact ⟨[], rfl, .nil⟩
    | cons a l => cases hl
  | cons x _ ih =>
    intro l hl
    cases l with
    | nil => cases hl
    | cons a l =>
      rw [List.map_cons] at hl
      cases hl
      obtain ⟨k, rfl, hk⟩ := ih l rfl
      exact ⟨a :: k, rfl, .cons a hk⟩
  | swap x y l0 =>
    intro l hl
    match l, hl with
    | a :: b :: l, hl =>
      rw [List.map_cons, List.map_cons] at hl
      cases hl
      exact ⟨b :: a :: l, rfl, .swap a b l⟩
  | trans _ _ ih1 ih2 =>
    intro l hl
    obtain ⟨k, hk, hp⟩ := ih2 l hl
    obtain ⟨k', hk', hp'⟩ := ih1 k hk
    exact ⟨k', hk', hp'.trans hp⟩
theorem tiesI_nodup (M : Md) : (tiesI M).Nodup := by
  unfold tiesI tiesTo
  show List.Pairwise (· ≠ ·) _
  rw [List.pairwise_flatMap]
  refine ⟨fun i _ => ?_, ?_⟩
  · unfold rowI
    rw [List.pairwise_map]
    exact (List.nodup_range.filter _).imp fun h e => h (congrArg Prod.snd e)
  · refine List.nodup_range.imp fun {a b} hab x hx y hy e => ?_
    unfold rowI at hx hy
    obtain ⟨u, _, rfl⟩ := List.mem_map.mp hx
    obtain ⟨v, _, rfl⟩ := List.mem_map.mp hy
    exact hab (congrArg Prod.fst e)
theorem mem_tiesI {M : Md} {i k : Nat} (hk : k < M.n) (hik : i < k) (hR : M.R i k = true) : (i, k) ∈ tiesI M := by
  unfold tiesI tiesTo rowI
  refine List.mem_flatMap.mpr ⟨i, List.mem_range.mpr (Nat.lt_trans hik hk), List.mem_map.mpr ⟨k, List.mem_filter.mpr ⟨List.mem_range.mpr hk, ?_⟩, rfl⟩⟩
  rw [decide_eq_true hik, hR]
  rfl
/-- ties that may be turned round -/
def SwOf (qs ps : List (Nat × Nat)) : Prop := ps.length = qs.length ∧ ∀ (j : Nat) (p q : Nat × Nat), ps[j]? = some p → qs[j]? = some q → p = q ∨ p = (q.2, q.1)
theorem fit_sw {M : Md} (ok : Md.Ok M) {ps ps' : List (Nat × Nat)} (hsw : SwOf (tiesI M) ps) (hp : ps'.Perm ps) {is : List Nat} (his : ∀ i, i ∈ is ↔ i ∈ restI M) : Fit M ps' is := by
  obtain ⟨hlen, hsw⟩ := hsw
  have hm : ∀ p ∈ ps, ∃ q ∈ tiesI M, p = q ∨ p = (q.2, q.1) := by
    intro p hp
    obtain ⟨j, hj⟩ := List.getElem?_of_mem hp
    have hjl : j < (tiesI M).length := by rw [← hlen]; exact (List.getElem?_eq_some_iff.mp hj).1
    exact ⟨_, List.getElem_mem hjl, hsw j p _ hj (List.getElem?_eq_getElem hjl)⟩
  have hm2 : ∀ q ∈ tiesI M, q ∈ ps ∨ (q.2, q.1) ∈ ps := by
    intro q hq
    obtain ⟨j, hj⟩ := List.getElem?_of_mem hq
    have hjl : j < ps.length := by rw [hlen]; exact (List.getElem?_eq_some_iff.mp hj).1
    rcases hsw j _ q (List.getElem?_eq_getElem hjl) hj with e | e
    · exact .inl (e ▸ List.getElem_mem hjl)
    · exact .inr (e ▸ List.getElem_mem hjl)
  have once : ps.Pairwise fun p q => p ≠ q ∧ p ≠ (q.2, q.1) := by
    rw [List.pairwise_iff_getElem]
    intro i j hi hj hij
    have hi' : i < (tiesI M).length := by rw [← hlen]; exact hi
    have hj' : j < (tiesI M).length := by rw [← hlen]; exact hj
    have h1 := hsw i _ _ (List.getElem?_eq_getElem hi) (List.getElem?_eq_getElem hi')
    have h2 := hsw j _ _ (List.getElem?_eq_getElem hj) (List.getElem?_eq_getElem hj')
    have hne : (tiesI M)[i] ≠ (tiesI M)[j] := (List.pairwise_iff_getElem.mp (tiesI_nodup M)) i j hi' hj' hij
    have l1 := (tiesI_lt (List.getElem_mem hi')).1
    have l2 := (tiesI_lt (List.getElem_mem hj')).1
    generalize (tiesI M)[i] = a at *
    generalize (tiesI M)[j] = b at *
    obtain ⟨a1, a2⟩ := a
    obtain ⟨b1, b2⟩ := b
    have hne' : ¬ (a1 = b1 ∧ a2 = b2) := fun ⟨e1, e2⟩ => hne (by rw [e1, e2])
    simp only at l1 l2
    rcases h1 with e1 | e1 <;> rcases h2 with e2 | e2 <;> rw [e1, e2] <;> simp only [ne_eq, Prod.mk.injEq] <;> omega
  refine ⟨fun p hp' => ?_, hp.symm.pairwise once fun {x y} ⟨h1, h2⟩ => ⟨fun e => h1 e.symm, fun e => h2 (by rw [e])⟩, fun i j hi hj hij => ?_, fun i hi => ?_, fun i hi => ?_⟩
  · obtain ⟨q, hq, e⟩ := hm p (hp.mem_iff.mp hp')
    obtain ⟨a1, a2, _⟩ := tiesI_lt hq
    rcases e with rfl | rfl
    · exact ⟨Nat.lt_trans a1 a2, a2, Nat.ne_of_lt a1⟩
    · exact ⟨a2, Nat.lt_trans a1 a2, Nat.ne_of_gt a1⟩
  · constructor
    · intro hR
      rcases Nat.lt_or_gt_of_ne hij with h | h
      · rcases hm2 _ (mem_tiesI hj h hR) with e | e
        · exact .inl (hp.mem_iff.mpr e)
        · exact .inr (hp.mem_iff.mpr e)
      · rcases hm2 _ (mem_tiesI hi h (by rw [ok.sym]; exact hR)) with e | e
        · exact .inr (hp.mem_iff.mpr e)
        · exact .inl (hp.mem_iff.mpr e)
    · intro h
      have key : ∀ p : Nat × Nat, p ∈ ps' → M.R p.1 p.2 = true := by
        intro p hp'
        obtain ⟨q, hq, e⟩ := hm p (hp.mem_iff.mp hp')
        obtain ⟨_, _, a3⟩ := tiesI_lt hq
        rcases e with rfl | rfl
        · exact a3
        · rw [ok.sym]; exact a3
      rcases h with h | h
      · exact key _ h
      · rw [ok.sym]; exact key _ h
  · exact List.mem_range.mp (List.mem_filter.mp ((his i).mp hi)).1
  · rw [his]
    unfold restI
    constructor
    · intro hR
      exact List.mem_filter.mpr ⟨List.mem_range.mpr hi, hR⟩
    · intro h
      exact (List.mem_filter.mp h).2
theorem fl_perm {l l' : List D} (h : l'.Perm l) (hf : ∀ d ∈ l, Fl d) : ∀ d ∈ l', Fl d := fun d hd => hf d (h.mem_iff.mp hd)
theorem s__law_built (hl : ds.length = 2) (h : m__law_built α ds S Q E) : bodyZ 6 (g__law_built α) ds S Q E := by
  obtain ⟨n, M, ok, rfl, hS, h⟩ := h
  have hn : M.ns.length ≤ 16 := ok.few
  have hn' : M.n ≤ 16 := ok.few
  simp only [g__law_built, bodyZ, asgG, dropG, retG, retNG, ifG, skipG, augG, parG, par3G, frzG, setFldG, asgTG, forG, nameT, tupT, consT, nilT, subT, attrT, varZ, cZ, binZ, unZ, caZ, boolZ, andZ, orZ, notZ, andV, orV, notV, ifZ, chainZ, nilZ, consZ, tupZ, lstZ, lstHZ, callZ, methZ, makeZ, makeNZ, fldZ, frzE, deepE, lcZ, dcZ, dispZ, pnilZ, pconsZ, oneD, walkU, srcU, walkE, srcE, walkR1, walkR2, walkS, joinedZ, jconsZ, jnilZ, fmtZ, dgetZ, dinZ, dninZ, bmZ, intZ0, intZ, uintZ, sliceZ, partZ, noPartZ, cutQ, yesZ, Z.lenZ, lenQ, listZ, listHZ, tupleZ, sortedSZ, allZ, anyZ, intZ1, strIZ, mulSZ, addZ, repHZ, repZ, appendZ, extendZ, insertZ, countSZ, joinZ, isBlZ, inZ, isOwnQ, eqZ_int, eqZ_str, eqZ_bl, neZ_int, neZ_str, neZ_bl, lenOwnZ, strOwnZ, reprZ, wipeE, kwD, List.set_cons_zero, List.set_cons_succ, List.getElem?_cons_zero, List.getElem?_cons_succ, List.map_cons, List.map_nil, List.cons_append, List.nil_append, List.append_nil, List.length_cons, List.length_nil, Nat.reduceAdd, Nat.reduceSub, List.replicate_succ, List.replicate_zero, if_true, if_false, Bool.false_eq_true, Nat.zero_add, seqG]
  refine ⟨trivial, M, ok, rfl, ?_⟩
  have htl : (tiesD M).length = (tiesI M).length := by unfold tiesD; rw [List.length_map]
  refine lc_ind _ (fun i T => ∃ ps : List (Nat × Nat), T = S ++ [.lst (ps.map M.pr)] ∧ SwOf ((tiesI M).take i) ps) ⟨[], rfl, by simp, fun j p q hj => by simp at hj⟩ (fun T hP => ?_) (fun i x T k hx hP hk => ?_)
  · obtain ⟨ps, rfl, hsw⟩ := hP
    rw [htl, List.take_length] at hsw
    refine ⟨trivial, _, _, _, rfl, at_new _ _, rfl, ?_⟩
    rw [set_new]
    have hT : (S ++ [C.dead])[n]? = some (.abs BagOk) := at_app hS
    have few := tiesI_len ok
    have hpl : ps.length ≤ 256 := by rw [hsw.1]; exact few
    refine ⟨trivial, M, ok, rfl, frz_lst (Fl.strs _) ?_⟩
    refine ⟨_, _, _, dic_enc M _, rfl, val_names M, trivial, n, _, rfl, hT, by rw [List.length_map]; omega, fun l1 p1 => frz_lst (fl_perm p1 (Fl.strs _)) ?_⟩
    refine ⟨trivial, n, _, rfl, hT, by rw [List.length_map]; omega, fun l2 p2 => frz_lst (fl_perm p2 (Fl.map fun _ => fl_pr M _)) ?_⟩
    have hrl : (restS M).length ≤ 16 := by unfold restS restI; rw [List.length_map]; exact Nat.le_trans (filt_len _ _) hn'
    refine ⟨trivial, n, _, rfl, hT, by rw [List.length_map]; omega, fun l3 p3 => frz_lst (fl_perm p3 (Fl.strs _)) ?_⟩
    obtain ⟨xs, rfl, hx⟩ := perm_map_inv D.str p1 _ rfl
    obtain ⟨ps', rfl, hps⟩ := perm_map_inv M.pr p2 _ rfl
    have e3 : (restS M).map D.str = (restI M).map fun i => D.str (M.nm i) := by unfold restS; rw [List.map_map]; rfl
    obtain ⟨is, rfl, his⟩ := perm_map_inv (fun i => D.str (M.nm i)) (e3 ▸ p3) _ rfl
    refine ⟨trivial, trivial, trivial, (S ++ [C.dead]).length, _, _, _, M, xs, ps', is, rfl, ok, rfl, hx, .inl rfl, .inl ?_, fit_sw ok hsw hps fun i => his.mem_iff, at_new _ _, rfl, ?_⟩
    · rw [List.map_map]; rfl
    · rw [set_new]
      exact frz_ins (fl_flds M) (end_same (fl_co α M _) h)
  · obtain ⟨ps, rfl, hsw⟩ := hP
    have hi : i < (tiesI M).length := by have := (List.getElem?_eq_some_iff.mp hx).1; rwa [htl] at this
    unfold tiesD at hx
    rw [List.getElem?_map, List.getElem?_eq_getElem hi] at hx
    cases hx
    have few := tiesI_len ok
    have hpl : ps.length = i := by rw [hsw.1, List.length_take]; omega
    have ht : (tiesI M).take (i + 1) = (tiesI M).take i ++ [(tiesI M)[i]] := by rw [List.take_succ, List.getElem?_eq_getElem hi]; rfl
    have nxt : ∀ p : Nat × Nat, p = (tiesI M)[i] ∨ p = ((tiesI M)[i].2, (tiesI M)[i].1) → SwOf ((tiesI M).take (i + 1)) (ps ++ [p]) := by
      intro p hp
      rw [ht]
      refine ⟨by rw [List.length_append, List.length_append, hsw.1]; rfl, fun j p' q' h1 h2 => ?_⟩
      have hlt : ((tiesI M).take i).length = i := by rw [List.length_take]; omega
      by_cases hj : j < i
      · rw [List.getElem?_append_left (by omega)] at h1 h2
        exact hsw.2 j p' q' h1 h2
      · rw [List.getElem?_append_right (by omega)] at h1 h2
        rw [hpl] at h1
        rw [hlt] at h2
        cases q : j - i with
        | zero =>
          rw [q] at h1 h2
          cases h1
          cases h2
          exact hp
        | succ m => rw [q] at h1; simp at h1
    simp only [bodyZ, asgG, dropG, retG, retNG, ifG, skipG, augG, parG, par3G, frzG, setFldG, asgTG, forG, nameT, tupT, consT, nilT, subT, attrT, varZ, cZ, binZ, unZ, caZ, boolZ, andZ, orZ, notZ, andV, orV, notV, ifZ, chainZ, nilZ, consZ, tupZ, lstZ, lstHZ, callZ, methZ, makeZ, makeNZ, fldZ, frzE, deepE, lcZ, dcZ, dispZ, pnilZ, pconsZ, oneD, walkU, srcU, walkE, srcE, walkR1, walkR2, walkS, joinedZ, jconsZ, jnilZ, fmtZ, dgetZ, dinZ, dninZ, bmZ, intZ0, intZ, uintZ, sliceZ, partZ, noPartZ, cutQ, yesZ, Z.lenZ, lenQ, listZ, listHZ, tupleZ, sortedSZ, allZ, anyZ, intZ1, strIZ, mulSZ, addZ, repHZ, repZ, appendZ, extendZ, insertZ, countSZ, joinZ, isBlZ, inZ, isOwnQ, eqZ_int, eqZ_str, eqZ_bl, neZ_int, neZ_str, neZ_bl, lenOwnZ, strOwnZ, reprZ, wipeE, kwD, List.set_cons_zero, List.set_cons_succ, List.getElem?_cons_zero, List.getElem?_cons_succ, List.map_cons, List.map_nil, List.cons_append, List.nil_append, List.append_nil, List.length_cons, List.length_nil, Nat.reduceAdd, Nat.reduceSub, List.replicate_succ, List.replicate_zero, if_true, if_false, Bool.false_eq_true, Nat.zero_add, Md.pr]
    refine ⟨trivial, trivial, trivial, n, 2, rfl, at_app hS, by decide, by decide, fun r r0 r1 => ?_⟩
    simp only [bodyZ, asgG, dropG, retG, retNG, ifG, skipG, augG, parG, par3G, frzG, setFldG, asgTG, forG, nameT, tupT, consT, nilT, subT, attrT, varZ, cZ, binZ, unZ, caZ, boolZ, andZ, orZ, notZ, andV, orV, notV, ifZ, chainZ, nilZ, consZ, tupZ, lstZ, lstHZ, callZ, methZ, makeZ, makeNZ, fldZ, frzE, deepE, lcZ, dcZ, dispZ, pnilZ, pconsZ, oneD, walkU, srcU, walkE, srcE, walkR1, walkR2, walkS, joinedZ, jconsZ, jnilZ, fmtZ, dgetZ, dinZ, dninZ, bmZ, intZ0, intZ, uintZ, sliceZ, partZ, noPartZ, cutQ, yesZ, Z.lenZ, lenQ, listZ, listHZ, tupleZ, sortedSZ, allZ, anyZ, intZ1, strIZ, mulSZ, addZ, repHZ, repZ, appendZ, extendZ, insertZ, countSZ, joinZ, isBlZ, inZ, isOwnQ, eqZ_int, eqZ_str, eqZ_bl, neZ_int, neZ_str, neZ_bl, lenOwnZ, strOwnZ, reprZ, wipeE, kwD, List.set_cons_zero, List.set_cons_succ, List.getElem?_cons_zero, List.getElem?_cons_succ, List.map_cons, List.map_nil, List.cons_append, List.nil_append, List.append_nil, List.length_cons, List.length_nil, Nat.reduceAdd, Nat.reduceSub, List.replicate_succ, List.replicate_zero, if_true, if_false, Bool.false_eq_true, Nat.zero_add]
    by_cases hr : r = 0
    · rw [decide_eq_true hr]
      simp only [if_true]
      refine ⟨by decide, _, at_new _ _, by rw [List.length_map]; omega, hk _ ⟨ps ++ [(tiesI M)[i]], ?_, nxt _ (.inl rfl)⟩⟩
      rw [set_new, List.map_append]
      rfl
    · rw [decide_eq_false hr]
      simp only [Bool.false_eq_true, if_false]
      refine ⟨by decide, _, at_new _ _, by rw [List.length_map]; omega, hk _ ⟨ps ++ [((tiesI M)[i].2, (tiesI M)[i].1)], ?_, nxt _ (.inr rfl)⟩⟩
      rw [set_new, List.map_append]
      rfl
end
end K01
namespace K01
open PySem L2 Z
section
variable (α : Ad) (ds : List D) (S : Store) (Q : D → Store → Prop) (E : XD → Store → Prop)
theorem okC_ts0 : ∀ n : Fin 257, ∀ c ∈ (tsI n).cps.toList, c < 0x110000 := by decide +kernel
theorem okC_ts {n : Nat} (h : n < 257) : okC (tsI n) := okC_ts0 ⟨n, h⟩
def pairP (M : Md) (p : Nat × Nat) : PyData := .tuple [.str (M.nm p.1), .str (M.nm p.2)]
theorem isP_pr (M : Md) (T : Store) (p : Nat × Nat) : IsP T (pairP M p) (M.pr p) := isP_tup (isPs_cons (isP_str T _) (isPs_cons (isP_str T _) (isPs_nil T)))
theorem isPs_ties (M : Md) (T : Store) (ps : List (Nat × Nat)) : IsPs T (ps.map (pairP M)) (ps.map M.pr) := isPs_map T _ _ ps fun p _ => isP_pr M T p
theorem nc_pair {M : Md} (ok : Md.Ok M) {p : Nat × Nat} (h1 : p.1 < M.n) (h2 : p.2 < M.n) : Nc (pairP M p) 1 18 := Nc.tuple (k := 0) (w := 8) (n := 2) (fun d hd => by
  simp only [List.mem_cons, List.not_mem_nil, or_false] at hd
  rcases hd with rfl | rfl
  · exact nc_name (nm_ok ok h1)
  · exact nc_name (nm_ok ok h2)) (by simp)
theorem nc_ties {M : Md} (ok : Md.Ok M) {ps : List (Nat × Nat)} (h : ∀ p ∈ ps, p.1 < M.n ∧ p.2 < M.n) (hl : ps.length ≤ 256) : Nc (.list (ps.map (pairP M))) 2 (256 * 19) := Nc.list (fun d hd => by
  obtain ⟨p, hp, rfl⟩ := List.mem_map.mp hd
  exact nc_pair ok (h p hp).1 (h p hp).2) (by rw [List.length_map]; exact hl)
theorem nc_strs {l : List Str} (h : ∀ x ∈ l, okC x ∧ x.length ≤ 8) (hl : l.length ≤ 64) : Nc (.list (l.map .str)) 1 (64 * 9) := Nc.list (fun d hd => by
  obtain ⟨x, hx, rfl⟩ := List.mem_map.mp hd
  exact (Nc.str (h x hx).1).mono (Nat.le_refl _) (h x hx).2) (by rw [List.length_map]; exact hl)
theorem ok8 {x : Str} (h : okName x) : okC x ∧ x.length ≤ 8 := ⟨okC_name h, h.2.1⟩
theorem nc_names {M : Md} (ok : Md.Ok M) {l : List Str} (h : ∀ x ∈ l, x ∈ M.ns) (hl : l.length ≤ 64) : Nc (.list (l.map .str)) 1 (64 * 9) := nc_strs (fun x hx => ok8 (ok.okn x (h x hx))) hl
theorem tiesI_both {M : Md} : ∀ p ∈ tiesI M, p.1 < M.n ∧ p.2 < M.n := fun p hp => by
  obtain ⟨a, b, _⟩ := tiesI_lt hp
  exact ⟨Nat.lt_trans a b, b⟩
theorem restS_mem {M : Md} : ∀ x ∈ restS M, x ∈ M.ns := fun x hx => by
  unfold restS at hx
  obtain ⟨i, hi, rfl⟩ := List.mem_map.mp hx
  unfold restI at hi
  exact nm_mem M (List.mem_range.mp (List.mem_filter.mp hi).1)
theorem restS_few {M : Md} (ok : Md.Ok M) : (restS M).length ≤ 64 := by
  unfold restS restI
  rw [List.length_map]
  exact Nat.le_trans (filt_len _ _) (Nat.le_trans ok.few (by decide))
theorem Nc.use {p : PyData} {k w : Nat} (h : Nc p k w) (hk : k ≤ 50) (hw : w ≤ 1000000) : PyData.showable p = true ∧ PyData.depth p ≤ 50 ∧ (PyData.shown p).length ≤ 16777216 := ⟨h.sho, Nat.le_trans h.dep hk, h.len hk hw⟩
theorem same_ok {x y : D} {p : PyData} {k w : Nat} {T : Store} {Q : D → Store → Prop} {E : XD → Store → Prop} (h : Nc p k w) (hk : k ≤ 50) (hw : w ≤ 1000000) (hx : IsP T p x) (hy : IsP T p y) (sx : ∃ l, seqOf T x = some l) (sy : ∃ l, seqOf T y = some l) (q : Q (.bl true) T) : m__law_same α [x, y] T Q E :=
  ⟨x, y, p, rfl, hx, hy, sx, sy, h.sho, Nat.le_trans h.dep hk, h.len hk hw, q⟩
theorem noC (M : Md) {f : Str} (h1 : decide ((Sum.inr "folk" : Key) = Sum.inr f) = false) (h2 : decide ((Sum.inr "places" : Key) = Sum.inr f) = false) (h3 : decide ((Sum.inr "table" : Key) = Sum.inr f) = false) (T : Store) : ∃ l, insOf T (coM α M) = some (α.Company, l) ∧ valD l (.inr f) = none := ⟨_, rfl, val_no M h1 h2 h3⟩
theorem s__law_stands (hl : ds.length = 2) (h : m__law_stands α ds S Q E) : bodyZ 3 (g__law_stands α) ds S Q E := by
  obtain ⟨M, ok, rfl, h⟩ := h
  have hn : M.ns.length ≤ 64 := Nat.le_trans ok.few (by decide)
  simp only [g__law_stands, bodyZ, asgG, dropG, retG, retNG, ifG, skipG, augG, parG, par3G, frzG, setFldG, asgTG, forG, nameT, tupT, consT, nilT, subT, attrT, varZ, cZ, binZ, unZ, caZ, boolZ, andZ, orZ, notZ, andV, orV, notV, ifZ, chainZ, nilZ, consZ, tupZ, lstZ, lstHZ, callZ, methZ, makeZ, makeNZ, fldZ, frzE, deepE, lcZ, dcZ, dispZ, pnilZ, pconsZ, oneD, walkU, srcU, walkE, srcE, walkR1, walkR2, walkS, joinedZ, jconsZ, jnilZ, fmtZ, dgetZ, dinZ, dninZ, bmZ, intZ0, intZ, uintZ, sliceZ, partZ, noPartZ, cutQ, yesZ, Z.lenZ, lenQ, listZ, listHZ, tupleZ, sortedSZ, allZ, anyZ, intZ1, strIZ, mulSZ, addZ, repHZ, repZ, appendZ, extendZ, insertZ, countSZ, joinZ, isBlZ, inZ, isOwnQ, eqZ_int, eqZ_str, eqZ_bl, neZ_int, neZ_str, neZ_bl, lenOwnZ, strOwnZ, reprZ, wipeE, kwD, List.set_cons_zero, List.set_cons_succ, List.getElem?_cons_zero, List.getElem?_cons_succ, List.map_cons, List.map_nil, List.cons_append, List.nil_append, List.append_nil, List.length_cons, List.length_nil, Nat.reduceAdd, Nat.reduceSub, List.replicate_succ, List.replicate_zero, if_true, if_false, Bool.false_eq_true, Nat.zero_add, seqG]
  refine ⟨⟨_, rfl, val_no M (by decide +kernel) (by decide +kernel) (by decide +kernel)⟩, trivial, M, ok, rfl, frz_lst (Fl.strs _) ?_⟩
  refine ⟨⟨_, rfl, val_no M (by decide +kernel) (by decide +kernel) (by decide +kernel)⟩, trivial, M, ok, rfl, frz_lst (Fl.map fun _ => fl_pr M _) ?_⟩
  refine ⟨⟨_, rfl, val_no M (by decide +kernel) (by decide +kernel) (by decide +kernel)⟩, trivial, M, ok, rfl, frz_lst (Fl.strs _) ?_⟩
  refine ⟨⟨_, rfl⟩, M, ok, rfl, ⟨_, rfl⟩, by decide, ?_⟩
  refine ⟨_, _, _, dic_enc M _, rfl, val_names M, trivial, M, ok, rfl, trivial, M, ok, rfl, frz_lst (Fl.strs _) ⟨trivial, M, ok, rfl, by decide, trivial, ?_⟩⟩
  have e : ∀ T, IsP T (.list [.list (M.ns.map .str), .list ((tiesI M).map (pairP M)), .list ((restS M).map .str), .str (textS M)]) (.lst [.lst (M.ns.map .str), .lst (tiesD M), .lst ((restS M).map .str), .str (textS M)]) := fun T =>
    isP_lst (isPs_cons (isP_lst (isPs_strs T _)) (isPs_cons (isP_lst (isPs_ties M T _)) (isPs_cons (isP_lst (isPs_strs T _)) (isPs_cons (isP_str T _) (isPs_nil T)))))
  refine same_ok α (k := 3) (w := 4 * 6001) (Nc.list (k := 2) (w := 6000) (n := 4) (fun d hd => ?_) (by simp)) (by decide) (by decide) (e S) (e S) ⟨_, rfl⟩ ⟨_, rfl⟩ (.inl h)
  simp only [List.mem_cons, List.not_mem_nil, or_false] at hd
  rcases hd with rfl | rfl | rfl | rfl
  · exact (nc_names ok (fun x hx => hx) hn).mono (by decide) (by decide)
  · exact (nc_ties ok tiesI_both (tiesI_len ok)).mono (by decide) (by decide)
  · exact (nc_names ok restS_mem (restS_few ok)).mono (by decide) (by decide)
  · exact (nc_text ok).mono (by decide) (by decide)
theorem nearI_mem {M : Md} {i : Nat} : ∀ x ∈ (nearI M i).map M.nm, x ∈ M.ns := fun x hx => by
  obtain ⟨k, hk, rfl⟩ := List.mem_map.mp hx
  unfold nearI at hk
  exact nm_mem M (List.mem_range.mp (List.mem_filter.mp hk).1)
theorem nearI_few {M : Md} (ok : Md.Ok M) (i : Nat) : ((nearI M i).map M.nm).length ≤ 16 := by
  unfold nearI
  rw [List.length_map]
  exact Nat.le_trans (filt_len _ _) ok.few
theorem s__law_asked_so (hl : ds.length = 2) (h : m__law_asked_so α ds S Q E) : bodyZ 11 (g__law_asked_so α) ds S Q E := by
  obtain ⟨M, ok, rfl, h⟩ := h
  have hn : M.ns.length ≤ 16 := ok.few
  have hn' : M.n ≤ 16 := ok.few
  unfold bodyZ g__law_asked_so
  refine seq_with (fun δ S' => δ = [some (coM α M), some (encM M), some (.lst (M.ns.map .str)), some (gridD M.n M.R), none, none, none, none, none, none, none] ∧ S' = S) (fun δ S' hP => ?_) (fun K hK => ?_)
  rotate_left
  · simp only [bodyZ, asgG, dropG, retG, retNG, ifG, skipG, augG, parG, par3G, frzG, setFldG, asgTG, forG, nameT, tupT, consT, nilT, subT, attrT, varZ, cZ, binZ, unZ, caZ, boolZ, andZ, orZ, notZ, andV, orV, notV, ifZ, chainZ, nilZ, consZ, tupZ, lstZ, lstHZ, callZ, methZ, makeZ, makeNZ, fldZ, frzE, deepE, lcZ, dcZ, dispZ, pnilZ, pconsZ, oneD, walkU, srcU, walkE, srcE, walkR1, walkR2, walkS, joinedZ, jconsZ, jnilZ, fmtZ, dgetZ, dinZ, dninZ, bmZ, intZ0, intZ, uintZ, sliceZ, partZ, noPartZ, cutQ, yesZ, Z.lenZ, lenQ, listZ, listHZ, tupleZ, sortedSZ, allZ, anyZ, intZ1, strIZ, mulSZ, addZ, repHZ, repZ, appendZ, extendZ, insertZ, countSZ, joinZ, isBlZ, inZ, isOwnQ, eqZ_int, eqZ_str, eqZ_bl, neZ_int, neZ_str, neZ_bl, lenOwnZ, strOwnZ, reprZ, wipeE, kwD, List.set_cons_zero, List.set_cons_succ, List.getElem?_cons_zero, List.getElem?_cons_succ, List.map_cons, List.map_nil, List.cons_append, List.nil_append, List.append_nil, List.length_cons, List.length_nil, Nat.reduceAdd, Nat.reduceSub, List.replicate_succ, List.replicate_zero, if_true, if_false, Bool.false_eq_true, Nat.zero_add]
    exact ⟨_, _, _, dic_enc M _, rfl, val_names M, _, _, _, dic_enc M _, rfl, val_grid M, by decide, trivial, hK _ _ ⟨rfl, rfl⟩⟩
  obtain ⟨rfl, rfl⟩ := hP
  refine seq_with (fun δ S'' => (∃ a b c d e f g, δ = [some (coM α M), some (encM M), some (.lst (M.ns.map .str)), some (gridD M.n M.R), a, b, c, d, e, f, g]) ∧ ∃ T, S'' = S' ++ T) (fun δ S'' hP => ?_) (fun K hK => ?_)
  rotate_left
  · simp only [forG, walkR1, caZ, consZ, nilZ, oneD, Z.lenZ, lenQ, varZ, List.getElem?_cons_zero, List.getElem?_cons_succ, List.length_map]
    refine ⟨⟨by omega, by omega⟩, ?_⟩
    refine loop_at _ (fun i δ S'' => (∃ a b c d e f g, δ = [some (coM α M), some (encM M), some (.lst (M.ns.map .str)), some (gridD M.n M.R), a, b, c, d, e, f, g]) ∧ ∃ T, S'' = S' ++ T) ⟨⟨_, _, _, _, _, _, _, rfl⟩, [], by simp⟩ (fun δ S'' hP => ⟨trivial, hK _ _ hP⟩) (fun i x δ S'' k hx hP hk => ?_)
    obtain ⟨⟨a, b, c, d, e, f, g, rfl⟩, T, rfl⟩ := hP
    have hi : i < M.n := by
      have := (List.getElem?_eq_some_iff.mp hx).1
      unfold rangeD at this
      simpa using this
    unfold rangeD at hx
    rw [List.getElem?_map, List.getElem?_range (by simpa using hi)] at hx
    cases hx
    simp only [nameT, List.set_cons_zero, List.set_cons_succ, Int.zero_add, true_and]
    -- due
    refine seq_with (fun δ S'' => δ = [some (coM α M), some (encM M), some (.lst (M.ns.map .str)), some (gridD M.n M.R), some (.int (i : Nat)), some (.hnd (S' ++ T).length), c, d, e, f, g] ∧ S'' = S' ++ T ++ [.lst (((nearI M i).map M.nm).map .str)]) (fun δ S'' hP => ?_) (fun K hK => ?_)
    rotate_left
    · simp only [bodyZ, asgG, dropG, retG, retNG, ifG, skipG, augG, parG, par3G, frzG, setFldG, asgTG, forG, nameT, tupT, consT, nilT, subT, attrT, varZ, cZ, binZ, unZ, caZ, boolZ, andZ, orZ, notZ, andV, orV, notV, ifZ, chainZ, nilZ, consZ, tupZ, lstZ, lstHZ, callZ, methZ, makeZ, makeNZ, fldZ, frzE, deepE, lcZ, dcZ, dispZ, pnilZ, pconsZ, oneD, walkU, srcU, walkE, srcE, walkR1, walkR2, walkS, joinedZ, jconsZ, jnilZ, fmtZ, dgetZ, dinZ, dninZ, bmZ, intZ0, intZ, uintZ, sliceZ, partZ, noPartZ, cutQ, yesZ, Z.lenZ, lenQ, listZ, listHZ, tupleZ, sortedSZ, allZ, anyZ, intZ1, strIZ, mulSZ, addZ, repHZ, repZ, appendZ, extendZ, insertZ, countSZ, joinZ, isBlZ, inZ, isOwnQ, eqZ_int, eqZ_str, eqZ_bl, neZ_int, neZ_str, neZ_bl, lenOwnZ, strOwnZ, reprZ, wipeE, kwD, List.set_cons_zero, List.set_cons_succ, List.getElem?_cons_zero, List.getElem?_cons_succ, List.map_cons, List.map_nil, List.cons_append, List.nil_append, List.append_nil, List.length_cons, List.length_nil, Nat.reduceAdd, Nat.reduceSub, List.replicate_succ, List.replicate_zero, if_true, if_false, Bool.false_eq_true, Nat.zero_add, List.length_map]
      refine ⟨⟨by omega, by omega⟩, ?_⟩
      refine lc_pure (fun d => match d with
        | .int k => if (M.R i k.toNat && decide (k.toNat ≠ i)) = true then some (.str (M.nm k.toNat)) else none
        | _ => none) (by unfold rangeD; simp; omega) (fun _ => trivial) (fun x hx l k k' k1 k2 => ?_) (hK _ _ ⟨rfl, ?_⟩)
      · unfold rangeD at hx
        obtain ⟨j, hj, rfl⟩ := List.mem_map.mp hx
        have hjn : j < M.n := by have := List.mem_range.mp hj; simpa using this
        simp only [bodyZ, asgG, dropG, retG, retNG, ifG, skipG, augG, parG, par3G, frzG, setFldG, asgTG, forG, nameT, tupT, consT, nilT, subT, attrT, varZ, cZ, binZ, unZ, caZ, boolZ, andZ, orZ, notZ, andV, orV, notV, ifZ, chainZ, nilZ, consZ, tupZ, lstZ, lstHZ, callZ, methZ, makeZ, makeNZ, fldZ, frzE, deepE, lcZ, dcZ, dispZ, pnilZ, pconsZ, oneD, walkU, srcU, walkE, srcE, walkR1, walkR2, walkS, joinedZ, jconsZ, jnilZ, fmtZ, dgetZ, dinZ, dninZ, bmZ, intZ0, intZ, uintZ, sliceZ, partZ, noPartZ, cutQ, yesZ, Z.lenZ, lenQ, listZ, listHZ, tupleZ, sortedSZ, allZ, anyZ, intZ1, strIZ, mulSZ, addZ, repHZ, repZ, appendZ, extendZ, insertZ, countSZ, joinZ, isBlZ, inZ, isOwnQ, eqZ_int, eqZ_str, eqZ_bl, neZ_int, neZ_str, neZ_bl, lenOwnZ, strOwnZ, reprZ, wipeE, kwD, List.set_cons_zero, List.set_cons_succ, List.getElem?_cons_zero, List.getElem?_cons_succ, List.map_cons, List.map_nil, List.cons_append, List.nil_append, List.append_nil, List.length_cons, List.length_nil, Nat.reduceAdd, Nat.reduceSub, List.replicate_succ, List.replicate_zero, if_true, if_false, Bool.false_eq_true, Nat.zero_add, Int.zero_add]
        by_cases hji : (j : Int) = i
        · rw [decide_eq_true hji]
          have : j = i := by omega
          exact k2 (by simp [this])
        · rw [decide_eq_false hji]
          have hji' : j ≠ i := by omega
          simp only [Bool.not_false, if_true]
          refine grid_at M hi hjn _ _ ?_
          simp only [bodyZ, asgG, dropG, retG, retNG, ifG, skipG, augG, parG, par3G, frzG, setFldG, asgTG, forG, nameT, tupT, consT, nilT, subT, attrT, varZ, cZ, binZ, unZ, caZ, boolZ, andZ, orZ, notZ, andV, orV, notV, ifZ, chainZ, nilZ, consZ, tupZ, lstZ, lstHZ, callZ, methZ, makeZ, makeNZ, fldZ, frzE, deepE, lcZ, dcZ, dispZ, pnilZ, pconsZ, oneD, walkU, srcU, walkE, srcE, walkR1, walkR2, walkS, joinedZ, jconsZ, jnilZ, fmtZ, dgetZ, dinZ, dninZ, bmZ, intZ0, intZ, uintZ, sliceZ, partZ, noPartZ, cutQ, yesZ, Z.lenZ, lenQ, listZ, listHZ, tupleZ, sortedSZ, allZ, anyZ, intZ1, strIZ, mulSZ, addZ, repHZ, repZ, appendZ, extendZ, insertZ, countSZ, joinZ, isBlZ, inZ, isOwnQ, eqZ_int, eqZ_str, eqZ_bl, neZ_int, neZ_str, neZ_bl, lenOwnZ, strOwnZ, reprZ, wipeE, kwD, List.set_cons_zero, List.set_cons_succ, List.getElem?_cons_zero, List.getElem?_cons_succ, List.map_cons, List.map_nil, List.cons_append, List.nil_append, List.append_nil, List.length_cons, List.length_nil, Nat.reduceAdd, Nat.reduceSub, List.replicate_succ, List.replicate_zero, if_true, if_false, Bool.false_eq_true, Nat.zero_add, b2i1]
          cases hR : M.R i j with
          | true =>
            simp only [if_true]
            rw [names_get M hjn]
            exact k1 _ (by simp [hR, hji'])
          | false => exact k2 (by simp [hR])
      · have e0 : (rangeD 0 ((M.ns.length : Nat) : Int).toNat).filterMap (fun d => match d with
            | .int k => if (M.R i k.toNat && decide (k.toNat ≠ i)) = true then some (D.str (M.nm k.toNat)) else none
            | _ => none) = ((nearI M i).map M.nm).map D.str := by
          unfold nearI rangeD
          rw [List.filterMap_map, List.map_map, Int.toNat_natCast]
          have z := filterMap_if (fun k => M.R i k && decide (k ≠ i)) (fun i => D.str (M.nm i)) (List.range M.n)
          refine Eq.trans ?_ z
          congr 1
          funext j
          simp
        rw [e0]
    obtain ⟨rfl, rfl⟩ := hP
    refine ⟨_, _, _, rfl, at_new _ _, rfl, ?_⟩
    rw [set_new]
    simp only [List.set_cons_zero, List.set_cons_succ]
    generalize hT1 : S' ++ T ++ [C.dead] = T1
    -- near
    refine seq_with (fun δ S'' => δ = [some (coM α M), some (encM M), some (.lst (M.ns.map .str)), some (gridD M.n M.R), some (.int (i : Nat)), some (.lst (((nearI M i).map M.nm).map .str)), some (.hnd T1.length), d, e, f, g] ∧ S'' = T1 ++ [.lst (((nearI M i).map M.nm).map .str)]) (fun δ S'' hP => ?_) (fun K hK => ?_)
    rotate_left
    · simp only [bodyZ, asgG, dropG, retG, retNG, ifG, skipG, augG, parG, par3G, frzG, setFldG, asgTG, forG, nameT, tupT, consT, nilT, subT, attrT, varZ, cZ, binZ, unZ, caZ, boolZ, andZ, orZ, notZ, andV, orV, notV, ifZ, chainZ, nilZ, consZ, tupZ, lstZ, lstHZ, callZ, methZ, makeZ, makeNZ, fldZ, frzE, deepE, lcZ, dcZ, dispZ, pnilZ, pconsZ, oneD, walkU, srcU, walkE, srcE, walkR1, walkR2, walkS, joinedZ, jconsZ, jnilZ, fmtZ, dgetZ, dinZ, dninZ, bmZ, intZ0, intZ, uintZ, sliceZ, partZ, noPartZ, cutQ, yesZ, Z.lenZ, lenQ, listZ, listHZ, tupleZ, sortedSZ, allZ, anyZ, intZ1, strIZ, mulSZ, addZ, repHZ, repZ, appendZ, extendZ, insertZ, countSZ, joinZ, isBlZ, inZ, isOwnQ, eqZ_int, eqZ_str, eqZ_bl, neZ_int, neZ_str, neZ_bl, lenOwnZ, strOwnZ, reprZ, wipeE, kwD, List.set_cons_zero, List.set_cons_succ, List.getElem?_cons_zero, List.getElem?_cons_succ, List.map_cons, List.map_nil, List.cons_append, List.nil_append, List.append_nil, List.length_cons, List.length_nil, Nat.reduceAdd, Nat.reduceSub, List.replicate_succ, List.replicate_zero, if_true, if_false, Bool.false_eq_true, Nat.zero_add, names_get M hi]
      exact ⟨noC α M (by decide +kernel) (by decide +kernel) (by decide +kernel) _, trivial, M, i, ok, hi, rfl, hK _ _ ⟨rfl, rfl⟩⟩
    obtain ⟨rfl, rfl⟩ := hP
    refine seq_with (fun δ S'' => δ = [some (coM α M), some (encM M), some (.lst (M.ns.map .str)), some (gridD M.n M.R), some (.int (i : Nat)), some (.lst (((nearI M i).map M.nm).map .str)), some (.hnd T1.length), d, e, f, g] ∧ S'' = T1 ++ [.lst (((nearI M i).map M.nm).map .str ++ [.str ""])]) (fun δ S'' hP => ?_) (fun K hK => ?_)
    rotate_left
    · simp only [bodyZ, asgG, dropG, retG, retNG, ifG, skipG, augG, parG, par3G, frzG, setFldG, asgTG, forG, nameT, tupT, consT, nilT, subT, attrT, varZ, cZ, binZ, unZ, caZ, boolZ, andZ, orZ, notZ, andV, orV, notV, ifZ, chainZ, nilZ, consZ, tupZ, lstZ, lstHZ, callZ, methZ, makeZ, makeNZ, fldZ, frzE, deepE, lcZ, dcZ, dispZ, pnilZ, pconsZ, oneD, walkU, srcU, walkE, srcE, walkR1, walkR2, walkS, joinedZ, jconsZ, jnilZ, fmtZ, dgetZ, dinZ, dninZ, bmZ, intZ0, intZ, uintZ, sliceZ, partZ, noPartZ, cutQ, yesZ, Z.lenZ, lenQ, listZ, listHZ, tupleZ, sortedSZ, allZ, anyZ, intZ1, strIZ, mulSZ, addZ, repHZ, repZ, appendZ, extendZ, insertZ, countSZ, joinZ, isBlZ, inZ, isOwnQ, eqZ_int, eqZ_str, eqZ_bl, neZ_int, neZ_str, neZ_bl, lenOwnZ, strOwnZ, reprZ, wipeE, kwD, List.set_cons_zero, List.set_cons_succ, List.getElem?_cons_zero, List.getElem?_cons_succ, List.map_cons, List.map_nil, List.cons_append, List.nil_append, List.append_nil, List.length_cons, List.length_nil, Nat.reduceAdd, Nat.reduceSub, List.replicate_succ, List.replicate_zero, if_true, if_false, Bool.false_eq_true, Nat.zero_add]
      refine ⟨tyL_new _ _, _, at_new _ _, ?_, hK _ _ ⟨rfl, by rw [set_new]⟩⟩
      have := nearI_few ok i
      rw [List.length_map]
      omega
    obtain ⟨rfl, rfl⟩ := hP
    have hfew := nearI_few ok i
    refine seq_with (fun δ S'' => δ = [some (coM α M), some (encM M), some (.lst (M.ns.map .str)), some (gridD M.n M.R), some (.int (i : Nat)), some (.lst (((nearI M i).map M.nm).map .str)), some (.hnd T1.length), d, e, f, g] ∧ S'' = T1 ++ [.lst (((nearI M i).map M.nm).map .str ++ [.str ""])] ++ [.lst (((nearI M i).map M.nm).map .str)]) (fun δ S'' hP => ?_) (fun K hK => ?_)
    rotate_left
    · simp only [bodyZ, asgG, dropG, retG, retNG, ifG, skipG, augG, parG, par3G, frzG, setFldG, asgTG, forG, nameT, tupT, consT, nilT, subT, attrT, varZ, cZ, binZ, unZ, caZ, boolZ, andZ, orZ, notZ, andV, orV, notV, ifZ, chainZ, nilZ, consZ, tupZ, lstZ, lstHZ, callZ, methZ, makeZ, makeNZ, fldZ, frzE, deepE, lcZ, dcZ, dispZ, pnilZ, pconsZ, oneD, walkU, srcU, walkE, srcE, walkR1, walkR2, walkS, joinedZ, jconsZ, jnilZ, fmtZ, dgetZ, dinZ, dninZ, bmZ, intZ0, intZ, uintZ, sliceZ, partZ, noPartZ, cutQ, yesZ, Z.lenZ, lenQ, listZ, listHZ, tupleZ, sortedSZ, allZ, anyZ, intZ1, strIZ, mulSZ, addZ, repHZ, repZ, appendZ, extendZ, insertZ, countSZ, joinZ, isBlZ, inZ, isOwnQ, eqZ_int, eqZ_str, eqZ_bl, neZ_int, neZ_str, neZ_bl, lenOwnZ, strOwnZ, reprZ, wipeE, kwD, List.set_cons_zero, List.set_cons_succ, List.getElem?_cons_zero, List.getElem?_cons_succ, List.map_cons, List.map_nil, List.cons_append, List.nil_append, List.append_nil, List.length_cons, List.length_nil, Nat.reduceAdd, Nat.reduceSub, List.replicate_succ, List.replicate_zero, if_true, if_false, Bool.false_eq_true, Nat.zero_add, names_get M hi]
      refine ⟨noC α M (by decide +kernel) (by decide +kernel) (by decide +kernel) _, trivial, M, i, ok, hi, rfl, by decide, by decide, ?_, by decide, trivial, ?_⟩
      · rw [List.length_map]; show _ + 1 ≤ _; omega
      · have e9 : ((nearI M i).map M.nm).map D.str ++ [D.str ""] = (((nearI M i).map M.nm) ++ [("" : Str)]).map D.str := by rw [List.map_append]; rfl
        refine same_ok α (p := .list [.list ((((nearI M i).map M.nm) ++ [("" : Str)]).map .str), .list (((nearI M i).map M.nm).map .str)]) (k := 2) (w := 2 * (64 * 9 + 1)) (Nc.list (k := 1) (w := 64 * 9) (n := 2) (fun d hd => ?_) (by simp)) (by decide) (by decide) (isP_lst (isPs_cons (isP_hnd (at_app (at_new _ _)) (by rw [e9]; exact isPs_strs _ _)) (isPs_cons (isP_hnd (at_new _ _) (isPs_strs _ _)) (isPs_nil _)))) (isP_lst (isPs_cons (isP_lst (by rw [e9]; exact isPs_strs _ _)) (isPs_cons (isP_lst (isPs_strs _ _)) (isPs_nil _)))) ⟨_, rfl⟩ ⟨_, rfl⟩ ?_
        · simp only [List.mem_cons, List.not_mem_nil, or_false] at hd
          rcases hd with rfl | rfl
          · refine nc_strs (fun x hx => ?_) (by rw [List.length_append]; show _ + 1 ≤ 64; omega)
            rcases List.mem_append.mp hx with hx | hx
            · exact ok8 (ok.okn x (nearI_mem x hx))
            · rw [List.mem_singleton.mp hx]; exact ⟨okC_empty, by decide⟩
          · exact nc_names ok nearI_mem (by omega)
        · exact hK _ _ ⟨rfl, rfl⟩
    obtain ⟨rfl, rfl⟩ := hP
    generalize hT2 : T1 ++ [C.lst (((nearI M i).map M.nm).map .str ++ [.str ""])] ++ [C.lst (((nearI M i).map M.nm).map .str)] = T2
    -- told
    refine seq_with (fun δ S'' => δ = [some (coM α M), some (encM M), some (.lst (M.ns.map .str)), some (gridD M.n M.R), some (.int (i : Nat)), some (.lst (((nearI M i).map M.nm).map .str)), some (.hnd T1.length), some (.hnd T2.length), e, f, g] ∧ S'' = T2 ++ [.lst ((List.range M.n).map fun k => .bl (decide (i ≠ k) && M.R i k))]) (fun δ S'' hP => ?_) (fun K hK => ?_)
    rotate_left
    · simp only [bodyZ, asgG, dropG, retG, retNG, ifG, skipG, augG, parG, par3G, frzG, setFldG, asgTG, forG, nameT, tupT, consT, nilT, subT, attrT, varZ, cZ, binZ, unZ, caZ, boolZ, andZ, orZ, notZ, andV, orV, notV, ifZ, chainZ, nilZ, consZ, tupZ, lstZ, lstHZ, callZ, methZ, makeZ, makeNZ, fldZ, frzE, deepE, lcZ, dcZ, dispZ, pnilZ, pconsZ, oneD, walkU, srcU, walkE, srcE, walkR1, walkR2, walkS, joinedZ, jconsZ, jnilZ, fmtZ, dgetZ, dinZ, dninZ, bmZ, intZ0, intZ, uintZ, sliceZ, partZ, noPartZ, cutQ, yesZ, Z.lenZ, lenQ, listZ, listHZ, tupleZ, sortedSZ, allZ, anyZ, intZ1, strIZ, mulSZ, addZ, repHZ, repZ, appendZ, extendZ, insertZ, countSZ, joinZ, isBlZ, inZ, isOwnQ, eqZ_int, eqZ_str, eqZ_bl, neZ_int, neZ_str, neZ_bl, lenOwnZ, strOwnZ, reprZ, wipeE, kwD, List.set_cons_zero, List.set_cons_succ, List.getElem?_cons_zero, List.getElem?_cons_succ, List.map_cons, List.map_nil, List.cons_append, List.nil_append, List.append_nil, List.length_cons, List.length_nil, Nat.reduceAdd, Nat.reduceSub, List.replicate_succ, List.replicate_zero, if_true, if_false, Bool.false_eq_true, Nat.zero_add]
      have ens : M.ns.map D.str = (List.range M.n).map fun k => D.str (M.nm k) := by
        conv => lhs; rw [ns_eq M]
        rw [List.map_map]
        rfl
      refine lc_ind _ (fun m T' => T' = T2 ++ [.lst ((List.range m).map fun k => .bl (decide (i ≠ k) && M.R i k))]) rfl (fun T' hP => ?_) (fun m x T' k hx hP hk => ?_)
      · rw [List.length_map] at hP
        exact ⟨trivial, hK _ _ ⟨rfl, hP⟩⟩
      · subst hP
        have hm : m < M.n := by have := (List.getElem?_eq_some_iff.mp hx).1; rwa [List.length_map] at this
        rw [List.getElem?_map, nm_at M hm] at hx
        cases hx
        simp only [bodyZ, asgG, dropG, retG, retNG, ifG, skipG, augG, parG, par3G, frzG, setFldG, asgTG, forG, nameT, tupT, consT, nilT, subT, attrT, varZ, cZ, binZ, unZ, caZ, boolZ, andZ, orZ, notZ, andV, orV, notV, ifZ, chainZ, nilZ, consZ, tupZ, lstZ, lstHZ, callZ, methZ, makeZ, makeNZ, fldZ, frzE, deepE, lcZ, dcZ, dispZ, pnilZ, pconsZ, oneD, walkU, srcU, walkE, srcE, walkR1, walkR2, walkS, joinedZ, jconsZ, jnilZ, fmtZ, dgetZ, dinZ, dninZ, bmZ, intZ0, intZ, uintZ, sliceZ, partZ, noPartZ, cutQ, yesZ, Z.lenZ, lenQ, listZ, listHZ, tupleZ, sortedSZ, allZ, anyZ, intZ1, strIZ, mulSZ, addZ, repHZ, repZ, appendZ, extendZ, insertZ, countSZ, joinZ, isBlZ, inZ, isOwnQ, eqZ_int, eqZ_str, eqZ_bl, neZ_int, neZ_str, neZ_bl, lenOwnZ, strOwnZ, reprZ, wipeE, kwD, List.set_cons_zero, List.set_cons_succ, List.getElem?_cons_zero, List.getElem?_cons_succ, List.map_cons, List.map_nil, List.cons_append, List.nil_append, List.append_nil, List.length_cons, List.length_nil, Nat.reduceAdd, Nat.reduceSub, List.replicate_succ, List.replicate_zero, if_true, if_false, Bool.false_eq_true, Nat.zero_add, names_get M hi]
        refine ⟨trivial, noC α M (by decide +kernel) (by decide +kernel) (by decide +kernel) _, trivial, M, i, m, ok, hi, hm, rfl, _, at_new _ _, by rw [List.length_map, List.length_range]; omega, hk _ ?_⟩
        rw [set_new, List.range_succ, List.map_append]
        rfl
    obtain ⟨rfl, rfl⟩ := hP
    refine ⟨_, _, _, rfl, at_new _ _, rfl, ?_⟩
    rw [set_new]
    simp only [bodyZ, asgG, dropG, retG, retNG, ifG, skipG, augG, parG, par3G, frzG, setFldG, asgTG, forG, nameT, tupT, consT, nilT, subT, attrT, varZ, cZ, binZ, unZ, caZ, boolZ, andZ, orZ, notZ, andV, orV, notV, ifZ, chainZ, nilZ, consZ, tupZ, lstZ, lstHZ, callZ, methZ, makeZ, makeNZ, fldZ, frzE, deepE, lcZ, dcZ, dispZ, pnilZ, pconsZ, oneD, walkU, srcU, walkE, srcE, walkR1, walkR2, walkS, joinedZ, jconsZ, jnilZ, fmtZ, dgetZ, dinZ, dninZ, bmZ, intZ0, intZ, uintZ, sliceZ, partZ, noPartZ, cutQ, yesZ, Z.lenZ, lenQ, listZ, listHZ, tupleZ, sortedSZ, allZ, anyZ, intZ1, strIZ, mulSZ, addZ, repHZ, repZ, appendZ, extendZ, insertZ, countSZ, joinZ, isBlZ, inZ, isOwnQ, eqZ_int, eqZ_str, eqZ_bl, neZ_int, neZ_str, neZ_bl, lenOwnZ, strOwnZ, reprZ, wipeE, kwD, List.set_cons_zero, List.set_cons_succ, List.getElem?_cons_zero, List.getElem?_cons_succ, List.map_cons, List.map_nil, List.cons_append, List.nil_append, List.append_nil, List.length_cons, List.length_nil, Nat.reduceAdd, Nat.reduceSub, List.replicate_succ, List.replicate_zero, if_true, if_false, Bool.false_eq_true, Nat.zero_add, List.length_map]
    refine ⟨⟨by omega, by omega⟩, ?_⟩
    refine lc_pure (fun d => match d with
      | .int k => some (.bl (decide (i ≠ k.toNat) && M.R i k.toNat))
      | _ => none) (by unfold rangeD; simp; omega) (fun _ => trivial) (fun x hx l k k' k1 k2 => ?_) (frz_lst ?_ ?_)
    · unfold rangeD at hx
      obtain ⟨j, hj, rfl⟩ := List.mem_map.mp hx
      have hjn : j < M.n := by have := List.mem_range.mp hj; simpa using this
      simp only [bodyZ, asgG, dropG, retG, retNG, ifG, skipG, augG, parG, par3G, frzG, setFldG, asgTG, forG, nameT, tupT, consT, nilT, subT, attrT, varZ, cZ, binZ, unZ, caZ, boolZ, andZ, orZ, notZ, andV, orV, notV, ifZ, chainZ, nilZ, consZ, tupZ, lstZ, lstHZ, callZ, methZ, makeZ, makeNZ, fldZ, frzE, deepE, lcZ, dcZ, dispZ, pnilZ, pconsZ, oneD, walkU, srcU, walkE, srcE, walkR1, walkR2, walkS, joinedZ, jconsZ, jnilZ, fmtZ, dgetZ, dinZ, dninZ, bmZ, intZ0, intZ, uintZ, sliceZ, partZ, noPartZ, cutQ, yesZ, Z.lenZ, lenQ, listZ, listHZ, tupleZ, sortedSZ, allZ, anyZ, intZ1, strIZ, mulSZ, addZ, repHZ, repZ, appendZ, extendZ, insertZ, countSZ, joinZ, isBlZ, inZ, isOwnQ, eqZ_int, eqZ_str, eqZ_bl, neZ_int, neZ_str, neZ_bl, lenOwnZ, strOwnZ, reprZ, wipeE, kwD, List.set_cons_zero, List.set_cons_succ, List.getElem?_cons_zero, List.getElem?_cons_succ, List.map_cons, List.map_nil, List.cons_append, List.nil_append, List.append_nil, List.length_cons, List.length_nil, Nat.reduceAdd, Nat.reduceSub, List.replicate_succ, List.replicate_zero, if_true, if_false, Bool.false_eq_true, Nat.zero_add, Int.zero_add]
      by_cases hji : (j : Int) = i
      · rw [decide_eq_true hji]
        have : i = j := by omega
        exact k1 _ (by simp [this])
      · rw [decide_eq_false hji]
        have hji' : ¬ i = j := by omega
        simp only [Bool.not_false, if_true]
        refine grid_at M hi hjn _ _ ?_
        simp only [bodyZ, asgG, dropG, retG, retNG, ifG, skipG, augG, parG, par3G, frzG, setFldG, asgTG, forG, nameT, tupT, consT, nilT, subT, attrT, varZ, cZ, binZ, unZ, caZ, boolZ, andZ, orZ, notZ, andV, orV, notV, ifZ, chainZ, nilZ, consZ, tupZ, lstZ, lstHZ, callZ, methZ, makeZ, makeNZ, fldZ, frzE, deepE, lcZ, dcZ, dispZ, pnilZ, pconsZ, oneD, walkU, srcU, walkE, srcE, walkR1, walkR2, walkS, joinedZ, jconsZ, jnilZ, fmtZ, dgetZ, dinZ, dninZ, bmZ, intZ0, intZ, uintZ, sliceZ, partZ, noPartZ, cutQ, yesZ, Z.lenZ, lenQ, listZ, listHZ, tupleZ, sortedSZ, allZ, anyZ, intZ1, strIZ, mulSZ, addZ, repHZ, repZ, appendZ, extendZ, insertZ, countSZ, joinZ, isBlZ, inZ, isOwnQ, eqZ_int, eqZ_str, eqZ_bl, neZ_int, neZ_str, neZ_bl, lenOwnZ, strOwnZ, reprZ, wipeE, kwD, List.set_cons_zero, List.set_cons_succ, List.getElem?_cons_zero, List.getElem?_cons_succ, List.map_cons, List.map_nil, List.cons_append, List.nil_append, List.append_nil, List.length_cons, List.length_nil, Nat.reduceAdd, Nat.reduceSub, List.replicate_succ, List.replicate_zero, if_true, if_false, Bool.false_eq_true, Nat.zero_add, b2i1]
        exact k1 _ (by simp [hji'])
    · intro d hd
      obtain ⟨z, _, hz⟩ := List.mem_filterMap.mp hd
      split at hz
      · cases hz; exact Fl.bl _
      · cases hz
    · have e0 : (rangeD 0 ((M.ns.length : Nat) : Int).toNat).filterMap (fun d => match d with
          | .int k => some (.bl (decide (i ≠ k.toNat) && M.R i k.toNat))
          | _ => none) = (List.range M.n).map fun k => D.bl (decide (i ≠ k) && M.R i k) := by
        unfold rangeD
        rw [List.filterMap_map, Int.toNat_natCast]
        refine Eq.trans ?_ (filterMap_all (fun k => D.bl (decide (i ≠ k) && M.R i k)) _)
        congr 1
        funext j
        simp
      rw [e0]
      have e1 : ∀ T, IsP T (.list ((List.range M.n).map fun k => .bool (decide (i ≠ k) && M.R i k))) (.lst ((List.range M.n).map fun k => .bl (decide (i ≠ k) && M.R i k))) := fun T => isP_lst (isPs_map T _ _ _ fun k _ => isP_bl T _)
      refine ⟨trivial, same_ok α (k := 1) (w := 16 * 1) (Nc.list (k := 0) (w := 0) (n := 16) (fun d hd => ?_) (by rw [List.length_map, List.length_range]; exact hn')) (by decide) (by decide) (e1 _) (e1 _) ⟨_, rfl⟩ ⟨_, rfl⟩ ?_⟩
      · obtain ⟨k, _, rfl⟩ := List.mem_map.mp hd
        exact Nc.bl _
      · refine hk _ _ ⟨⟨_, _, _, _, _, _, _, rfl⟩, ?_⟩
        rw [← hT2, ← hT1]
        exact ⟨T ++ [.dead] ++ [.lst (((nearI M i).map M.nm).map .str ++ [.str ""])] ++ [.lst (((nearI M i).map M.nm).map .str)] ++ [.dead], by simp⟩
  obtain ⟨⟨a, b, c, d, e, f, g, rfl⟩, T, rfl⟩ := hP
  have l1 := tsI_len (n := M.n) (by omega)
  have ht : (tiesI M).length ≤ 1000 := Nat.le_trans (tiesI_len ok) (by decide)
  have l2 := tsI_len ht
  have k1 : (Str.ofString "Company(").length = 8 := rfl
  have k2 : (Str.ofString " folk, ").length = 7 := rfl
  have k3 : (Str.ofString " ties)").length = 6 := rfl
  have sz : (100000 : Nat) ≤ sizeLine := by decide
  have htd : (tiesD M).length = (tiesI M).length := by unfold tiesD; rw [List.length_map]
  simp only [bodyZ, asgG, dropG, retG, retNG, ifG, skipG, augG, parG, par3G, frzG, setFldG, asgTG, forG, nameT, tupT, consT, nilT, subT, attrT, varZ, cZ, binZ, unZ, caZ, boolZ, andZ, orZ, notZ, andV, orV, notV, ifZ, chainZ, nilZ, consZ, tupZ, lstZ, lstHZ, callZ, methZ, makeZ, makeNZ, fldZ, frzE, deepE, lcZ, dcZ, dispZ, pnilZ, pconsZ, oneD, walkU, srcU, walkE, srcE, walkR1, walkR2, walkS, joinedZ, jconsZ, jnilZ, fmtZ, dgetZ, dinZ, dninZ, bmZ, intZ0, intZ, uintZ, sliceZ, partZ, noPartZ, cutQ, yesZ, Z.lenZ, lenQ, listZ, listHZ, tupleZ, sortedSZ, allZ, anyZ, intZ1, strIZ, mulSZ, addZ, repHZ, repZ, appendZ, extendZ, insertZ, countSZ, joinZ, isBlZ, inZ, isOwnQ, eqZ_int, eqZ_str, eqZ_bl, neZ_int, neZ_str, neZ_bl, lenOwnZ, strOwnZ, reprZ, wipeE, kwD, List.set_cons_zero, List.set_cons_succ, List.getElem?_cons_zero, List.getElem?_cons_succ, List.map_cons, List.map_nil, List.cons_append, List.nil_append, List.append_nil, List.length_cons, List.length_nil, Nat.reduceAdd, Nat.reduceSub, List.replicate_succ, List.replicate_zero, if_true, if_false, Bool.false_eq_true, Nat.zero_add, List.length_map, seqG]
  refine ⟨tsI_log (n := M.ns.length) (by omega), ?_, ?_, trivial, M, ok, rfl, ?_⟩
  · show (Str.ofString "Company(").length + (tsI M.n).length ≤ _
    omega
  · show (Str.ofString "Company(" ++ tsI M.n).length + (Str.ofString " folk, ").length ≤ _
    rw [len_app]; omega
  · simp only [bodyZ, asgG, dropG, retG, retNG, ifG, skipG, augG, parG, par3G, frzG, setFldG, asgTG, forG, nameT, tupT, consT, nilT, subT, attrT, varZ, cZ, binZ, unZ, caZ, boolZ, andZ, orZ, notZ, andV, orV, notV, ifZ, chainZ, nilZ, consZ, tupZ, lstZ, lstHZ, callZ, methZ, makeZ, makeNZ, fldZ, frzE, deepE, lcZ, dcZ, dispZ, pnilZ, pconsZ, oneD, walkU, srcU, walkE, srcE, walkR1, walkR2, walkS, joinedZ, jconsZ, jnilZ, fmtZ, dgetZ, dinZ, dninZ, bmZ, intZ0, intZ, uintZ, sliceZ, partZ, noPartZ, cutQ, yesZ, Z.lenZ, lenQ, listZ, listHZ, tupleZ, sortedSZ, allZ, anyZ, intZ1, strIZ, mulSZ, addZ, repHZ, repZ, appendZ, extendZ, insertZ, countSZ, joinZ, isBlZ, inZ, isOwnQ, eqZ_int, eqZ_str, eqZ_bl, neZ_int, neZ_str, neZ_bl, lenOwnZ, strOwnZ, reprZ, wipeE, kwD, List.set_cons_zero, List.set_cons_succ, List.getElem?_cons_zero, List.getElem?_cons_succ, List.map_cons, List.map_nil, List.cons_append, List.nil_append, List.append_nil, List.length_cons, List.length_nil, Nat.reduceAdd, Nat.reduceSub, List.replicate_succ, List.replicate_zero, if_true, if_false, Bool.false_eq_true, Nat.zero_add]
    rw [htd]
    refine ⟨tsI_log ht, ?_, ?_, ⟨_, rfl⟩, M, ok, rfl, ⟨M.n, rfl, by omega⟩, ⟨_, rfl⟩, M, ok, rfl, ⟨_, rfl⟩, by decide, by decide, trivial, ?_⟩
    · show (Str.ofString "Company(" ++ tsI M.n ++ Str.ofString " folk, ").length + (tsI (tiesI M).length).length ≤ _
      rw [len_app, len_app]; omega
    · show (Str.ofString "Company(" ++ tsI M.n ++ Str.ofString " folk, " ++ tsI (tiesI M).length).length + (Str.ofString " ties)").length ≤ _
      rw [len_app, len_app, len_app]; omega
    · have e1 : ∀ T, IsP T (.list [.int (M.n : Nat), .str (reprM M)]) (.lst [.int (M.n : Nat), .str (reprM M)]) := fun T => isP_lst (isPs_cons (isP_int T _) (isPs_cons (isP_str T _) (isPs_nil T)))
      refine same_ok α (p := .list [.int (M.n : Nat), .str (reprM M)]) (k := 1) (w := 2 * 101) (Nc.list (k := 0) (w := 100) (n := 2) (fun d hd => ?_) (by simp)) (by decide) (by decide) (e1 _) (e1 _) ⟨_, rfl⟩ ⟨_, rfl⟩ (end_same trivial h)
      simp only [List.mem_cons, List.not_mem_nil, or_false] at hd
      rcases hd with rfl | rfl
      · exact (Nc.int (by omega) (by omega)).mono (by decide) (by decide)
      · refine (Nc.str (okC_app (okC_app (okC_app (okC_app ?_ (okC_ts (by omega))) ?_) (okC_ts (by have := tiesI_len ok; omega))) ?_)).mono (by decide) ?_
        · unfold okC; decide +kernel
        · unfold okC; decide +kernel
        · unfold okC; decide +kernel
        · rw [len_app, len_app, len_app, len_app]; omega
end
end K01
namespace K01
open PySem L2 Z
section
variable (α : Ad) (ds : List D) (S : Store) (Q : D → Store → Prop) (E : XD → Store → Prop)
theorem cutD_from {l : List D} (n : Nat) (h : n ≤ l.length) : cutD l (some (n : Int)) none = l.drop n := by
  unfold cutD
  rw [HT.sIx_none, HT.sIx_nat, Nat.min_eq_left h]
  rw [List.take_of_length_le (by rw [List.length_drop]; omega)]
theorem ok_tail {M : Md} (ok : Md.Ok M) : Md.Ok ⟨M.ns.drop 1, fun _ _ => false⟩ := by
  refine ⟨Nat.le_trans (by show (M.ns.drop 1).length ≤ M.ns.length; rw [List.length_drop]; omega) ok.few, ok.nd.sublist (List.drop_sublist _ _), ?_, fun x hx => ok.okn x (List.mem_of_mem_drop hx), fun _ _ => rfl⟩
  refine PyProof.Rows.sortedS_of_pairwise _ ?_
  refine List.Pairwise.sublist (List.drop_sublist 1 M.ns) ?_
  refine (sorted_pw M.ns ok.srt).imp fun {a b} h => ?_
  rw [PyProof.Rows.ltCps_eq]
  exact decide_eq_false h
theorem ok_turn {M : Md} (ok : Md.Ok M) (i : Nat) : Md.Ok (turnM M i) := ⟨ok.few, ok.nd, ok.srt, ok.okn, fun a b => by
  show (M.R a b ^^ (decide (a = i) && decide (b = i))) = (M.R b a ^^ (decide (b = i) && decide (a = i)))
  rw [ok.sym, Bool.and_comm]⟩
theorem turn_ne {M : Md} {i : Nat} (hi : i < M.n) : tabM M ≠ tabM (turnM M i) := by
  intro h
  unfold tabM at h
  have h1 : ((List.range M.n).map fun i => mask M.n (M.R i))[i]? = ((List.range M.n).map fun j => mask M.n ((turnM M i).R j))[i]? := congrArg (·[i]?) h
  rw [List.getElem?_map, List.getElem?_map, List.getElem?_range hi] at h1
  have h2 : mask M.n (M.R i) = mask M.n ((turnM M i).R i) := Option.some.inj h1
  have h3 := mask_inj h2 i hi
  have h4 : (turnM M i).R i i = !M.R i i := by
    show (M.R i i ^^ (decide (i = i) && decide (i = i))) = _
    simp
  rw [h4] at h3
  cases hR : M.R i i <;> rw [hR] at h3 <;> cases h3
theorem tiesI_bare (ns : List Str) : tiesI ⟨ns, fun _ _ => false⟩ = [] := by
  unfold tiesI tiesTo rowI
  rw [List.flatMap_eq_nil_iff]
  intro i _
  simp
theorem restS_bare (ns : List Str) : restS ⟨ns, fun _ _ => false⟩ = [] := by
  unfold restS restI
  simp
theorem count_no : ∀ l : List Str, (∀ x ∈ l, x ≠ Str.ofString "") → PySem.Spec.countIn (.str "") (l.map PyData.str) = 0 := by
  intro l h
  induction l with
  | nil => rfl
  | cons a l ih =>
    have h1 := ih fun x hx => h x (List.mem_cons_of_mem _ hx)
    have h2 := h a (List.mem_cons_self ..)
    rw [List.map_cons, PySem.Spec.countIn, h1]
    have h3 : PySem.Spec.same (.str a) (.str "") = false := by
      show (a == Str.ofString "") = false
      simpa using h2
    rw [h3]
    rfl
/-- what is made of names alone -/
theorem make_bare {M : Md} (ok : Md.Ok M) {nd : D} {T : Store} {Q : D → Store → Prop} {E : XD → Store → Prop} (h1 : seqOf T nd = some (M.ns.map .str)) (h : Q (coM α ⟨M.ns, fun _ _ => false⟩) T) :
    m_Company___init__ α [.hnd T.length, nd, .tup [], .tup []] (T ++ [.ins α.Company []]) (fun v S2 => v = .non ∧ frzQ T Q (.hnd T.length) S2) E := by
  refine ⟨T.length, _, _, _, ⟨M.ns, fun _ _ => false⟩, M.ns, [], [], rfl, ok_bare ok, seqOf_app h1, List.Perm.refl _, .inr rfl, .inr rfl, fit_bare _, at_new _ _, rfl, ?_⟩
  rw [set_new]
  exact frz_ins (fl_flds _) h
/-- equal or not -/
theorem eq_own {M M' : Md} (ok : Md.Ok M) (ok' : Md.Ok M') (g : Bool → Bool) {T : Store} {Q : D → Store → Prop} {E : XD → Store → Prop} (h : Q (.bl (g (decide (M.ns = M'.ns) && decide (tabM M = tabM M')))) T) : eqOwnQ α.Company (m_Company___eq__ α) (tys_Company α) g (coM α M) (coM α M') T Q E :=
  ⟨⟨_, rfl⟩, ⟨_, rfl, List.mem_cons_self ..⟩, .inl ⟨M, M', ok, ok', rfl, _, rfl, h⟩⟩
theorem eq_other {M : Md} (ok : Md.Ok M) {y : D} {t : Value} (g : Bool → Bool) {T : Store} {Q : D → Store → Prop} {E : XD → Store → Prop} (ht : tyD T y = some t) (hn : t ∈ no_Company α) (h : Q (.bl (g false)) T) : eqOwnQ α.Company (m_Company___eq__ α) (tys_Company α) g (coM α M) y T Q E :=
  ⟨⟨_, rfl⟩, ⟨_, ht, List.mem_cons_of_mem _ hn⟩, .inr ⟨M, y, t, ok, rfl, ht, hn, _, rfl, h⟩⟩
theorem s_law (hl : ds.length = 1) (h : m_law α ds S Q E) : bodyZ 12 (g_law α) ds S Q E := by
  obtain ⟨ns, rfl, hns, h⟩ := h
  unfold bodyZ g_law
  -- the bag
  refine seq_with (fun δ S' => δ = [some (.kls (ns.map .int)), some (.hnd S.length), none, none, none, none, none, none, none, none, none, none] ∧ S' = S ++ [.abs BagOk]) (fun δ S' hP => ?_) (fun K hK => ?_)
  rotate_left
  · simp only [bodyZ, asgG, dropG, retG, retNG, ifG, skipG, augG, parG, par3G, frzG, setFldG, asgTG, forG, nameT, tupT, consT, nilT, subT, attrT, varZ, cZ, binZ, unZ, caZ, boolZ, andZ, orZ, notZ, andV, orV, notV, ifZ, chainZ, nilZ, consZ, tupZ, lstZ, lstHZ, callZ, methZ, makeZ, makeNZ, fldZ, frzE, deepE, lcZ, dcZ, dispZ, pnilZ, pconsZ, oneD, walkU, srcU, walkE, srcE, walkR1, walkR2, walkS, joinedZ, jconsZ, jnilZ, fmtZ, dgetZ, dinZ, dninZ, bmZ, intZ0, intZ, uintZ, sliceZ, partZ, noPartZ, cutQ, yesZ, Z.lenZ, lenQ, listZ, listHZ, tupleZ, sortedSZ, allZ, anyZ, intZ1, strIZ, mulSZ, addZ, repHZ, repZ, appendZ, extendZ, insertZ, countSZ, joinZ, isBlZ, inZ, isOwnQ, eqZ_int, eqZ_str, eqZ_bl, neZ_int, neZ_str, neZ_bl, lenOwnZ, strOwnZ, reprZ, wipeE, kwD, List.set_cons_zero, List.set_cons_succ, List.getElem?_cons_zero, List.getElem?_cons_succ, List.map_cons, List.map_nil, List.cons_append, List.nil_append, List.append_nil, List.length_cons, List.length_nil, Nat.reduceAdd, Nat.reduceSub, List.replicate_succ, List.replicate_zero, if_true, if_false, Bool.false_eq_true, Nat.zero_add]
    exact ⟨trivial, ns, rfl, hns, hK _ _ ⟨rfl, rfl⟩⟩
  obtain ⟨rfl, rfl⟩ := hP
  have hb0 : (S ++ [C.abs BagOk])[S.length]? = some (.abs BagOk) := at_new _ _
  -- the model
  refine seq_with (fun δ S' => ∃ M, Md.Ok M ∧ δ = [some (.kls (ns.map .int)), some (.hnd S.length), some (encM M), none, none, none, none, none, none, none, none, none] ∧ S' = S ++ [.abs BagOk]) (fun δ S' hP => ?_) (fun K hK => ?_)
  rotate_left
  · simp only [bodyZ, asgG, dropG, retG, retNG, ifG, skipG, augG, parG, par3G, frzG, setFldG, asgTG, forG, nameT, tupT, consT, nilT, subT, attrT, varZ, cZ, binZ, unZ, caZ, boolZ, andZ, orZ, notZ, andV, orV, notV, ifZ, chainZ, nilZ, consZ, tupZ, lstZ, lstHZ, callZ, methZ, makeZ, makeNZ, fldZ, frzE, deepE, lcZ, dcZ, dispZ, pnilZ, pconsZ, oneD, walkU, srcU, walkE, srcE, walkR1, walkR2, walkS, joinedZ, jconsZ, jnilZ, fmtZ, dgetZ, dinZ, dninZ, bmZ, intZ0, intZ, uintZ, sliceZ, partZ, noPartZ, cutQ, yesZ, Z.lenZ, lenQ, listZ, listHZ, tupleZ, sortedSZ, allZ, anyZ, intZ1, strIZ, mulSZ, addZ, repHZ, repZ, appendZ, extendZ, insertZ, countSZ, joinZ, isBlZ, inZ, isOwnQ, eqZ_int, eqZ_str, eqZ_bl, neZ_int, neZ_str, neZ_bl, lenOwnZ, strOwnZ, reprZ, wipeE, kwD, List.set_cons_zero, List.set_cons_succ, List.getElem?_cons_zero, List.getElem?_cons_succ, List.map_cons, List.map_nil, List.cons_append, List.nil_append, List.append_nil, List.length_cons, List.length_nil, Nat.reduceAdd, Nat.reduceSub, List.replicate_succ, List.replicate_zero, if_true, if_false, Bool.false_eq_true, Nat.zero_add]
    exact ⟨trivial, S.length, rfl, hb0, fun M ok => hK _ _ ⟨M, ok, rfl, rfl⟩⟩
  obtain ⟨M, ok, rfl, rfl⟩ := hP
  have hn : M.ns.length ≤ 16 := ok.few
  have hn' : M.n ≤ 16 := ok.few
  have htl : (tiesD M).length = (tiesI M).length := by unfold tiesD; rw [List.length_map]
  have few := tiesI_len ok
  have rfew := restS_few ok
  -- what is handed in
  refine seq_with (fun δ S' => ∃ (xs : List Str) (ps : List (Nat × Nat)), xs.Perm M.ns ∧ ps.Perm (tiesI M) ∧ δ = [some (.kls (ns.map .int)), some (.hnd S.length), some (encM M), some (.lst [.hnd (S.length + 1), .hnd (S.length + 2), .hnd (S.length + 3)]), none, none, none, none, none, none, none, none] ∧ S' = S ++ [.abs BagOk, .lst (xs.map .str), .lst (ps.map M.pr), .lst ((restS M).map .str)]) (fun δ S' hP => ?_) (fun K hK => ?_)
  rotate_left
  · simp only [bodyZ, asgG, dropG, retG, retNG, ifG, skipG, augG, parG, par3G, frzG, setFldG, asgTG, forG, nameT, tupT, consT, nilT, subT, attrT, varZ, cZ, binZ, unZ, caZ, boolZ, andZ, orZ, notZ, andV, orV, notV, ifZ, chainZ, nilZ, consZ, tupZ, lstZ, lstHZ, callZ, methZ, makeZ, makeNZ, fldZ, frzE, deepE, lcZ, dcZ, dispZ, pnilZ, pconsZ, oneD, walkU, srcU, walkE, srcE, walkR1, walkR2, walkS, joinedZ, jconsZ, jnilZ, fmtZ, dgetZ, dinZ, dninZ, bmZ, intZ0, intZ, uintZ, sliceZ, partZ, noPartZ, cutQ, yesZ, Z.lenZ, lenQ, listZ, listHZ, tupleZ, sortedSZ, allZ, anyZ, intZ1, strIZ, mulSZ, addZ, repHZ, repZ, appendZ, extendZ, insertZ, countSZ, joinZ, isBlZ, inZ, isOwnQ, eqZ_int, eqZ_str, eqZ_bl, neZ_int, neZ_str, neZ_bl, lenOwnZ, strOwnZ, reprZ, wipeE, kwD, List.set_cons_zero, List.set_cons_succ, List.getElem?_cons_zero, List.getElem?_cons_succ, List.map_cons, List.map_nil, List.cons_append, List.nil_append, List.append_nil, List.length_cons, List.length_nil, Nat.reduceAdd, Nat.reduceSub, List.replicate_succ, List.replicate_zero, if_true, if_false, Bool.false_eq_true, Nat.zero_add]
    refine ⟨_, _, _, dic_enc M _, rfl, val_names M, trivial, S.length, _, rfl, hb0, by rw [List.length_map]; omega, fun l1 p1 => ?_⟩
    refine ⟨trivial, M, ok, rfl, trivial, S.length, _, rfl, at_app hb0, by omega, fun l2 p2 => ⟨trivial, M, ok, rfl, by decide, ?_⟩⟩
    obtain ⟨xs, rfl, hx⟩ := perm_map_inv D.str p1 _ rfl
    obtain ⟨ps, rfl, hps⟩ := perm_map_inv M.pr p2 _ rfl
    refine hK _ _ ⟨xs, ps, hx, hps, ?_, by simp⟩
    simp
  obtain ⟨xs, ps, hx, hps, rfl, rfl⟩ := hP
  generalize hT1 : S ++ [C.abs BagOk, .lst (xs.map .str), .lst (ps.map M.pr), .lst ((restS M).map .str)] = T1
  have a0 : T1[S.length]? = some (.abs BagOk) := by rw [← hT1]; simp
  have a1 : T1[S.length + 1]? = some (.lst (xs.map .str)) := by rw [← hT1]; simp
  have a2 : T1[S.length + 2]? = some (.lst (ps.map M.pr)) := by rw [← hT1]; simp
  have a3 : T1[S.length + 3]? = some (.lst ((restS M).map .str)) := by rw [← hT1]; simp
  have psl : ps.length ≤ 256 := by rw [hps.length_eq]; exact few
  -- copies
  refine seq_with (fun δ S' => δ = [some (.kls (ns.map .int)), some (.hnd S.length), some (encM M), some (.lst [.hnd (S.length + 1), .hnd (S.length + 2), .hnd (S.length + 3)]), some (.hnd T1.length), none, none, none, none, none, none, none] ∧ S' = T1 ++ [.lst [.lst (xs.map .str), .lst (ps.map M.pr), .lst ((restS M).map .str)]]) (fun δ S' hP => ?_) (fun K hK => ?_)
  rotate_left
  · simp only [bodyZ, asgG, dropG, retG, retNG, ifG, skipG, augG, parG, par3G, frzG, setFldG, asgTG, forG, nameT, tupT, consT, nilT, subT, attrT, varZ, cZ, binZ, unZ, caZ, boolZ, andZ, orZ, notZ, andV, orV, notV, ifZ, chainZ, nilZ, consZ, tupZ, lstZ, lstHZ, callZ, methZ, makeZ, makeNZ, fldZ, frzE, deepE, lcZ, dcZ, dispZ, pnilZ, pconsZ, oneD, walkU, srcU, walkE, srcE, walkR1, walkR2, walkS, joinedZ, jconsZ, jnilZ, fmtZ, dgetZ, dinZ, dninZ, bmZ, intZ0, intZ, uintZ, sliceZ, partZ, noPartZ, cutQ, yesZ, Z.lenZ, lenQ, listZ, listHZ, tupleZ, sortedSZ, allZ, anyZ, intZ1, strIZ, mulSZ, addZ, repHZ, repZ, appendZ, extendZ, insertZ, countSZ, joinZ, isBlZ, inZ, isOwnQ, eqZ_int, eqZ_str, eqZ_bl, neZ_int, neZ_str, neZ_bl, lenOwnZ, strOwnZ, reprZ, wipeE, kwD, List.set_cons_zero, List.set_cons_succ, List.getElem?_cons_zero, List.getElem?_cons_succ, List.map_cons, List.map_nil, List.cons_append, List.nil_append, List.append_nil, List.length_cons, List.length_nil, Nat.reduceAdd, Nat.reduceSub, List.replicate_succ, List.replicate_zero, if_true, if_false, Bool.false_eq_true, Nat.zero_add]
    refine lc_pure (fun d => match d with
      | .hnd n => if n = S.length + 1 then some (.lst (xs.map .str)) else if n = S.length + 2 then some (.lst (ps.map M.pr)) else some (.lst ((restS M).map .str))
      | _ => none) (by simp) (fun _ => trivial) (fun x hx l k k' k1 k2 => ?_) (hK _ _ ⟨rfl, by simp⟩)
    simp only [List.mem_cons, List.not_mem_nil, or_false] at hx
    rcases hx with rfl | rfl | rfl
    · simp only [bodyZ, asgG, dropG, retG, retNG, ifG, skipG, augG, parG, par3G, frzG, setFldG, asgTG, forG, nameT, tupT, consT, nilT, subT, attrT, varZ, cZ, binZ, unZ, caZ, boolZ, andZ, orZ, notZ, andV, orV, notV, ifZ, chainZ, nilZ, consZ, tupZ, lstZ, lstHZ, callZ, methZ, makeZ, makeNZ, fldZ, frzE, deepE, lcZ, dcZ, dispZ, pnilZ, pconsZ, oneD, walkU, srcU, walkE, srcE, walkR1, walkR2, walkS, joinedZ, jconsZ, jnilZ, fmtZ, dgetZ, dinZ, dninZ, bmZ, intZ0, intZ, uintZ, sliceZ, partZ, noPartZ, cutQ, yesZ, Z.lenZ, lenQ, listZ, listHZ, tupleZ, sortedSZ, allZ, anyZ, intZ1, strIZ, mulSZ, addZ, repHZ, repZ, appendZ, extendZ, insertZ, countSZ, joinZ, isBlZ, inZ, isOwnQ, eqZ_int, eqZ_str, eqZ_bl, neZ_int, neZ_str, neZ_bl, lenOwnZ, strOwnZ, reprZ, wipeE, kwD, List.set_cons_zero, List.set_cons_succ, List.getElem?_cons_zero, List.getElem?_cons_succ, List.map_cons, List.map_nil, List.cons_append, List.nil_append, List.append_nil, List.length_cons, List.length_nil, Nat.reduceAdd, Nat.reduceSub, List.replicate_succ, List.replicate_zero, if_true, if_false, Bool.false_eq_true, Nat.zero_add]
      exact ⟨_, seqOf_at (at_app a1), k1 _ (by simp)⟩
    · simp only [bodyZ, asgG, dropG, retG, retNG, ifG, skipG, augG, parG, par3G, frzG, setFldG, asgTG, forG, nameT, tupT, consT, nilT, subT, attrT, varZ, cZ, binZ, unZ, caZ, boolZ, andZ, orZ, notZ, andV, orV, notV, ifZ, chainZ, nilZ, consZ, tupZ, lstZ, lstHZ, callZ, methZ, makeZ, makeNZ, fldZ, frzE, deepE, lcZ, dcZ, dispZ, pnilZ, pconsZ, oneD, walkU, srcU, walkE, srcE, walkR1, walkR2, walkS, joinedZ, jconsZ, jnilZ, fmtZ, dgetZ, dinZ, dninZ, bmZ, intZ0, intZ, uintZ, sliceZ, partZ, noPartZ, cutQ, yesZ, Z.lenZ, lenQ, listZ, listHZ, tupleZ, sortedSZ, allZ, anyZ, intZ1, strIZ, mulSZ, addZ, repHZ, repZ, appendZ, extendZ, insertZ, countSZ, joinZ, isBlZ, inZ, isOwnQ, eqZ_int, eqZ_str, eqZ_bl, neZ_int, neZ_str, neZ_bl, lenOwnZ, strOwnZ, reprZ, wipeE, kwD, List.set_cons_zero, List.set_cons_succ, List.getElem?_cons_zero, List.getElem?_cons_succ, List.map_cons, List.map_nil, List.cons_append, List.nil_append, List.append_nil, List.length_cons, List.length_nil, Nat.reduceAdd, Nat.reduceSub, List.replicate_succ, List.replicate_zero, if_true, if_false, Bool.false_eq_true, Nat.zero_add]
      exact ⟨_, seqOf_at (at_app a2), k1 _ (by simp)⟩
    · simp only [bodyZ, asgG, dropG, retG, retNG, ifG, skipG, augG, parG, par3G, frzG, setFldG, asgTG, forG, nameT, tupT, consT, nilT, subT, attrT, varZ, cZ, binZ, unZ, caZ, boolZ, andZ, orZ, notZ, andV, orV, notV, ifZ, chainZ, nilZ, consZ, tupZ, lstZ, lstHZ, callZ, methZ, makeZ, makeNZ, fldZ, frzE, deepE, lcZ, dcZ, dispZ, pnilZ, pconsZ, oneD, walkU, srcU, walkE, srcE, walkR1, walkR2, walkS, joinedZ, jconsZ, jnilZ, fmtZ, dgetZ, dinZ, dninZ, bmZ, intZ0, intZ, uintZ, sliceZ, partZ, noPartZ, cutQ, yesZ, Z.lenZ, lenQ, listZ, listHZ, tupleZ, sortedSZ, allZ, anyZ, intZ1, strIZ, mulSZ, addZ, repHZ, repZ, appendZ, extendZ, insertZ, countSZ, joinZ, isBlZ, inZ, isOwnQ, eqZ_int, eqZ_str, eqZ_bl, neZ_int, neZ_str, neZ_bl, lenOwnZ, strOwnZ, reprZ, wipeE, kwD, List.set_cons_zero, List.set_cons_succ, List.getElem?_cons_zero, List.getElem?_cons_succ, List.map_cons, List.map_nil, List.cons_append, List.nil_append, List.append_nil, List.length_cons, List.length_nil, Nat.reduceAdd, Nat.reduceSub, List.replicate_succ, List.replicate_zero, if_true, if_false, Bool.false_eq_true, Nat.zero_add]
      exact ⟨_, seqOf_at (at_app a3), k1 _ (by simp)⟩
  obtain ⟨rfl, rfl⟩ := hP
  refine ⟨_, _, _, rfl, at_new _ _, rfl, ?_⟩
  rw [set_new]
  simp only [List.set_cons_zero, List.set_cons_succ]
  generalize hT2 : T1 ++ [C.dead] = T2
  have b0 : T2[S.length]? = some (.abs BagOk) := by rw [← hT2]; exact at_app a0
  have b1 : T2[S.length + 1]? = some (.lst (xs.map .str)) := by rw [← hT2]; exact at_app a1
  have b2 : T2[S.length + 2]? = some (.lst (ps.map M.pr)) := by rw [← hT2]; exact at_app a2
  have b3 : T2[S.length + 3]? = some (.lst ((restS M).map .str)) := by rw [← hT2]; exact at_app a3
  have g0 : atI [D.hnd (S.length + 1), D.hnd (S.length + 2), D.hnd (S.length + 3)] 0 = some (.hnd (S.length + 1)) := rfl
  have g1 : atI [D.hnd (S.length + 1), D.hnd (S.length + 2), D.hnd (S.length + 3)] 1 = some (.hnd (S.length + 2)) := rfl
  have g2 : atI [D.hnd (S.length + 1), D.hnd (S.length + 2), D.hnd (S.length + 3)] 2 = some (.hnd (S.length + 3)) := rfl
  -- the company
  refine seq_with (fun δ S' => δ = [some (.kls (ns.map .int)), some (.hnd S.length), some (encM M), some (.lst [.hnd (S.length + 1), .hnd (S.length + 2), .hnd (S.length + 3)]), some (.lst [.lst (xs.map .str), .lst (ps.map M.pr), .lst ((restS M).map .str)]), some (coM α M), none, none, none, none, none, none] ∧ S' = T2) (fun δ S' hP => ?_) (fun K hK => ?_)
  rotate_left
  · simp only [bodyZ, asgG, dropG, retG, retNG, ifG, skipG, augG, parG, par3G, frzG, setFldG, asgTG, forG, nameT, tupT, consT, nilT, subT, attrT, varZ, cZ, binZ, unZ, caZ, boolZ, andZ, orZ, notZ, andV, orV, notV, ifZ, chainZ, nilZ, consZ, tupZ, lstZ, lstHZ, callZ, methZ, makeZ, makeNZ, fldZ, frzE, deepE, lcZ, dcZ, dispZ, pnilZ, pconsZ, oneD, walkU, srcU, walkE, srcE, walkR1, walkR2, walkS, joinedZ, jconsZ, jnilZ, fmtZ, dgetZ, dinZ, dninZ, bmZ, intZ0, intZ, uintZ, sliceZ, partZ, noPartZ, cutQ, yesZ, Z.lenZ, lenQ, listZ, listHZ, tupleZ, sortedSZ, allZ, anyZ, intZ1, strIZ, mulSZ, addZ, repHZ, repZ, appendZ, extendZ, insertZ, countSZ, joinZ, isBlZ, inZ, isOwnQ, eqZ_int, eqZ_str, eqZ_bl, neZ_int, neZ_str, neZ_bl, lenOwnZ, strOwnZ, reprZ, wipeE, kwD, List.set_cons_zero, List.set_cons_succ, List.getElem?_cons_zero, List.getElem?_cons_succ, List.map_cons, List.map_nil, List.cons_append, List.nil_append, List.append_nil, List.length_cons, List.length_nil, Nat.reduceAdd, Nat.reduceSub, List.replicate_succ, List.replicate_zero, if_true, if_false, Bool.false_eq_true, Nat.zero_add, getZ_lst g0, getZ_lst g1, getZ_lst g2]
    refine ⟨_, lstOf_at b3, _, lstOf_at b3, ?_, _, seqOf_at b2, trivial, trivial, trivial, T2.length, _, _, _, M, xs, ps, restI M ++ (restI M).take 1, rfl, ok, seqOf_at (at_app b1), hx, .inr rfl, .inl ?_, fit_sw ok ⟨rfl, fun j p q h1 h2 => by rw [h1] at h2; cases h2; exact .inl rfl⟩ hps (fun i => ?_), at_new _ _, rfl, ?_⟩
    · rw [show (1 : Int) = ((1 : Nat) : Int) from rfl, cutD_take, List.length_map, List.length_take, List.length_map]
      omega
    · rw [show (1 : Int) = ((1 : Nat) : Int) from rfl, cutD_take, ← List.map_take, ← List.map_append]
      unfold restS
      rw [← List.map_take, ← List.map_append]
      rfl
    · constructor
      · intro hm
        rcases List.mem_append.mp hm with hm | hm
        · exact hm
        · exact List.mem_of_mem_take hm
      · exact fun hm => List.mem_append_left _ hm
    · rw [set_new]
      exact frz_ins (fl_flds M) (hK _ _ ⟨rfl, rfl⟩)
  obtain ⟨rfl, hS⟩ := hP
  have hS := hS.symm
  subst hS
  -- asked
  refine seq_with (fun δ S' => δ = [some (.kls (ns.map .int)), some (.hnd S.length), some (encM M), some (.lst [.hnd (S.length + 1), .hnd (S.length + 2), .hnd (S.length + 3)]), some (.lst [.lst (xs.map .str), .lst (ps.map M.pr), .lst ((restS M).map .str)]), some (coM α M), none, none, none, none, none, none] ∧ S' = T2) (fun δ S' hP => ?_) (fun K hK => ?_)
  rotate_left
  · simp only [bodyZ, asgG, dropG, retG, retNG, ifG, skipG, augG, parG, par3G, frzG, setFldG, asgTG, forG, nameT, tupT, consT, nilT, subT, attrT, varZ, cZ, binZ, unZ, caZ, boolZ, andZ, orZ, notZ, andV, orV, notV, ifZ, chainZ, nilZ, consZ, tupZ, lstZ, lstHZ, callZ, methZ, makeZ, makeNZ, fldZ, frzE, deepE, lcZ, dcZ, dispZ, pnilZ, pconsZ, oneD, walkU, srcU, walkE, srcE, walkR1, walkR2, walkS, joinedZ, jconsZ, jnilZ, fmtZ, dgetZ, dinZ, dninZ, bmZ, intZ0, intZ, uintZ, sliceZ, partZ, noPartZ, cutQ, yesZ, Z.lenZ, lenQ, listZ, listHZ, tupleZ, sortedSZ, allZ, anyZ, intZ1, strIZ, mulSZ, addZ, repHZ, repZ, appendZ, extendZ, insertZ, countSZ, joinZ, isBlZ, inZ, isOwnQ, eqZ_int, eqZ_str, eqZ_bl, neZ_int, neZ_str, neZ_bl, lenOwnZ, strOwnZ, reprZ, wipeE, kwD, List.set_cons_zero, List.set_cons_succ, List.getElem?_cons_zero, List.getElem?_cons_succ, List.map_cons, List.map_nil, List.cons_append, List.nil_append, List.append_nil, List.length_cons, List.length_nil, Nat.reduceAdd, Nat.reduceSub, List.replicate_succ, List.replicate_zero, if_true, if_false, Bool.false_eq_true, Nat.zero_add]
    have nc : Nc (.list [.list (xs.map .str), .list (ps.map (pairP M)), .list ((restS M).map .str)]) 3 (3 * (256 * 19 + 1)) := Nc.list (k := 2) (w := 256 * 19) (n := 3) (fun d hd => by
      simp only [List.mem_cons, List.not_mem_nil, or_false] at hd
      rcases hd with rfl | rfl | rfl
      · exact (nc_names ok (fun x hx' => hx.mem_iff.mp hx') (by rw [hx.length_eq]; omega)).mono (by decide) (by decide)
      · exact (nc_ties ok (fun p hp => tiesI_both p (hps.mem_iff.mp hp)) psl).mono (by decide) (by decide)
      · exact (nc_names ok restS_mem rfew).mono (by decide) (by decide)) (by simp)
    refine ⟨.list [.list (xs.map .str), .list (ps.map (pairP M)), .list ((restS M).map .str)], .list [.list (xs.map .str), .list (ps.map (pairP M)), .list ((restS M).map .str)], isP_lst (isPs_cons (isP_hnd b1 (isPs_strs _ _)) (isPs_cons (isP_hnd b2 (isPs_ties M _ _)) (isPs_cons (isP_hnd b3 (isPs_strs _ _)) (isPs_nil _)))), isP_lst (isPs_cons (isP_lst (isPs_strs _ _)) (isPs_cons (isP_lst (isPs_ties M _ _)) (isPs_cons (isP_lst (isPs_strs _ _)) (isPs_nil _)))), nc.shaped (by decide), nc.shaped (by decide), ?_⟩
    rw [nc.eqv]
    simp only [Bool.not_true, Bool.false_eq_true, if_false]
    exact ⟨trivial, M, ok, rfl, trivial, M, ok, rfl, hK _ _ ⟨rfl, rfl⟩⟩
  obtain ⟨rfl, hS⟩ := hP
  have hS := hS.symm
  subst hS
  -- what was handed out is the asker's own
  refine seq_with (fun δ S' => (∃ x, δ = [some (.kls (ns.map .int)), some (.hnd S.length), some (encM M), some (.lst [.hnd (S.length + 1), .hnd (S.length + 2), .hnd (S.length + 3)]), some (.lst [.lst (xs.map .str), .lst (ps.map M.pr), .lst ((restS M).map .str)]), some (coM α M), x, none, none, none, none, none]) ∧ ∃ T, S' = S ++ T ∧ S'[S.length]? = some (.abs BagOk)) (fun δ S' hP => ?_) (fun K hK => ?_)
  rotate_left
  · simp only [forG, walkU, addZ, lstZ, consZ, nilZ, methZ, binZ, varZ, List.getElem?_cons_zero, List.getElem?_cons_succ]
    refine ⟨noC α M (by decide +kernel) (by decide +kernel) (by decide +kernel) _, rfl, M, ok, rfl, noC α M (by decide +kernel) (by decide +kernel) (by decide +kernel) _, rfl, M, ok, rfl, noC α M (by decide +kernel) (by decide +kernel) (by decide +kernel) _, rfl, M, ok, rfl, by simp, by simp, ?_⟩
    have el : T2.length = S.length + 5 := by rw [← hT2, ← hT1]; simp
    generalize hhs : ([D.hnd (S.length + 1), D.hnd (S.length + 2), D.hnd (S.length + 3)] ++ [D.hnd T2.length, D.hnd (T2 ++ [C.lst (M.ns.map .str)]).length, D.hnd (T2 ++ [C.lst (M.ns.map .str)] ++ [C.lst (tiesD M)]).length] : List D) = hs
    have hhn : ∀ d ∈ hs, ∃ n, d = .hnd n ∧ S.length < n := by
      intro d hd
      rw [← hhs] at hd
      simp only [List.mem_append, List.mem_cons, List.not_mem_nil, or_false] at hd
      rcases hd with (rfl | rfl | rfl) | rfl | rfl | rfl
      · exact ⟨_, rfl, by omega⟩
      · exact ⟨_, rfl, by omega⟩
      · exact ⟨_, rfl, by omega⟩
      · exact ⟨_, rfl, by omega⟩
      · exact ⟨_, rfl, by simp; omega⟩
      · exact ⟨_, rfl, by simp; omega⟩
    refine loop_at hs (fun i δ S' => (∃ x, δ = [some (.kls (ns.map .int)), some (.hnd S.length), some (encM M), some (.lst [.hnd (S.length + 1), .hnd (S.length + 2), .hnd (S.length + 3)]), some (.lst [.lst (xs.map .str), .lst (ps.map M.pr), .lst ((restS M).map .str)]), some (coM α M), x, none, none, none, none, none]) ∧ (∃ T, S' = S ++ T ∧ S'[S.length]? = some (.abs BagOk)) ∧ i ≤ hs.length ∧ ∀ n, D.hnd n ∈ hs → ∃ l, S'[n]? = some (.lst l) ∧ l.length ≤ 1000 + i) ⟨⟨_, rfl⟩, ⟨[.abs BagOk, .lst (xs.map .str), .lst (ps.map M.pr), .lst ((restS M).map .str), .dead, .lst (M.ns.map .str), .lst (tiesD M), .lst ((restS M).map .str)], by rw [← hT2, ← hT1]; simp, at_app (at_app (at_app b0))⟩, Nat.zero_le _, fun n hd => ?_⟩ (fun δ S' hP => ⟨trivial, hK _ _ ⟨hP.1, hP.2.1⟩⟩) (fun i x δ S' k hx' hP hk => ?_)
    · rw [← hhs] at hd
      simp only [List.mem_append, List.mem_cons, List.not_mem_nil, or_false, D.hnd.injEq] at hd
      rcases hd with (rfl | rfl | rfl) | rfl | rfl | rfl
      · exact ⟨_, at_app (at_app (at_app b1)), by rw [List.length_map, hx.length_eq]; omega⟩
      · exact ⟨_, at_app (at_app (at_app b2)), by rw [List.length_map]; omega⟩
      · exact ⟨_, at_app (at_app (at_app b3)), by rw [List.length_map]; omega⟩
      · exact ⟨_, at_app (at_app (at_new _ _)), by rw [List.length_map]; omega⟩
      · exact ⟨_, at_app (at_new _ _), by omega⟩
      · exact ⟨_, at_new _ _, by rw [List.length_map]; omega⟩
    · obtain ⟨⟨x0, rfl⟩, ⟨T, hT, hab⟩, hi, hall⟩ := hP
      have hmem := List.mem_of_getElem? hx'
      obtain ⟨n, rfl, hlt⟩ := hhn x hmem
      obtain ⟨l, hl1, hl2⟩ := hall n hmem
      have hil : i < hs.length := (List.getElem?_eq_some_iff.mp hx').1
      have h6 : hs.length = 6 := by rw [← hhs]; rfl
      simp only [bodyZ, asgG, dropG, retG, retNG, ifG, skipG, augG, parG, par3G, frzG, setFldG, asgTG, forG, nameT, tupT, consT, nilT, subT, attrT, varZ, cZ, binZ, unZ, caZ, boolZ, andZ, orZ, notZ, andV, orV, notV, ifZ, chainZ, nilZ, consZ, tupZ, lstZ, lstHZ, callZ, methZ, makeZ, makeNZ, fldZ, frzE, deepE, lcZ, dcZ, dispZ, pnilZ, pconsZ, oneD, walkU, srcU, walkE, srcE, walkR1, walkR2, walkS, joinedZ, jconsZ, jnilZ, fmtZ, dgetZ, dinZ, dninZ, bmZ, intZ0, intZ, uintZ, sliceZ, partZ, noPartZ, cutQ, yesZ, Z.lenZ, lenQ, listZ, listHZ, tupleZ, sortedSZ, allZ, anyZ, intZ1, strIZ, mulSZ, addZ, repHZ, repZ, appendZ, extendZ, insertZ, countSZ, joinZ, isBlZ, inZ, isOwnQ, eqZ_int, eqZ_str, eqZ_bl, neZ_int, neZ_str, neZ_bl, lenOwnZ, strOwnZ, reprZ, wipeE, kwD, List.set_cons_zero, List.set_cons_succ, List.getElem?_cons_zero, List.getElem?_cons_succ, List.map_cons, List.map_nil, List.cons_append, List.nil_append, List.append_nil, List.length_cons, List.length_nil, Nat.reduceAdd, Nat.reduceSub, List.replicate_succ, List.replicate_zero, if_true, if_false, Bool.false_eq_true, Nat.zero_add]
      refine ⟨trivial, ⟨l, lstOf_at hl1⟩, l, hl1, by omega, hk _ _ ⟨⟨_, rfl⟩, ⟨T.set (n - S.length) (.lst (l ++ [.str ""])), ?_, ?_⟩, hil, fun m hm => ?_⟩⟩
      · rw [hT, List.set_append_right _ _ (by omega)]
      · rw [List.getElem?_set_ne (by omega)]; exact hab
      · by_cases hnm : n = m
        · subst hnm
          exact ⟨_, List.getElem?_set_self (List.getElem?_eq_some_iff.mp hl1).1, by simp; omega⟩
        · obtain ⟨l', q1, q2⟩ := hall m hm
          exact ⟨l', by rw [List.getElem?_set_ne hnm]; exact q1, by omega⟩
  obtain ⟨⟨x6, rfl⟩, T, rfl, hb⟩ := hP
  -- another one
  refine seq_with (fun δ S' => δ = [some (.kls (ns.map .int)), some (.hnd S.length), some (encM M), some (.lst [.hnd (S.length + 1), .hnd (S.length + 2), .hnd (S.length + 3)]), some (.lst [.lst (xs.map .str), .lst (ps.map M.pr), .lst ((restS M).map .str)]), some (coM α M), x6, some (coM α M), none, none, none, none] ∧ S' = S ++ T) (fun δ S' hP => ?_) (fun K hK => ?_)
  rotate_left
  · simp only [bodyZ, asgG, dropG, retG, retNG, ifG, skipG, augG, parG, par3G, frzG, setFldG, asgTG, forG, nameT, tupT, consT, nilT, subT, attrT, varZ, cZ, binZ, unZ, caZ, boolZ, andZ, orZ, notZ, andV, orV, notV, ifZ, chainZ, nilZ, consZ, tupZ, lstZ, lstHZ, callZ, methZ, makeZ, makeNZ, fldZ, frzE, deepE, lcZ, dcZ, dispZ, pnilZ, pconsZ, oneD, walkU, srcU, walkE, srcE, walkR1, walkR2, walkS, joinedZ, jconsZ, jnilZ, fmtZ, dgetZ, dinZ, dninZ, bmZ, intZ0, intZ, uintZ, sliceZ, partZ, noPartZ, cutQ, yesZ, Z.lenZ, lenQ, listZ, listHZ, tupleZ, sortedSZ, allZ, anyZ, intZ1, strIZ, mulSZ, addZ, repHZ, repZ, appendZ, extendZ, insertZ, countSZ, joinZ, isBlZ, inZ, isOwnQ, eqZ_int, eqZ_str, eqZ_bl, neZ_int, neZ_str, neZ_bl, lenOwnZ, strOwnZ, reprZ, wipeE, kwD, List.set_cons_zero, List.set_cons_succ, List.getElem?_cons_zero, List.getElem?_cons_succ, List.map_cons, List.map_nil, List.cons_append, List.nil_append, List.append_nil, List.length_cons, List.length_nil, Nat.reduceAdd, Nat.reduceSub, List.replicate_succ, List.replicate_zero, if_true, if_false, Bool.false_eq_true, Nat.zero_add]
    exact ⟨trivial, S.length, M, ok, rfl, hb, hK _ _ ⟨rfl, rfl⟩⟩
  obtain ⟨rfl, rfl⟩ := hP
  refine seq_with (fun δ S' => δ = [some (.kls (ns.map .int)), some (.hnd S.length), some (encM M), some (.lst [.hnd (S.length + 1), .hnd (S.length + 2), .hnd (S.length + 3)]), some (.lst [.lst (xs.map .str), .lst (ps.map M.pr), .lst ((restS M).map .str)]), some (coM α M), x6, some (coM α M), none, none, none, none] ∧ S' = S ++ T) (fun δ S' hP => ?_) (fun K hK => ?_)
  rotate_left
  · simp only [bodyZ, asgG, dropG, retG, retNG, ifG, skipG, augG, parG, par3G, frzG, setFldG, asgTG, forG, nameT, tupT, consT, nilT, subT, attrT, varZ, cZ, binZ, unZ, caZ, boolZ, andZ, orZ, notZ, andV, orV, notV, ifZ, chainZ, nilZ, consZ, tupZ, lstZ, lstHZ, callZ, methZ, makeZ, makeNZ, fldZ, frzE, deepE, lcZ, dcZ, dispZ, pnilZ, pconsZ, oneD, walkU, srcU, walkE, srcE, walkR1, walkR2, walkS, joinedZ, jconsZ, jnilZ, fmtZ, dgetZ, dinZ, dninZ, bmZ, intZ0, intZ, uintZ, sliceZ, partZ, noPartZ, cutQ, yesZ, Z.lenZ, lenQ, listZ, listHZ, tupleZ, sortedSZ, allZ, anyZ, intZ1, strIZ, mulSZ, addZ, repHZ, repZ, appendZ, extendZ, insertZ, countSZ, joinZ, isBlZ, inZ, isOwnQ, eqZ_int, eqZ_str, eqZ_bl, neZ_int, neZ_str, neZ_bl, lenOwnZ, strOwnZ, reprZ, wipeE, kwD, List.set_cons_zero, List.set_cons_succ, List.getElem?_cons_zero, List.getElem?_cons_succ, List.map_cons, List.map_nil, List.cons_append, List.nil_append, List.append_nil, List.length_cons, List.length_nil, Nat.reduceAdd, Nat.reduceSub, List.replicate_succ, List.replicate_zero, if_true, if_false, Bool.false_eq_true, Nat.zero_add]
    refine ⟨trivial, M, ok, rfl, ?_⟩
    simp only [Bool.not_true, Bool.false_eq_true, if_false]
    refine eq_own α ok ok id ?_
    simp only [decide_true, Bool.and_self, id, Bool.not_true, Bool.false_eq_true, if_false]
    refine eq_own α ok ok not ?_
    simp only [decide_true, Bool.and_self, id, Bool.not_true, Bool.false_eq_true, if_false]
    exact hK _ _ ⟨rfl, rfl⟩
  obtain ⟨rfl, rfl⟩ := hP
  -- nobody
  refine seq_with (fun δ S' => M.ns ≠ [] ∧ δ = [some (.kls (ns.map .int)), some (.hnd S.length), some (encM M), some (.lst [.hnd (S.length + 1), .hnd (S.length + 2), .hnd (S.length + 3)]), some (.lst [.lst (xs.map .str), .lst (ps.map M.pr), .lst ((restS M).map .str)]), some (coM α M), x6, some (coM α M), none, none, none, none] ∧ S' = S ++ T) (fun δ S' hP => ?_) (fun K hK => ?_)
  rotate_left
  · simp only [bodyZ, asgG, dropG, retG, retNG, ifG, skipG, augG, parG, par3G, frzG, setFldG, asgTG, forG, nameT, tupT, consT, nilT, subT, attrT, varZ, cZ, binZ, unZ, caZ, boolZ, andZ, orZ, notZ, andV, orV, notV, ifZ, chainZ, nilZ, consZ, tupZ, lstZ, lstHZ, callZ, methZ, makeZ, makeNZ, fldZ, frzE, deepE, lcZ, dcZ, dispZ, pnilZ, pconsZ, oneD, walkU, srcU, walkE, srcE, walkR1, walkR2, walkS, joinedZ, jconsZ, jnilZ, fmtZ, dgetZ, dinZ, dninZ, bmZ, intZ0, intZ, uintZ, sliceZ, partZ, noPartZ, cutQ, yesZ, Z.lenZ, lenQ, listZ, listHZ, tupleZ, sortedSZ, allZ, anyZ, intZ1, strIZ, mulSZ, addZ, repHZ, repZ, appendZ, extendZ, insertZ, countSZ, joinZ, isBlZ, inZ, isOwnQ, eqZ_int, eqZ_str, eqZ_bl, neZ_int, neZ_str, neZ_bl, lenOwnZ, strOwnZ, reprZ, wipeE, kwD, List.set_cons_zero, List.set_cons_succ, List.getElem?_cons_zero, List.getElem?_cons_succ, List.map_cons, List.map_nil, List.cons_append, List.nil_append, List.append_nil, List.length_cons, List.length_nil, Nat.reduceAdd, Nat.reduceSub, List.replicate_succ, List.replicate_zero, if_true, if_false, Bool.false_eq_true, Nat.zero_add]
    refine ⟨_, _, _, dic_enc M _, rfl, val_names M, by decide, ?_⟩
    have ncn := nc_names ok (fun x hx => hx) (by omega)
    refine ⟨.list (M.ns.map .str), .list (([] : List Str).map .str), isP_lst (isPs_strs _ _), isP_lst (isPs_strs _ []), ncn.shaped (by decide), rfl, ?_⟩
    rw [PyData.eqv, eqv_strs]
    by_cases he : M.ns = []
    · rw [decide_eq_true he]
      simp only [if_true, d0_Company_2]
      have okn : Md.Ok ⟨[], fun _ _ => false⟩ := ⟨by decide, .nil, rfl, fun x hx => (by cases hx), fun _ _ => rfl⟩
      refine ⟨by decide, rfl, make_bare α okn rfl ?_⟩
      refine eq_own α ok okn id ?_
      have ht : tabM M = tabM ⟨[], fun _ _ => false⟩ := by
        have h0 : M.n = 0 := by show M.ns.length = 0; rw [he]; rfl
        unfold tabM
        rw [h0]
        rfl
      rw [decide_eq_true (show M.ns = (⟨[], fun _ _ => false⟩ : Md).ns from he), decide_eq_true ht]
      simp only [bodyZ, asgG, dropG, retG, retNG, ifG, skipG, augG, parG, par3G, frzG, setFldG, asgTG, forG, nameT, tupT, consT, nilT, subT, attrT, varZ, cZ, binZ, unZ, caZ, boolZ, andZ, orZ, notZ, andV, orV, notV, ifZ, chainZ, nilZ, consZ, tupZ, lstZ, lstHZ, callZ, methZ, makeZ, makeNZ, fldZ, frzE, deepE, lcZ, dcZ, dispZ, pnilZ, pconsZ, oneD, walkU, srcU, walkE, srcE, walkR1, walkR2, walkS, joinedZ, jconsZ, jnilZ, fmtZ, dgetZ, dinZ, dninZ, bmZ, intZ0, intZ, uintZ, sliceZ, partZ, noPartZ, cutQ, yesZ, Z.lenZ, lenQ, listZ, listHZ, tupleZ, sortedSZ, allZ, anyZ, intZ1, strIZ, mulSZ, addZ, repHZ, repZ, appendZ, extendZ, insertZ, countSZ, joinZ, isBlZ, inZ, isOwnQ, eqZ_int, eqZ_str, eqZ_bl, neZ_int, neZ_str, neZ_bl, lenOwnZ, strOwnZ, reprZ, wipeE, kwD, List.set_cons_zero, List.set_cons_succ, List.getElem?_cons_zero, List.getElem?_cons_succ, List.map_cons, List.map_nil, List.cons_append, List.nil_append, List.append_nil, List.length_cons, List.length_nil, Nat.reduceAdd, Nat.reduceSub, List.replicate_succ, List.replicate_zero, if_true, if_false, Bool.false_eq_true, Nat.zero_add, Bool.and_self, id]
      refine ⟨by decide, trivial, make_bare α okn rfl ⟨⟨_, rfl⟩, ⟨[], fun _ _ => false⟩, okn, rfl, ⟨_, rfl⟩, ?_⟩⟩
      exact end_same trivial h
    · rw [decide_eq_false he]
      exact hK _ _ ⟨he, rfl, rfl⟩
  obtain ⟨hne, rfl, rfl⟩ := hP
  -- somebody
  refine seq_with (fun δ S' => ∃ i, i < M.n ∧ δ = [some (.kls (ns.map .int)), some (.hnd S.length), some (encM M), some (.lst [.hnd (S.length + 1), .hnd (S.length + 2), .hnd (S.length + 3)]), some (.lst [.lst (xs.map .str), .lst (ps.map M.pr), .lst ((restS M).map .str)]), some (coM α M), x6, some (coM α M), some (.str (M.nm i)), none, none, none] ∧ S' = S ++ T) (fun δ S' hP => ?_) (fun K hK => ?_)
  rotate_left
  · simp only [bodyZ, asgG, dropG, retG, retNG, ifG, skipG, augG, parG, par3G, frzG, setFldG, asgTG, forG, nameT, tupT, consT, nilT, subT, attrT, varZ, cZ, binZ, unZ, caZ, boolZ, andZ, orZ, notZ, andV, orV, notV, ifZ, chainZ, nilZ, consZ, tupZ, lstZ, lstHZ, callZ, methZ, makeZ, makeNZ, fldZ, frzE, deepE, lcZ, dcZ, dispZ, pnilZ, pconsZ, oneD, walkU, srcU, walkE, srcE, walkR1, walkR2, walkS, joinedZ, jconsZ, jnilZ, fmtZ, dgetZ, dinZ, dninZ, bmZ, intZ0, intZ, uintZ, sliceZ, partZ, noPartZ, cutQ, yesZ, Z.lenZ, lenQ, listZ, listHZ, tupleZ, sortedSZ, allZ, anyZ, intZ1, strIZ, mulSZ, addZ, repHZ, repZ, appendZ, extendZ, insertZ, countSZ, joinZ, isBlZ, inZ, isOwnQ, eqZ_int, eqZ_str, eqZ_bl, neZ_int, neZ_str, neZ_bl, lenOwnZ, strOwnZ, reprZ, wipeE, kwD, List.set_cons_zero, List.set_cons_succ, List.getElem?_cons_zero, List.getElem?_cons_succ, List.map_cons, List.map_nil, List.cons_append, List.nil_append, List.append_nil, List.length_cons, List.length_nil, Nat.reduceAdd, Nat.reduceSub, List.replicate_succ, List.replicate_zero, if_true, if_false, Bool.false_eq_true, Nat.zero_add]
    refine ⟨_, _, _, dic_enc M _, rfl, val_names M, trivial, S.length, _, rfl, hb, fun he => hne (List.map_eq_nil_iff.mp he), by rw [List.length_map]; omega, fun d hd => ?_⟩
    rw [ns_eq M, List.map_map] at hd
    obtain ⟨i, hi, rfl⟩ := List.mem_map.mp hd
    exact hK _ _ ⟨i, List.mem_range.mp hi, rfl, rfl⟩
  obtain ⟨i, hi, rfl, rfl⟩ := hP
  have okt := ok_tail ok
  have h1 : 1 ≤ (M.ns.map D.str).length := by rw [List.length_map]; exact List.length_pos_iff.mpr hne
  refine seq_with (fun δ S' => δ = [some (.kls (ns.map .int)), some (.hnd S.length), some (encM M), some (.lst [.hnd (S.length + 1), .hnd (S.length + 2), .hnd (S.length + 3)]), some (.lst [.lst (xs.map .str), .lst (ps.map M.pr), .lst ((restS M).map .str)]), some (coM α M), x6, some (coM α M), some (.str (M.nm i)), some (.lst [coM α (turnM M i), coM α ⟨M.ns.drop 1, fun _ _ => false⟩, .str (textS M), .non, .lst (M.ns.map .str)]), none, none] ∧ S' = S ++ T) (fun δ S' hP => ?_) (fun K hK => ?_)
  rotate_left
  · simp only [bodyZ, asgG, dropG, retG, retNG, ifG, skipG, augG, parG, par3G, frzG, setFldG, asgTG, forG, nameT, tupT, consT, nilT, subT, attrT, varZ, cZ, binZ, unZ, caZ, boolZ, andZ, orZ, notZ, andV, orV, notV, ifZ, chainZ, nilZ, consZ, tupZ, lstZ, lstHZ, callZ, methZ, makeZ, makeNZ, fldZ, frzE, deepE, lcZ, dcZ, dispZ, pnilZ, pconsZ, oneD, walkU, srcU, walkE, srcE, walkR1, walkR2, walkS, joinedZ, jconsZ, jnilZ, fmtZ, dgetZ, dinZ, dninZ, bmZ, intZ0, intZ, uintZ, sliceZ, partZ, noPartZ, cutQ, yesZ, Z.lenZ, lenQ, listZ, listHZ, tupleZ, sortedSZ, allZ, anyZ, intZ1, strIZ, mulSZ, addZ, repHZ, repZ, appendZ, extendZ, insertZ, countSZ, joinZ, isBlZ, inZ, isOwnQ, eqZ_int, eqZ_str, eqZ_bl, neZ_int, neZ_str, neZ_bl, lenOwnZ, strOwnZ, reprZ, wipeE, kwD, List.set_cons_zero, List.set_cons_succ, List.getElem?_cons_zero, List.getElem?_cons_succ, List.map_cons, List.map_nil, List.cons_append, List.nil_append, List.append_nil, List.length_cons, List.length_nil, Nat.reduceAdd, Nat.reduceSub, List.replicate_succ, List.replicate_zero, if_true, if_false, Bool.false_eq_true, Nat.zero_add, d0_Company_2]
    refine ⟨noC α M (by decide +kernel) (by decide +kernel) (by decide +kernel) _, trivial, M, i, ok, hi, rfl, ?_⟩
    refine ⟨_, _, _, dic_enc M _, rfl, val_names M, _, rfl, trivial, ?_⟩
    refine make_bare α okt ?_ ⟨⟨_, rfl⟩, M, ok, rfl, ⟨_, rfl⟩, _, _, _, dic_enc M _, rfl, val_names M, by decide, hK _ _ ⟨rfl, rfl⟩⟩
    show some (cutD (M.ns.map D.str) (some ((1 : Nat) : Int)) none) = _
    rw [cutD_from 1 h1, ← List.map_drop]
  obtain ⟨rfl, rfl⟩ := hP
  have late : ∀ (g : Bool → Bool) (T : Store) (x : D) (Q : D → Store → Prop) (E : XD → Store → Prop), x ∈ [coM α (turnM M i), coM α ⟨M.ns.drop 1, fun _ _ => false⟩, .str (textS M), .non, .lst (M.ns.map .str)] → Q (.bl (g false)) T → eqOwnQ α.Company (m_Company___eq__ α) (tys_Company α) g (coM α M) x T Q E := by
    intro g T x Q E hx q
    simp only [List.mem_cons, List.not_mem_nil, or_false] at hx
    rcases hx with rfl | rfl | rfl | rfl | rfl
    · refine eq_own α ok (ok_turn ok i) g ?_
      rw [decide_eq_false (turn_ne hi), Bool.and_false]
      exact q
    · refine eq_own α ok okt g ?_
      have : M.ns ≠ M.ns.drop 1 := fun e => by
        have e1 := congrArg List.length e
        rw [List.length_drop] at e1
        have := List.length_pos_iff.mpr hne
        omega
      rw [decide_eq_false this, Bool.false_and]
      exact q
    · exact eq_other α ok g (t := .type "str") rfl (by simp [no_Company]) q
    · exact eq_other α ok g (t := .type "NoneType") rfl (by simp [no_Company]) q
    · exact eq_other α ok g (t := .type "list") rfl (by simp [no_Company]) q
  refine seq_with (fun δ S' => δ = [some (.kls (ns.map .int)), some (.hnd S.length), some (encM M), some (.lst [.hnd (S.length + 1), .hnd (S.length + 2), .hnd (S.length + 3)]), some (.lst [.lst (xs.map .str), .lst (ps.map M.pr), .lst ((restS M).map .str)]), some (coM α M), x6, some (coM α M), some (.str (M.nm i)), some (.lst [coM α (turnM M i), coM α ⟨M.ns.drop 1, fun _ _ => false⟩, .str (textS M), .non, .lst (M.ns.map .str)]), none, none] ∧ S' = S ++ T) (fun δ S' hP => ?_) (fun K hK => ?_)
  rotate_left
  · simp only [bodyZ, asgG, dropG, retG, retNG, ifG, skipG, augG, parG, par3G, frzG, setFldG, asgTG, forG, nameT, tupT, consT, nilT, subT, attrT, varZ, cZ, binZ, unZ, caZ, boolZ, andZ, orZ, notZ, andV, orV, notV, ifZ, chainZ, nilZ, consZ, tupZ, lstZ, lstHZ, callZ, methZ, makeZ, makeNZ, fldZ, frzE, deepE, lcZ, dcZ, dispZ, pnilZ, pconsZ, oneD, walkU, srcU, walkE, srcE, walkR1, walkR2, walkS, joinedZ, jconsZ, jnilZ, fmtZ, dgetZ, dinZ, dninZ, bmZ, intZ0, intZ, uintZ, sliceZ, partZ, noPartZ, cutQ, yesZ, Z.lenZ, lenQ, listZ, listHZ, tupleZ, sortedSZ, allZ, anyZ, intZ1, strIZ, mulSZ, addZ, repHZ, repZ, appendZ, extendZ, insertZ, countSZ, joinZ, isBlZ, inZ, isOwnQ, eqZ_int, eqZ_str, eqZ_bl, neZ_int, neZ_str, neZ_bl, lenOwnZ, strOwnZ, reprZ, wipeE, kwD, List.set_cons_zero, List.set_cons_succ, List.getElem?_cons_zero, List.getElem?_cons_succ, List.map_cons, List.map_nil, List.cons_append, List.nil_append, List.append_nil, List.length_cons, List.length_nil, Nat.reduceAdd, Nat.reduceSub, List.replicate_succ, List.replicate_zero, if_true, if_false, Bool.false_eq_true, Nat.zero_add]
    refine lc_pure (fun _ => some (.bl false)) (by simp) (fun _ => trivial) (fun x hx l k k' k1 k2 => ?_) (frz_lst ?_ ?_)
    · simp only [bodyZ, asgG, dropG, retG, retNG, ifG, skipG, augG, parG, par3G, frzG, setFldG, asgTG, forG, nameT, tupT, consT, nilT, subT, attrT, varZ, cZ, binZ, unZ, caZ, boolZ, andZ, orZ, notZ, andV, orV, notV, ifZ, chainZ, nilZ, consZ, tupZ, lstZ, lstHZ, callZ, methZ, makeZ, makeNZ, fldZ, frzE, deepE, lcZ, dcZ, dispZ, pnilZ, pconsZ, oneD, walkU, srcU, walkE, srcE, walkR1, walkR2, walkS, joinedZ, jconsZ, jnilZ, fmtZ, dgetZ, dinZ, dninZ, bmZ, intZ0, intZ, uintZ, sliceZ, partZ, noPartZ, cutQ, yesZ, Z.lenZ, lenQ, listZ, listHZ, tupleZ, sortedSZ, allZ, anyZ, intZ1, strIZ, mulSZ, addZ, repHZ, repZ, appendZ, extendZ, insertZ, countSZ, joinZ, isBlZ, inZ, isOwnQ, eqZ_int, eqZ_str, eqZ_bl, neZ_int, neZ_str, neZ_bl, lenOwnZ, strOwnZ, reprZ, wipeE, kwD, List.set_cons_zero, List.set_cons_succ, List.getElem?_cons_zero, List.getElem?_cons_succ, List.map_cons, List.map_nil, List.cons_append, List.nil_append, List.append_nil, List.length_cons, List.length_nil, Nat.reduceAdd, Nat.reduceSub, List.replicate_succ, List.replicate_zero, if_true, if_false, Bool.false_eq_true, Nat.zero_add]
      exact late id _ x _ _ hx (k1 _ rfl)
    · intro d hd
      obtain ⟨z, _, hz⟩ := List.mem_filterMap.mp hd
      cases hz
      exact Fl.bl _
    · refine ⟨[false, false, false, false, false], rfl, ?_⟩
      simp only [List.any_cons, List.any_nil, Bool.or_false, Bool.false_eq_true, if_false]
      refine lc_pure (fun _ => some (.bl true)) (by simp) (fun _ => trivial) (fun x hx l k k' k1 k2 => ?_) (frz_lst ?_ ?_)
      · simp only [bodyZ, asgG, dropG, retG, retNG, ifG, skipG, augG, parG, par3G, frzG, setFldG, asgTG, forG, nameT, tupT, consT, nilT, subT, attrT, varZ, cZ, binZ, unZ, caZ, boolZ, andZ, orZ, notZ, andV, orV, notV, ifZ, chainZ, nilZ, consZ, tupZ, lstZ, lstHZ, callZ, methZ, makeZ, makeNZ, fldZ, frzE, deepE, lcZ, dcZ, dispZ, pnilZ, pconsZ, oneD, walkU, srcU, walkE, srcE, walkR1, walkR2, walkS, joinedZ, jconsZ, jnilZ, fmtZ, dgetZ, dinZ, dninZ, bmZ, intZ0, intZ, uintZ, sliceZ, partZ, noPartZ, cutQ, yesZ, Z.lenZ, lenQ, listZ, listHZ, tupleZ, sortedSZ, allZ, anyZ, intZ1, strIZ, mulSZ, addZ, repHZ, repZ, appendZ, extendZ, insertZ, countSZ, joinZ, isBlZ, inZ, isOwnQ, eqZ_int, eqZ_str, eqZ_bl, neZ_int, neZ_str, neZ_bl, lenOwnZ, strOwnZ, reprZ, wipeE, kwD, List.set_cons_zero, List.set_cons_succ, List.getElem?_cons_zero, List.getElem?_cons_succ, List.map_cons, List.map_nil, List.cons_append, List.nil_append, List.append_nil, List.length_cons, List.length_nil, Nat.reduceAdd, Nat.reduceSub, List.replicate_succ, List.replicate_zero, if_true, if_false, Bool.false_eq_true, Nat.zero_add]
        exact late not _ x _ _ hx (k1 _ rfl)
      · intro d hd
        obtain ⟨z, _, hz⟩ := List.mem_filterMap.mp hd
        cases hz
        exact Fl.bl _
      · refine ⟨[true, true, true, true, true], rfl, ?_⟩
        exact hK _ _ ⟨rfl, rfl⟩
  obtain ⟨rfl, rfl⟩ := hP
  simp only [bodyZ, asgG, dropG, retG, retNG, ifG, skipG, augG, parG, par3G, frzG, setFldG, asgTG, forG, nameT, tupT, consT, nilT, subT, attrT, varZ, cZ, binZ, unZ, caZ, boolZ, andZ, orZ, notZ, andV, orV, notV, ifZ, chainZ, nilZ, consZ, tupZ, lstZ, lstHZ, callZ, methZ, makeZ, makeNZ, fldZ, frzE, deepE, lcZ, dcZ, dispZ, pnilZ, pconsZ, oneD, walkU, srcU, walkE, srcE, walkR1, walkR2, walkS, joinedZ, jconsZ, jnilZ, fmtZ, dgetZ, dinZ, dninZ, bmZ, intZ0, intZ, uintZ, sliceZ, partZ, noPartZ, cutQ, yesZ, Z.lenZ, lenQ, listZ, listHZ, tupleZ, sortedSZ, allZ, anyZ, intZ1, strIZ, mulSZ, addZ, repHZ, repZ, appendZ, extendZ, insertZ, countSZ, joinZ, isBlZ, inZ, isOwnQ, eqZ_int, eqZ_str, eqZ_bl, neZ_int, neZ_str, neZ_bl, lenOwnZ, strOwnZ, reprZ, wipeE, kwD, List.set_cons_zero, List.set_cons_succ, List.getElem?_cons_zero, List.getElem?_cons_succ, List.map_cons, List.map_nil, List.cons_append, List.nil_append, List.append_nil, List.length_cons, List.length_nil, Nat.reduceAdd, Nat.reduceSub, List.replicate_succ, List.replicate_zero, if_true, if_false, Bool.false_eq_true, Nat.zero_add, d0_Company_2, seqG]
  have okb := ok_bare ok
  refine ⟨_, _, _, dic_enc M _, rfl, val_names M, trivial, make_bare α ok rfl ?_⟩
  refine ⟨noC α _ (by decide +kernel) (by decide +kernel) (by decide +kernel) _, trivial, _, okb, rfl, frz_lst (Fl.map fun _ => fl_pr _ _) ?_⟩
  refine ⟨noC α _ (by decide +kernel) (by decide +kernel) (by decide +kernel) _, trivial, _, okb, rfl, frz_lst (Fl.strs _) ⟨by decide, by decide, by decide, by decide, trivial, ?_⟩⟩
  have eb : tiesD ⟨M.ns, fun _ _ => false⟩ = [] := by unfold tiesD; rw [tiesI_bare]; rfl
  rw [eb, restS_bare]
  have ei : ∀ T, IsP T (.list [.list [], .list []]) (.lst [.lst [], .lst []]) := fun T => isP_lst (isPs_cons (isP_lst (isPs_nil T)) (isPs_cons (isP_lst (isPs_nil T)) (isPs_nil T)))
  refine same_ok α (k := 2) (w := 2 * 1) (Nc.list (k := 1) (w := 0) (n := 2) (fun d hd => ?_) (by simp)) (by decide) (by decide) (ei _) (ei _) ⟨_, rfl⟩ ⟨_, rfl⟩ ?_
  · simp only [List.mem_cons, List.not_mem_nil, or_false] at hd
    rcases hd with rfl | rfl <;> exact ⟨rfl, rfl, rfl, by decide, by decide⟩
  · simp only [if_true]
    refine ⟨noC α M (by decide +kernel) (by decide +kernel) (by decide +kernel) _, trivial, M, i, ok, hi, rfl, frz_lst (Fl.strs _) ⟨⟨_, rfl⟩, _, rfl, ?_⟩⟩
    rw [count_no _ fun x hx e => by
      have := (ok.okn x (nearI_mem x hx)).1
      rw [e] at this
      exact absurd this (by decide)]
    exact end_same trivial h
end
end K01
namespace K01
open PySem L2 Z PySem.Spec PyProof.Rows
structure Fx (P : Program) (w : World) (K : PySem.W.Frag) (mg : Str → Option Value) (base : Heap) (α : Ad) : Prop where
  b_all : mg "all" = none
  b_any : mg "any" = none
  b_enumerate : mg "enumerate" = none
  b_int : mg "int" = none
  b_isinstance : mg "isinstance" = none
  b_len : mg "len" = none
  b_list : mg "list" = none
  b_range : mg "range" = none
  b_repr : mg "repr" = none
  b_sorted : mg "sorted" = none
  b_str : mg "str" = none
  b_tuple : mg "tuple" = none
  c_LETTERS : mg "LETTERS" = some (.str "abcdefghijklmnopqrstuvwxyz" α.t_LETTERS)
  c_MOST_FOLK : mg "MOST_FOLK" = some (.int 16 α.t_MOST_FOLK)
  G_Company : mg "Company" = some (.ref α.Company)
  cl_Company : Cls K α.Company
  mk_Company : Mk K α.Company α.f_Company___init__
  O_Company : Own K α.Company
  ne_Company : PySem.W.findIn K (.ref α.Company) "__ne__" = some (some (.builtin "object.__ne__"))
  iy_Company : ∀ t, t ∈ yes_Company α → PySem.W.kitOne K t (.ref α.Company) = some true
  in_Company : ∀ t, t ∈ no_Company α → PySem.W.kitOne K t (.ref α.Company) = some false
  io_Company : ∀ C', .ref C' ∈ yes_Company α ∨ .ref C' ∈ no_Company α → Own K C'
  nf_Company : ∀ t, t ∈ tys_Company α → PySem.W.notFirst K α.Company t = true
  ow_Company : ∀ C', .ref C' ∈ tys_Company α → Own K C'
  na_Company_folk : NoAttr K α.Company "folk"
  na_Company_places : NoAttr K α.Company "places"
  na_Company_table : NoAttr K α.Company "table"
  F_Company___eq__ : FunD K "__eq__" "Company.__eq__" (defArgs st_Company___eq__) (defBody st_Company___eq__) (defScope st_Company___eq__) [] [] α.f_Company___eq__ α.d_Company___eq__
  B_Company___eq__ : Binds K α.d_Company___eq__ ["self", "other"] []
  M_Company___eq__ : Meth K α.Company "__eq__" α.f_Company___eq__
  F_Company___len__ : FunD K "__len__" "Company.__len__" (defArgs st_Company___len__) (defBody st_Company___len__) (defScope st_Company___len__) [] [] α.f_Company___len__ α.d_Company___len__
  B_Company___len__ : Binds K α.d_Company___len__ ["self"] []
  M_Company___len__ : Meth K α.Company "__len__" α.f_Company___len__
  F_Company_names : FunD K "names" "Company.names" (defArgs st_Company_names) (defBody st_Company_names) (defScope st_Company_names) [] [] α.f_Company_names α.d_Company_names
  B_Company_names : Binds K α.d_Company_names ["self"] []
  M_Company_names : Meth K α.Company "names" α.f_Company_names
  F_Company_restless : FunD K "restless" "Company.restless" (defArgs st_Company_restless) (defBody st_Company_restless) (defScope st_Company_restless) [] [] α.f_Company_restless α.d_Company_restless
  B_Company_restless : Binds K α.d_Company_restless ["self"] []
  M_Company_restless : Meth K α.Company "restless" α.f_Company_restless
  F_Company_place : FunD K "place" "Company.place" (defArgs st_Company_place) (defBody st_Company_place) (defScope st_Company_place) [] [] α.f_Company_place α.d_Company_place
  B_Company_place : Binds K α.d_Company_place ["self", "name"] []
  M_Company_place : Meth K α.Company "place" α.f_Company_place
  F_spread : FunD K "spread" "spread" (defArgs st_spread) (defBody st_spread) (defScope st_spread) [] [] α.f_spread α.d_spread
  B_spread : Binds K α.d_spread ["mask"] []
  G_spread : mg "spread" = some (.ref α.f_spread)
  F_is_name : FunD K "is_name" "is_name" (defArgs st_is_name) (defBody st_is_name) (defScope st_is_name) [] [] α.f_is_name α.d_is_name
  B_is_name : Binds K α.d_is_name ["text"] []
  G_is_name : mg "is_name" = some (.ref α.f_is_name)
  F__law_bag : FunD K "_law_bag" "_law_bag" (defArgs st__law_bag) (defBody st__law_bag) (defScope st__law_bag) [] [] α.f__law_bag α.d__law_bag
  B__law_bag : Binds K α.d__law_bag ["_law_script"] []
  G__law_bag : mg "_law_bag" = some (.ref α.f__law_bag)
  F__law_pull : FunD K "_law_pull" "_law_pull" (defArgs st__law_pull) (defBody st__law_pull) (defScope st__law_pull) [] [] α.f__law_pull α.d__law_pull
  B__law_pull : Binds K α.d__law_pull ["_law_bag_here", "_law_many"] []
  G__law_pull : mg "_law_pull" = some (.ref α.f__law_pull)
  F__law_same : FunD K "_law_same" "_law_same" (defArgs st__law_same) (defBody st__law_same) (defScope st__law_same) [] [] α.f__law_same α.d__law_same
  B__law_same : Binds K α.d__law_same ["_law_found", "_law_due"] []
  G__law_same : mg "_law_same" = some (.ref α.f__law_same)
  F__law_ties_of : FunD K "_law_ties_of" "_law_ties_of" (defArgs st__law_ties_of) (defBody st__law_ties_of) (defScope st__law_ties_of) [] [] α.f__law_ties_of α.d__law_ties_of
  B__law_ties_of : Binds K α.d__law_ties_of ["_law_m"] []
  G__law_ties_of : mg "_law_ties_of" = some (.ref α.f__law_ties_of)
  F__law_uneasy_of : FunD K "_law_uneasy_of" "_law_uneasy_of" (defArgs st__law_uneasy_of) (defBody st__law_uneasy_of) (defScope st__law_uneasy_of) [] [] α.f__law_uneasy_of α.d__law_uneasy_of
  B__law_uneasy_of : Binds K α.d__law_uneasy_of ["_law_m"] []
  G__law_uneasy_of : mg "_law_uneasy_of" = some (.ref α.f__law_uneasy_of)
  F_Company___init__ : FunD K "__init__" "Company.__init__" (defArgs st_Company___init__) (defBody st_Company___init__) (defScope st_Company___init__) [] [("ties", .ref α.a_ties), ("restless", .ref α.a_restless)] α.f_Company___init__ α.d_Company___init__
  F_Company_ties : FunD K "ties" "Company.ties" (defArgs st_Company_ties) (defBody st_Company_ties) (defScope st_Company_ties) [] [] α.f_Company_ties α.d_Company_ties
  B_Company_ties : Binds K α.d_Company_ties ["self"] []
  M_Company_ties : Meth K α.Company "ties" α.f_Company_ties
  F_Company_knows : FunD K "knows" "Company.knows" (defArgs st_Company_knows) (defBody st_Company_knows) (defScope st_Company_knows) [] [] α.f_Company_knows α.d_Company_knows
  B_Company_knows : Binds K α.d_Company_knows ["self", "one", "other"] []
  M_Company_knows : Meth K α.Company "knows" α.f_Company_knows
  F_Company_near : FunD K "near" "Company.near" (defArgs st_Company_near) (defBody st_Company_near) (defScope st_Company_near) [] [] α.f_Company_near α.d_Company_near
  B_Company_near : Binds K α.d_Company_near ["self", "name"] []
  M_Company_near : Meth K α.Company "near" α.f_Company_near
  F__law_of : FunD K "_law_of" "_law_of" (defArgs st__law_of) (defBody st__law_of) (defScope st__law_of) [] [] α.f__law_of α.d__law_of
  B__law_of : Binds K α.d__law_of ["_law_bag_here", "_law_some"] []
  G__law_of : mg "_law_of" = some (.ref α.f__law_of)
  F__law_mixed : FunD K "_law_mixed" "_law_mixed" (defArgs st__law_mixed) (defBody st__law_mixed) (defScope st__law_mixed) [] [] α.f__law_mixed α.d__law_mixed
  B__law_mixed : Binds K α.d__law_mixed ["_law_bag_here", "_law_things"] []
  G__law_mixed : mg "_law_mixed" = some (.ref α.f__law_mixed)
  F__law_some_grid : FunD K "_law_some_grid" "_law_some_grid" (defArgs st__law_some_grid) (defBody st__law_some_grid) (defScope st__law_some_grid) [] [] α.f__law_some_grid α.d__law_some_grid
  B__law_some_grid : Binds K α.d__law_some_grid ["_law_bag_here", "_law_many"] []
  G__law_some_grid : mg "_law_some_grid" = some (.ref α.f__law_some_grid)
  F__law_text_of : FunD K "_law_text_of" "_law_text_of" (defArgs st__law_text_of) (defBody st__law_text_of) (defScope st__law_text_of) [] [] α.f__law_text_of α.d__law_text_of
  B__law_text_of : Binds K α.d__law_text_of ["_law_m"] []
  G__law_text_of : mg "_law_text_of" = some (.ref α.f__law_text_of)
  F_Company___repr__ : FunD K "__repr__" "Company.__repr__" (defArgs st_Company___repr__) (defBody st_Company___repr__) (defScope st_Company___repr__) [] [] α.f_Company___repr__ α.d_Company___repr__
  B_Company___repr__ : Binds K α.d_Company___repr__ ["self"] []
  M_Company___repr__ : Meth K α.Company "__repr__" α.f_Company___repr__
  F_Company___str__ : FunD K "__str__" "Company.__str__" (defArgs st_Company___str__) (defBody st_Company___str__) (defScope st_Company___str__) [] [] α.f_Company___str__ α.d_Company___str__
  B_Company___str__ : Binds K α.d_Company___str__ ["self"] []
  M_Company___str__ : Meth K α.Company "__str__" α.f_Company___str__
  F__law_some_names : FunD K "_law_some_names" "_law_some_names" (defArgs st__law_some_names) (defBody st__law_some_names) (defScope st__law_some_names) [] [] α.f__law_some_names α.d__law_some_names
  B__law_some_names : Binds K α.d__law_some_names ["_law_bag_here", "_law_many"] []
  G__law_some_names : mg "_law_some_names" = some (.ref α.f__law_some_names)
  F_made : FunD K "made" "made" (defArgs st_made) (defBody st_made) (defScope st_made) [] [] α.f_made α.d_made
  B_made : Binds K α.d_made ["folk", "table"] []
  G_made : mg "made" = some (.ref α.f_made)
  F__law_drawn : FunD K "_law_drawn" "_law_drawn" (defArgs st__law_drawn) (defBody st__law_drawn) (defScope st__law_drawn) [] [] α.f__law_drawn α.d__law_drawn
  B__law_drawn : Binds K α.d__law_drawn ["_law_bag_here", "_law_most"] []
  G__law_drawn : mg "_law_drawn" = some (.ref α.f__law_drawn)
  F__law_built : FunD K "_law_built" "_law_built" (defArgs st__law_built) (defBody st__law_built) (defScope st__law_built) [] [] α.f__law_built α.d__law_built
  B__law_built : Binds K α.d__law_built ["_law_bag_here", "_law_m"] []
  G__law_built : mg "_law_built" = some (.ref α.f__law_built)
  F_Company_rest_turned : FunD K "rest_turned" "Company.rest_turned" (defArgs st_Company_rest_turned) (defBody st_Company_rest_turned) (defScope st_Company_rest_turned) [] [] α.f_Company_rest_turned α.d_Company_rest_turned
  B_Company_rest_turned : Binds K α.d_Company_rest_turned ["self", "name"] []
  M_Company_rest_turned : Meth K α.Company "rest_turned" α.f_Company_rest_turned
  F__law_asked_so : FunD K "_law_asked_so" "_law_asked_so" (defArgs st__law_asked_so) (defBody st__law_asked_so) (defScope st__law_asked_so) [] [] α.f__law_asked_so α.d__law_asked_so
  B__law_asked_so : Binds K α.d__law_asked_so ["_law_company", "_law_m"] []
  G__law_asked_so : mg "_law_asked_so" = some (.ref α.f__law_asked_so)
  F__law_stands : FunD K "_law_stands" "_law_stands" (defArgs st__law_stands) (defBody st__law_stands) (defScope st__law_stands) [] [] α.f__law_stands α.d__law_stands
  B__law_stands : Binds K α.d__law_stands ["_law_company", "_law_m"] []
  G__law_stands : mg "_law_stands" = some (.ref α.f__law_stands)
  F_law : FunD K "law" "law" (defArgs st_law) (defBody st_law) (defScope st_law) [] [] α.f_law α.d_law
  B_law : Binds K α.d_law ["_law_script"] []
  G_law : mg "law" = some (.ref α.f_law)
  KB_Company_restless_ties : KBn K α.d_Company___init__ ["self", "names", "ties", "restless"] 2 ["restless", "ties"] (kwU [1, 0]) (kwV [1, 0])
  KB_Company_ties_restless : KBn K α.d_Company___init__ ["self", "names", "ties", "restless"] 2 ["ties", "restless"] (kwU [0, 1]) (kwV [0, 1])
  bd_Company_2 : Binds K α.d_Company___init__ ["self", "names", "ties", "restless"] α.dv_init
  vd_Company_2 : Vals [.ref α.a_ties, .ref α.a_restless] α.dv_init
  cd_Company_2 : CstL K d0_Company_2 [.ref α.a_ties, .ref α.a_restless]
variable {P : Program} {w : World} {K : PySem.W.Frag} {mg : Str → Option Value} {base : Heap} {α : Ad}
theorem sc_Company___eq__ : FnScope N_Company___eq__ ["self", "other"] (defScope st_Company___eq__) := ⟨rfl, rfl, rfl, by decide +kernel, rfl, by decide +kernel, by decide +kernel⟩
theorem d_Company___eq__ (h : Fx P w K mg base α) : FnZ P w K mg base 1 α.f_Company___eq__ α.d_Company___eq__ ["self", "other"] (bodyZ 2 (g_Company___eq__ α)) :=
  FunD.zx (k := 0) h.F_Company___eq__ sc_Company___eq__ fun cdv A outer s H E c hp => ⟨_, SsZ.one (SZ.ret (EZ.and (EZ.callB call_isi (caz_isOwn h.iy_Company h.in_Company h.io_Company) rfl h.b_isinstance rfl (AZ.cons (EZ.var 1 (pv 1)) (AZ.cons (EZ.glob (v := .ref α.Company) rfl h.G_Company rfl (cst_ref _)) (AZ.nil)))) (EZ.and (Z.eEq c (EZ.fld h.cl_Company h.na_Company_folk (EZ.var 0 (pv 0))) (EZ.fld h.cl_Company h.na_Company_folk (EZ.var 1 (pv 1)))) (EZ.one (Z.eEq c (EZ.fld h.cl_Company h.na_Company_table (EZ.var 0 (pv 0))) (EZ.fld h.cl_Company h.na_Company_table (EZ.var 1 (pv 1))))))))⟩
theorem z_Company___eq__ (h : Fx P w K mg base α) : FnZ P w K mg base 1 α.f_Company___eq__ α.d_Company___eq__ ["self", "other"] (m_Company___eq__ α) := ((d_Company___eq__ h)).imp (s_Company___eq__ α)
theorem sc_Company___len__ : FnScope N_Company___len__ ["self"] (defScope st_Company___len__) := ⟨rfl, rfl, rfl, by decide +kernel, rfl, by decide +kernel, by decide +kernel⟩
theorem d_Company___len__ (h : Fx P w K mg base α) : FnZ P w K mg base 1 α.f_Company___len__ α.d_Company___len__ ["self"] (bodyZ 1 (g_Company___len__ α)) :=
  FunD.zx (k := 0) h.F_Company___len__ sc_Company___len__ fun cdv A outer s H E c hp => ⟨_, SsZ.one (SZ.ret (EZ.callB call_lenU caz_len rfl h.b_len rfl (AZ.cons (EZ.fld h.cl_Company h.na_Company_folk (EZ.var 0 (pv 0))) (AZ.nil))))⟩
theorem z_Company___len__ (h : Fx P w K mg base α) : FnZ P w K mg base 1 α.f_Company___len__ α.d_Company___len__ ["self"] (m_Company___len__ α) := ((d_Company___len__ h)).imp (s_Company___len__ α)
theorem sc_Company_names : FnScope N_Company_names ["self"] (defScope st_Company_names) := ⟨rfl, rfl, rfl, by decide +kernel, rfl, by decide +kernel, by decide +kernel⟩
theorem d_Company_names (h : Fx P w K mg base α) : FnZ P w K mg base 1 α.f_Company_names α.d_Company_names ["self"] (bodyZ 1 (g_Company_names α)) :=
  FunD.zx (k := 0) h.F_Company_names sc_Company_names fun cdv A outer s H E c hp => ⟨_, SsZ.one (SZ.ret (EZ.callTy call_listU caz_listH rfl h.b_list rfl (AZ.cons (EZ.fld h.cl_Company h.na_Company_folk (EZ.var 0 (pv 0))) (AZ.nil))))⟩
theorem z_Company_names (h : Fx P w K mg base α) : FnZ P w K mg base 1 α.f_Company_names α.d_Company_names ["self"] (m_Company_names α) := ((d_Company_names h)).imp (s_Company_names α)
theorem sc_Company_restless : FnScope N_Company_restless ["self"] (defScope st_Company_restless) := ⟨rfl, rfl, rfl, by decide +kernel, rfl, by decide +kernel, by decide +kernel⟩
theorem d_Company_restless (h : Fx P w K mg base α) : FnZ P w K mg base 1 α.f_Company_restless α.d_Company_restless ["self"] (bodyZ 3 (g_Company_restless α)) :=
  FunD.zx (k := 0) h.F_Company_restless sc_Company_restless fun cdv A outer s H E c hp => ⟨_, SsZ.one (SZ.ret (lcE [("at", 1), ("name", 2)] rfl c.calm sc_Company_restless.nd (IZ.enum rfl h.b_enumerate (EZ.fld h.cl_Company h.na_Company_folk (EZ.var 0 (pv 0)))) (fun _ _ _ _ _ => gtup (K := K) c.blk.calm (GsZ.cons (GZ.name 1 (pg_name sc_Company_restless.nd rfl (Or.inl rfl))) (GsZ.cons (GZ.name 2 (pg_name sc_Company_restless.nd rfl (Or.inl rfl))) (GsZ.nil)))) (fun _ _ _ _ _ => ⟨_, TsZ.one (Z.tEq c.blk (Z.eBand (Z.eShr (EZ.ix (EZ.fld h.cl_Company h.na_Company_table (EZ.var 0 (pv 0))) (EZ.var 1 (pv 1))) (EZ.var 1 (pv 1))) (EZ.int)) (EZ.int))⟩) (fun _ _ _ _ _ => ⟨_, EZ.var 2 (pv 2)⟩) (wipe_tup (wipe_cons (mono_name) (mono_cons (mono_name) (mono_nil)) (wipe_name (by decide)) (wipe_cons (mono_name) (mono_nil) (wipe_name (by decide)) (wipe_nil)))) (blkOk_by rfl)))⟩
theorem z_Company_restless (h : Fx P w K mg base α) : FnZ P w K mg base 1 α.f_Company_restless α.d_Company_restless ["self"] (m_Company_restless α) := ((d_Company_restless h)).imp (s_Company_restless α)
theorem sc_Company_place : FnScope N_Company_place ["self", "name"] (defScope st_Company_place) := ⟨rfl, rfl, rfl, by decide +kernel, rfl, by decide +kernel, by decide +kernel⟩
theorem d_Company_place (h : Fx P w K mg base α) : FnZ P w K mg base 1 α.f_Company_place α.d_Company_place ["self", "name"] (bodyZ 2 (g_Company_place α)) :=
  FunD.zx (k := 0) h.F_Company_place sc_Company_place fun cdv A outer s H E c hp => ⟨_, SsZ.cons (SZ.iff (TZ.dnin c (EZ.var 1 (pv 1)) (EZ.fld h.cl_Company h.na_Company_places (EZ.var 0 (pv 0)))) (SsZ.one (SZ.never)) (SsZ.nil)) (SsZ.one (SZ.ret (EZ.dget c (EZ.fld h.cl_Company h.na_Company_places (EZ.var 0 (pv 0))) (EZ.var 1 (pv 1)))))⟩
theorem z_Company_place (h : Fx P w K mg base α) : FnZ P w K mg base 1 α.f_Company_place α.d_Company_place ["self", "name"] (m_Company_place α) := ((d_Company_place h)).imp (s_Company_place α)
theorem sc_spread : FnScope N_spread ["mask"] (defScope st_spread) := ⟨rfl, rfl, rfl, by decide +kernel, rfl, by decide +kernel, by decide +kernel⟩
theorem d_spread (h : Fx P w K mg base α) : FnZ P w K mg base 1 α.f_spread α.d_spread ["mask"] (bodyZ 3 (g_spread α)) :=
  FunD.zx (k := 0) h.F_spread sc_spread fun cdv A outer s H E c hp => ⟨_, SsZ.cons (SZ.set 1 sc_spread.nd rfl (Or.inl rfl) (EZ.lstH (AZ.nil))) (SsZ.cons (SZ.set 2 sc_spread.nd rfl (Or.inl rfl) (EZ.int)) (SsZ.cons (SZ.while_ hp (Z.tGt (Z.eShr (EZ.var 0 (pv 0)) (EZ.var 2 (pv 2))) (EZ.int)) (SsZ.cons (SZ.iff (Z.tEq c (Z.eBand (Z.eShr (EZ.var 0 (pv 0)) (EZ.var 2 (pv 2))) (EZ.int)) (EZ.int)) (SsZ.one (SZ.expr (EZ.bm PySem.F.plainAttrs_list PySem.F.slot_list_append PySem.F.type_list_append mt_append mz_append (EZ.var 1 (pv 1)) (AZ.cons (EZ.var 2 (pv 2)) (AZ.nil))))) (SsZ.nil)) (SsZ.one (SZ.aug 2 sc_spread.nd rfl (Or.inl rfl) (EZ.int) ip_add oz_ipI)))) (SsZ.one (SZ.ret (EZ.var 1 (pv 1))))))⟩
theorem z_spread (h : Fx P w K mg base α) : FnZ P w K mg base 1 α.f_spread α.d_spread ["mask"] (m_spread α) := ((d_spread h)).imp (s_spread α)
theorem sc_is_name : FnScope N_is_name ["text"] (defScope st_is_name) := ⟨rfl, rfl, rfl, by decide +kernel, rfl, by decide +kernel, by decide +kernel⟩
theorem d_is_name (h : Fx P w K mg base α) : FnZ P w K mg base 1 α.f_is_name α.d_is_name ["text"] (bodyZ 2 (g_is_name α)) :=
  FunD.zx (k := 0) h.F_is_name sc_is_name fun cdv A outer s H E c hp => ⟨_, SsZ.one (SZ.ret (EZ.and (EZ.chain op_le op_le (oz_int0 fun _ _ => cst_bl _) (oz_int0 fun _ _ => cst_bl _) (EZ.int) (EZ.callB call_lenU caz_len rfl h.b_len rfl (AZ.cons (EZ.var 0 (pv 0)) (AZ.nil))) (EZ.int)) (EZ.one (EZ.callB (cr_all c.calm) caz_all rfl h.b_all rfl (AZ.cons (EZ.frz (lcE [("sign", 1)] rfl c.calm sc_is_name.nd (IZ.str (EZ.var 0 (pv 0))) (fun _ _ _ _ _ => GZ.name 1 (pg_name sc_is_name.nd rfl (Or.inl rfl))) (fun _ _ _ _ _ => ⟨_, TsZ.nil⟩) (fun _ _ _ _ _ => ⟨_, Z.eIn (EZ.var 1 (pv 1)) (EZ.glob (v := .str "abcdefghijklmnopqrstuvwxyz") rfl h.c_LETTERS ⟨_, rfl⟩ (cst_str _))⟩) (wipe_name (by decide)) (blkOk_by rfl))) (AZ.nil))))))⟩
theorem z_is_name (h : Fx P w K mg base α) : FnZ P w K mg base 1 α.f_is_name α.d_is_name ["text"] (m_is_name α) := ((d_is_name h)).imp (s_is_name α)
theorem sc__law_bag : FnScope N__law_bag ["_law_script"] (defScope st__law_bag) := ⟨rfl, rfl, rfl, by decide +kernel, rfl, by decide +kernel, by decide +kernel⟩
theorem d__law_bag (h : Fx P w K mg base α) : FnZ P w K mg base 1 α.f__law_bag α.d__law_bag ["_law_script"] (bodyZ 3 (g__law_bag α)) :=
  FunD.zx (k := 0) h.F__law_bag sc__law_bag fun cdv A outer s H E c hp => ⟨_, SsZ.cons (SZ.set 1 sc__law_bag.nd rfl (Or.inl rfl) (EZ.int)) (SsZ.cons (SZ.for_ hp c.calm (IZ.seq (EZ.slice (EZ.var 0 (pv 0)) (PZ.none) (PZ.some (EZ.int)))) (GZ.name 2 (pg_name sc__law_bag.nd rfl (Or.inl rfl))) (SsZ.one (SZ.set 1 sc__law_bag.nd rfl (Or.inl rfl) (Z.eMod (Z.eAdd (Z.eAdd (Z.eMul (EZ.var 1 (pv 1)) (EZ.int)) (EZ.var 2 (pv 2))) (EZ.int)) (EZ.int))))) (SsZ.one (SZ.ret (EZ.lstH (AZ.cons (EZ.callTy call_listU caz_list rfl h.b_list rfl (AZ.cons (EZ.slice (EZ.var 0 (pv 0)) (PZ.none) (PZ.some (EZ.int))) (AZ.nil))) (AZ.cons (EZ.int) (AZ.cons (EZ.int) (AZ.cons (EZ.var 1 (pv 1)) (AZ.cons (EZ.int) (AZ.nil))))))))))⟩
theorem z__law_bag (h : Fx P w K mg base α) : FnZ P w K mg base 1 α.f__law_bag α.d__law_bag ["_law_script"] (m__law_bag α) := ((d__law_bag h).absOut BagOk).imp (s__law_bag α)
theorem sc__law_pull : FnScope N__law_pull ["_law_bag_here", "_law_many"] (defScope st__law_pull) := ⟨rfl, rfl, rfl, by decide +kernel, rfl, by decide +kernel, by decide +kernel⟩
theorem d__law_pull (h : Fx P w K mg base α) : FnZ P w K mg base 1 α.f__law_pull α.d__law_pull ["_law_bag_here", "_law_many"] (bodyZ 6 (g__law_pull α)) :=
  FunD.zx (k := 0) h.F__law_pull sc__law_pull fun cdv A outer s H E c hp => ⟨_, SsZ.cons (SZ.iff (WZ.tz (WZ.and (Z.tLt (EZ.ix (EZ.var 0 (pv 0)) (EZ.int)) (EZ.int)) (WZ.and1 (Z.tLt (EZ.ix (EZ.var 0 (pv 0)) (EZ.int)) (EZ.callB call_lenU caz_len rfl h.b_len rfl (AZ.cons (EZ.ix (EZ.var 0 (pv 0)) (EZ.int)) (AZ.nil))))))) (SsZ.cons (SZ.set 2 sc__law_pull.nd rfl (Or.inl rfl) (EZ.ix (EZ.ix (EZ.var 0 (pv 0)) (EZ.int)) (EZ.ix (EZ.var 0 (pv 0)) (EZ.int)))) (SsZ.cons (SZ.asg (Z.eAdd (EZ.ix (EZ.var 0 (pv 0)) (EZ.int)) (EZ.int)) (GZ.sub c (EZ.var 0 (pv 0)) (EZ.int))) (SsZ.one (SZ.iff (Z.tGe (EZ.var 2 (pv 2)) (Z.ePow (EZ.int) (EZ.int))) (SsZ.one (SZ.asg (EZ.var 2 (pv 2)) (GZ.sub c (EZ.var 0 (pv 0)) (EZ.int)))) (SsZ.one (SZ.asg (Z.eMod (Z.eAdd (Z.eAdd (Z.eMul (EZ.ix (EZ.var 0 (pv 0)) (EZ.int)) (EZ.int)) (Z.eMod (EZ.var 2 (pv 2)) (EZ.int))) (EZ.int)) (EZ.int)) (GZ.sub c (EZ.var 0 (pv 0)) (EZ.int)))))))) (SsZ.nil)) (SsZ.cons (SZ.iff (Z.tGt (EZ.ix (EZ.var 0 (pv 0)) (EZ.int)) (EZ.int)) (SsZ.cons (SZ.set 3 sc__law_pull.nd rfl (Or.inl rfl) (Z.eMod (EZ.ix (EZ.var 0 (pv 0)) (EZ.int)) (EZ.var 1 (pv 1)))) (SsZ.cons (SZ.asg (Z.eFdv (EZ.ix (EZ.var 0 (pv 0)) (EZ.int)) (EZ.var 1 (pv 1))) (GZ.sub c (EZ.var 0 (pv 0)) (EZ.int))) (SsZ.one (SZ.ret (EZ.var 3 (pv 3)))))) (SsZ.nil)) (SsZ.cons (SZ.asg (Z.eAdd (EZ.ix (EZ.var 0 (pv 0)) (EZ.int)) (EZ.int)) (GZ.sub c (EZ.var 0 (pv 0)) (EZ.int))) (SsZ.cons (SZ.set 4 sc__law_pull.nd rfl (Or.inl rfl) (Z.eMod (Z.eAdd (EZ.ix (EZ.var 0 (pv 0)) (EZ.int)) (Z.eMul (EZ.ix (EZ.var 0 (pv 0)) (EZ.int)) (EZ.int))) (EZ.int))) (SsZ.cons (SZ.set 5 sc__law_pull.nd rfl (Or.inl rfl) (Z.eMul (Z.eMod (Z.eMul (EZ.var 4 (pv 4)) (EZ.var 4 (pv 4))) (EZ.int)) (Z.eAdd (Z.eMod (EZ.var 4 (pv 4)) (EZ.int)) (EZ.int)))) (SsZ.cons (SZ.asg (Z.eMod (Z.eAdd (Z.eAdd (EZ.var 5 (pv 5)) (Z.eMul (EZ.int) (EZ.var 4 (pv 4)))) (EZ.int)) (EZ.int)) (GZ.sub c (EZ.var 0 (pv 0)) (EZ.int))) (SsZ.one (SZ.ret (Z.eMod (Z.eAdd (Z.eFdv (EZ.ix (EZ.var 0 (pv 0)) (EZ.int)) (EZ.int)) (Z.eMul (Z.eMod (EZ.ix (EZ.var 0 (pv 0)) (EZ.int)) (EZ.int)) (EZ.int))) (EZ.var 1 (pv 1))))))))))⟩
theorem z__law_pull (h : Fx P w K mg base α) : FnZ P w K mg base 1 α.f__law_pull α.d__law_pull ["_law_bag_here", "_law_many"] (m__law_pull α) := ((d__law_pull h).absF).imp (s__law_pull α)
theorem sc__law_same : FnScope N__law_same ["_law_found", "_law_due"] (defScope st__law_same) := ⟨rfl, rfl, rfl, by decide +kernel, rfl, by decide +kernel, by decide +kernel⟩
theorem d__law_same (h : Fx P w K mg base α) : FnZ P w K mg base 1 α.f__law_same α.d__law_same ["_law_found", "_law_due"] (bodyZ 2 (g__law_same α)) :=
  FunD.zx (k := 0) h.F__law_same sc__law_same fun cdv A outer s H E c hp => ⟨_, SsZ.one (SZ.ret (Z.eEq c (EZ.callB (call_reprD c) caz_repr rfl h.b_repr rfl (AZ.cons (EZ.var 0 (pv 0)) (AZ.nil))) (EZ.callB (call_reprD c) caz_repr rfl h.b_repr rfl (AZ.cons (EZ.var 1 (pv 1)) (AZ.nil)))))⟩
theorem z__law_same (h : Fx P w K mg base α) : FnZ P w K mg base 1 α.f__law_same α.d__law_same ["_law_found", "_law_due"] (m__law_same α) := ((d__law_same h)).imp (s__law_same α)
theorem sc__law_ties_of : FnScope N__law_ties_of ["_law_m"] (defScope st__law_ties_of) := ⟨rfl, rfl, rfl, by decide +kernel, rfl, by decide +kernel, by decide +kernel⟩
theorem d__law_ties_of (h : Fx P w K mg base α) : FnZ P w K mg base 1 α.f__law_ties_of α.d__law_ties_of ["_law_m"] (bodyZ 6 (g__law_ties_of α)) :=
  FunD.zx (k := 0) h.F__law_ties_of sc__law_ties_of fun cdv A outer s H E c hp => ⟨_, SsZ.cons (SZ.asg (EZ.tup (AZ.cons (EZ.lst (AZ.nil)) (AZ.cons (EZ.dget c (EZ.var 0 (pv 0)) (EZ.str)) (AZ.nil)))) (gtup (K := K) c.calm (GsZ.cons (GZ.name 1 (pg_name sc__law_ties_of.nd rfl (Or.inl rfl))) (GsZ.cons (GZ.name 2 (pg_name sc__law_ties_of.nd rfl (Or.inr rfl))) (GsZ.nil))))) (SsZ.cons (SZ.for_ hp c.calm (IZ.range1 rfl h.b_range (EZ.callB call_lenU caz_len rfl h.b_len rfl (AZ.cons (EZ.var 2 (pv 2)) (AZ.nil)))) (GZ.name 3 (pg_name sc__law_ties_of.nd rfl (Or.inr rfl))) (SsZ.cons (setLcE 4 [("_law_k", 5)] rfl c.calm sc__law_ties_of.nd (IZ.range2 rfl h.b_range (Z.eAdd (EZ.var 3 (pv 3)) (EZ.int)) (EZ.callB call_lenU caz_len rfl h.b_len rfl (AZ.cons (EZ.var 2 (pv 2)) (AZ.nil)))) (fun _ _ _ _ _ => GZ.name 5 (pg_name sc__law_ties_of.nd rfl (Or.inl rfl))) (fun _ _ _ _ _ => ⟨_, TsZ.one (Z.tEq c.blk (EZ.ix (EZ.ix (EZ.dget c.blk (EZ.var 0 (pv 0)) (EZ.str)) (EZ.var 3 (pv 3))) (EZ.var 5 (pv 5))) (EZ.int))⟩) (fun _ _ _ _ _ => ⟨_, EZ.var 5 (pv 5)⟩) (wipe_name (by decide)) (blkOk_by rfl) rfl rfl rfl) (SsZ.frz 4 (SsZ.one (SZ.set 1 sc__law_ties_of.nd rfl (Or.inl rfl) (Z.eAdd (EZ.var 1 (pv 1)) (EZ.frz (lcE [("_law_k", 5)] rfl c.calm sc__law_ties_of.nd (IZ.seq (EZ.var 4 (pv 4))) (fun _ _ _ _ _ => GZ.name 5 (pg_name sc__law_ties_of.nd rfl (Or.inl rfl))) (fun _ _ _ _ _ => ⟨_, TsZ.nil⟩) (fun _ _ _ _ _ => ⟨_, EZ.tup (AZ.cons (EZ.ix (EZ.var 2 (pv 2)) (EZ.var 3 (pv 3))) (AZ.cons (EZ.ix (EZ.var 2 (pv 2)) (EZ.var 5 (pv 5))) (AZ.nil)))⟩) (wipe_name (by decide)) (blkOk_by rfl))))))))) (SsZ.one (SZ.ret (EZ.var 1 (pv 1)))))⟩
theorem z__law_ties_of (h : Fx P w K mg base α) : FnZ P w K mg base 1 α.f__law_ties_of α.d__law_ties_of ["_law_m"] (m__law_ties_of α) := ((d__law_ties_of h)).imp (s__law_ties_of α)
theorem sc__law_uneasy_of : FnScope N__law_uneasy_of ["_law_m"] (defScope st__law_uneasy_of) := ⟨rfl, rfl, rfl, by decide +kernel, rfl, by decide +kernel, by decide +kernel⟩
theorem d__law_uneasy_of (h : Fx P w K mg base α) : FnZ P w K mg base 1 α.f__law_uneasy_of α.d__law_uneasy_of ["_law_m"] (bodyZ 2 (g__law_uneasy_of α)) :=
  FunD.zx (k := 0) h.F__law_uneasy_of sc__law_uneasy_of fun cdv A outer s H E c hp => ⟨_, SsZ.one (SZ.ret (lcE [("_law_k", 1)] rfl c.calm sc__law_uneasy_of.nd (IZ.range1 rfl h.b_range (EZ.callB call_lenU caz_len rfl h.b_len rfl (AZ.cons (EZ.dget c (EZ.var 0 (pv 0)) (EZ.str)) (AZ.nil)))) (fun _ _ _ _ _ => GZ.name 1 (pg_name sc__law_uneasy_of.nd rfl (Or.inl rfl))) (fun _ _ _ _ _ => ⟨_, TsZ.one (Z.tEq c.blk (EZ.ix (EZ.ix (EZ.dget c.blk (EZ.var 0 (pv 0)) (EZ.str)) (EZ.var 1 (pv 1))) (EZ.var 1 (pv 1))) (EZ.int))⟩) (fun _ _ _ _ _ => ⟨_, EZ.ix (EZ.dget c.blk (EZ.var 0 (pv 0)) (EZ.str)) (EZ.var 1 (pv 1))⟩) (wipe_name (by decide)) (blkOk_by rfl)))⟩
theorem z__law_uneasy_of (h : Fx P w K mg base α) : FnZ P w K mg base 1 α.f__law_uneasy_of α.d__law_uneasy_of ["_law_m"] (m__law_uneasy_of α) := ((d__law_uneasy_of h)).imp (s__law_uneasy_of α)
theorem sc_Company___init__ : FnScope N_Company___init__ ["self", "names", "ties", "restless"] (defScope st_Company___init__) := ⟨rfl, rfl, rfl, by decide +kernel, rfl, by decide +kernel, by decide +kernel⟩
theorem d_Company___init__ (h : Fx P w K mg base α) : FnZ P w K mg base 2 α.f_Company___init__ α.d_Company___init__ ["self", "names", "ties", "restless"] (bodyZ 12 (g_Company___init__ α)) :=
  FunD.zx (k := 1) h.F_Company___init__ sc_Company___init__ fun cdv A outer s H E c hp => ⟨_, SsZ.cons (SZ.set 4 sc_Company___init__.nd rfl (Or.inl rfl) (EZ.callTy call_listU caz_list rfl h.b_list rfl (AZ.cons (EZ.var 1 (pv 1)) (AZ.nil)))) (SsZ.cons (SZ.for_ hp c.calm (IZ.enum rfl h.b_enumerate (EZ.var 4 (pv 4))) (gtup (K := K) c.calm (GsZ.cons (GZ.name 5 (pg_name sc_Company___init__.nd rfl (Or.inl rfl))) (GsZ.cons (GZ.name 6 (pg_name sc_Company___init__.nd rfl (Or.inl rfl))) (GsZ.nil)))) (SsZ.one (SZ.iff (WZ.tz (WZ.or (TZ.not (TZ.val (Z.eCall ((z_is_name h).mono (k := 1) (by decide)) c rfl h.G_is_name h.F_is_name.kp h.B_is_name .nil cstL_nil (AZ.cons (EZ.var 6 (pv 6)) (AZ.nil))))) (WZ.or1 (Z.tIn (EZ.var 6 (pv 6)) (EZ.slice (EZ.var 4 (pv 4)) (PZ.none) (PZ.some (EZ.var 5 (pv 5)))))))) (SsZ.one (SZ.never)) (SsZ.nil)))) (SsZ.cons (SZ.iff (Z.tGt (EZ.callB call_lenU caz_len rfl h.b_len rfl (AZ.cons (EZ.var 4 (pv 4)) (AZ.nil))) (EZ.glob (v := .int 16) rfl h.c_MOST_FOLK ⟨_, rfl⟩ (cst_int _))) (SsZ.one (SZ.never)) (SsZ.nil)) (SsZ.cons (SZ.setFld h.cl_Company h.na_Company_folk (EZ.var 0 (pv 0)) (EZ.callTy call_tupleU caz_tuple rfl h.b_tuple rfl (AZ.cons (EZ.callB cr_sortedS caz_sortedS rfl h.b_sorted rfl (AZ.cons (EZ.var 4 (pv 4)) (AZ.nil))) (AZ.nil)))) (SsZ.cons (SZ.setFld h.cl_Company h.na_Company_places (EZ.var 0 (pv 0)) (EZ.frz (dcE [("at", 5), ("name", 6)] rfl c.calm sc_Company___init__.nd (IZ.enum rfl h.b_enumerate (EZ.fld h.cl_Company h.na_Company_folk (EZ.var 0 (pv 0)))) (fun _ _ _ _ _ => gtup (K := K) c.blk.calm (GsZ.cons (GZ.name 5 (pg_name sc_Company___init__.nd rfl (Or.inl rfl))) (GsZ.cons (GZ.name 6 (pg_name sc_Company___init__.nd rfl (Or.inl rfl))) (GsZ.nil)))) (fun _ _ _ _ _ => ⟨_, TsZ.nil⟩) (fun _ _ _ _ _ => ⟨_, EZ.var 6 (pv 6)⟩) (fun _ _ _ _ _ => ⟨_, EZ.var 5 (pv 5)⟩) (wipe_tup (wipe_cons (mono_name) (mono_cons (mono_name) (mono_nil)) (wipe_name (by decide)) (wipe_cons (mono_name) (mono_nil) (wipe_name (by decide)) (wipe_nil)))) (blkOk_by rfl)))) (SsZ.cons (setLcE 7 [("name", 6)] rfl c.calm sc_Company___init__.nd (IZ.seq (EZ.fld h.cl_Company h.na_Company_folk (EZ.var 0 (pv 0)))) (fun _ _ _ _ _ => GZ.name 6 (pg_name sc_Company___init__.nd rfl (Or.inl rfl))) (fun _ _ _ _ _ => ⟨_, TsZ.nil⟩) (fun _ _ _ _ _ => ⟨_, EZ.int⟩) (wipe_name (by decide)) (blkOk_by rfl) rfl rfl rfl) (SsZ.cons (SZ.for_ hp c.calm (IZ.enum rfl h.b_enumerate (EZ.var 2 (pv 2))) (gtup (K := K) c.calm (GsZ.cons (GZ.name 5 (pg_name sc_Company___init__.nd rfl (Or.inl rfl))) (GsZ.cons (gtup (K := K) c.calm (GsZ.cons (GZ.name 8 (pg_name sc_Company___init__.nd rfl (Or.inl rfl))) (GsZ.cons (GZ.name 9 (pg_name sc_Company___init__.nd rfl (Or.inl rfl))) (GsZ.nil)))) (GsZ.nil)))) (SsZ.cons (SZ.iff (WZ.tz (WZ.or (TZ.dnin c (EZ.var 8 (pv 8)) (EZ.fld h.cl_Company h.na_Company_places (EZ.var 0 (pv 0)))) (WZ.or (TZ.dnin c (EZ.var 9 (pv 9)) (EZ.fld h.cl_Company h.na_Company_places (EZ.var 0 (pv 0)))) (WZ.or1 (Z.tEq c (EZ.var 8 (pv 8)) (EZ.var 9 (pv 9))))))) (SsZ.one (SZ.never)) (SsZ.nil)) (SsZ.cons (SZ.par 10 11 c.calm sc_Company___init__.nd rfl rfl (by decide) rfl rfl (AZ.cons (EZ.dget c (EZ.fld h.cl_Company h.na_Company_places (EZ.var 0 (pv 0))) (EZ.var 8 (pv 8))) (AZ.cons (EZ.dget c (EZ.fld h.cl_Company h.na_Company_places (EZ.var 0 (pv 0))) (EZ.var 9 (pv 9))) (AZ.nil))) rfl) (SsZ.cons (SZ.iff (Z.tEq c (Z.eBand (Z.eShr (EZ.ix (EZ.var 7 (pv 7)) (EZ.var 10 (pv 10))) (EZ.var 11 (pv 11))) (EZ.int)) (EZ.int)) (SsZ.one (SZ.never)) (SsZ.nil)) (SsZ.cons (SZ.asg (Z.eBor (EZ.ix (EZ.var 7 (pv 7)) (EZ.var 10 (pv 10))) (Z.eShl (EZ.int) (EZ.var 11 (pv 11)))) (GZ.sub c (EZ.var 7 (pv 7)) (EZ.var 10 (pv 10)))) (SsZ.one (SZ.asg (Z.eBor (EZ.ix (EZ.var 7 (pv 7)) (EZ.var 11 (pv 11))) (Z.eShl (EZ.int) (EZ.var 10 (pv 10)))) (GZ.sub c (EZ.var 7 (pv 7)) (EZ.var 11 (pv 11)))))))))) (SsZ.cons (SZ.for_ hp c.calm (IZ.seq (EZ.var 3 (pv 3))) (GZ.name 6 (pg_name sc_Company___init__.nd rfl (Or.inl rfl))) (SsZ.cons (SZ.iff (TZ.dnin c (EZ.var 6 (pv 6)) (EZ.fld h.cl_Company h.na_Company_places (EZ.var 0 (pv 0)))) (SsZ.one (SZ.never)) (SsZ.nil)) (SsZ.one (SZ.asg (Z.eBor (EZ.ix (EZ.var 7 (pv 7)) (EZ.dget c (EZ.fld h.cl_Company h.na_Company_places (EZ.var 0 (pv 0))) (EZ.var 6 (pv 6)))) (Z.eShl (EZ.int) (EZ.dget c (EZ.fld h.cl_Company h.na_Company_places (EZ.var 0 (pv 0))) (EZ.var 6 (pv 6))))) (GZ.sub c (EZ.var 7 (pv 7)) (EZ.dget c (EZ.fld h.cl_Company h.na_Company_places (EZ.var 0 (pv 0))) (EZ.var 6 (pv 6)))))))) (SsZ.one (SZ.setFld h.cl_Company h.na_Company_table (EZ.var 0 (pv 0)) (EZ.callTy call_tupleU caz_tuple rfl h.b_tuple rfl (AZ.cons (EZ.var 7 (pv 7)) (AZ.nil))))))))))))⟩
theorem z_Company___init__ (h : Fx P w K mg base α) : FnZ P w K mg base 2 α.f_Company___init__ α.d_Company___init__ ["self", "names", "ties", "restless"] (m_Company___init__ α) := ((d_Company___init__ h)).imp (s_Company___init__ α)
theorem sc_Company_ties : FnScope N_Company_ties ["self"] (defScope st_Company_ties) := ⟨rfl, rfl, rfl, by decide +kernel, rfl, by decide +kernel, by decide +kernel⟩
theorem d_Company_ties (h : Fx P w K mg base α) : FnZ P w K mg base 2 α.f_Company_ties α.d_Company_ties ["self"] (bodyZ 5 (g_Company_ties α)) :=
  FunD.zx (k := 1) h.F_Company_ties sc_Company_ties fun cdv A outer s H E c hp => ⟨_, SsZ.cons (SZ.set 1 sc_Company_ties.nd rfl (Or.inl rfl) (EZ.lstH (AZ.nil))) (SsZ.cons (SZ.for_ hp c.calm (IZ.enum rfl h.b_enumerate (EZ.fld h.cl_Company h.na_Company_folk (EZ.var 0 (pv 0)))) (gtup (K := K) c.calm (GsZ.cons (GZ.name 2 (pg_name sc_Company_ties.nd rfl (Or.inr rfl))) (GsZ.cons (GZ.name 3 (pg_name sc_Company_ties.nd rfl (Or.inr rfl))) (GsZ.nil)))) (SsZ.one (SZ.expr (EZ.bm PySem.F.plainAttrs_list PySem.F.slot_list_extend PySem.F.type_list_extend mt_extend mz_extend (EZ.var 1 (pv 1)) (AZ.cons (EZ.frz (lcE [("to", 4)] rfl c.calm sc_Company_ties.nd (IZ.seq (EZ.frz (Z.eCall ((z_spread h).mono (k := 1) (by decide)) c rfl h.G_spread h.F_spread.kp h.B_spread .nil cstL_nil (AZ.cons (EZ.ix (EZ.fld h.cl_Company h.na_Company_table (EZ.var 0 (pv 0))) (EZ.var 2 (pv 2))) (AZ.nil))))) (fun _ _ _ _ _ => GZ.name 4 (pg_name sc_Company_ties.nd rfl (Or.inl rfl))) (fun _ _ _ _ _ => ⟨_, TsZ.one (Z.tGt (EZ.var 4 (pv 4)) (EZ.var 2 (pv 2)))⟩) (fun _ _ _ _ _ => ⟨_, EZ.tup (AZ.cons (EZ.var 3 (pv 3)) (AZ.cons (EZ.ix (EZ.fld h.cl_Company h.na_Company_folk (EZ.var 0 (pv 0))) (EZ.var 4 (pv 4))) (AZ.nil)))⟩) (wipe_name (by decide)) (blkOk_by rfl))) (AZ.nil)))))) (SsZ.one (SZ.ret (EZ.var 1 (pv 1)))))⟩
theorem z_Company_ties (h : Fx P w K mg base α) : FnZ P w K mg base 2 α.f_Company_ties α.d_Company_ties ["self"] (m_Company_ties α) := ((d_Company_ties h)).imp (s_Company_ties α)
theorem sc_Company_knows : FnScope N_Company_knows ["self", "one", "other"] (defScope st_Company_knows) := ⟨rfl, rfl, rfl, by decide +kernel, rfl, by decide +kernel, by decide +kernel⟩
theorem d_Company_knows (h : Fx P w K mg base α) : FnZ P w K mg base 2 α.f_Company_knows α.d_Company_knows ["self", "one", "other"] (bodyZ 5 (g_Company_knows α)) :=
  FunD.zx (k := 1) h.F_Company_knows sc_Company_knows fun cdv A outer s H E c hp => ⟨_, SsZ.cons (SZ.par 3 4 c.calm sc_Company_knows.nd rfl rfl (by decide) rfl rfl (AZ.cons (Z.eMeth ((z_Company_place h).mono (k := 1) (by decide)) c h.cl_Company h.M_Company_place h.B_Company_place .nil cstL_nil (EZ.var 0 (pv 0)) (AZ.cons (EZ.var 1 (pv 1)) (AZ.nil))) (AZ.cons (Z.eMeth ((z_Company_place h).mono (k := 1) (by decide)) c h.cl_Company h.M_Company_place h.B_Company_place .nil cstL_nil (EZ.var 0 (pv 0)) (AZ.cons (EZ.var 2 (pv 2)) (AZ.nil))) (AZ.nil))) rfl) (SsZ.one (SZ.ret (EZ.and (Z.eNe c (EZ.var 3 (pv 3)) (EZ.var 4 (pv 4))) (EZ.one (Z.eEq c (Z.eBand (Z.eShr (EZ.ix (EZ.fld h.cl_Company h.na_Company_table (EZ.var 0 (pv 0))) (EZ.var 3 (pv 3))) (EZ.var 4 (pv 4))) (EZ.int)) (EZ.int))))))⟩
theorem z_Company_knows (h : Fx P w K mg base α) : FnZ P w K mg base 2 α.f_Company_knows α.d_Company_knows ["self", "one", "other"] (m_Company_knows α) := ((d_Company_knows h)).imp (s_Company_knows α)
theorem sc_Company_near : FnScope N_Company_near ["self", "name"] (defScope st_Company_near) := ⟨rfl, rfl, rfl, by decide +kernel, rfl, by decide +kernel, by decide +kernel⟩
theorem d_Company_near (h : Fx P w K mg base α) : FnZ P w K mg base 2 α.f_Company_near α.d_Company_near ["self", "name"] (bodyZ 4 (g_Company_near α)) :=
  FunD.zx (k := 1) h.F_Company_near sc_Company_near fun cdv A outer s H E c hp => ⟨_, SsZ.cons (SZ.set 2 sc_Company_near.nd rfl (Or.inr rfl) (Z.eMeth ((z_Company_place h).mono (k := 1) (by decide)) c h.cl_Company h.M_Company_place h.B_Company_place .nil cstL_nil (EZ.var 0 (pv 0)) (AZ.cons (EZ.var 1 (pv 1)) (AZ.nil)))) (SsZ.one (SZ.ret (lcE [("to", 3)] rfl c.calm sc_Company_near.nd (IZ.seq (EZ.frz (Z.eCall ((z_spread h).mono (k := 1) (by decide)) c rfl h.G_spread h.F_spread.kp h.B_spread .nil cstL_nil (AZ.cons (EZ.ix (EZ.fld h.cl_Company h.na_Company_table (EZ.var 0 (pv 0))) (EZ.var 2 (pv 2))) (AZ.nil))))) (fun _ _ _ _ _ => GZ.name 3 (pg_name sc_Company_near.nd rfl (Or.inl rfl))) (fun _ _ _ _ _ => ⟨_, TsZ.one (Z.tNe c.blk (EZ.var 3 (pv 3)) (EZ.var 2 (pv 2)))⟩) (fun _ _ _ _ _ => ⟨_, EZ.ix (EZ.fld h.cl_Company h.na_Company_folk (EZ.var 0 (pv 0))) (EZ.var 3 (pv 3))⟩) (wipe_name (by decide)) (blkOk_by rfl))))⟩
theorem z_Company_near (h : Fx P w K mg base α) : FnZ P w K mg base 2 α.f_Company_near α.d_Company_near ["self", "name"] (m_Company_near α) := ((d_Company_near h)).imp (s_Company_near α)
theorem sc__law_of : FnScope N__law_of ["_law_bag_here", "_law_some"] (defScope st__law_of) := ⟨rfl, rfl, rfl, by decide +kernel, rfl, by decide +kernel, by decide +kernel⟩
theorem d__law_of (h : Fx P w K mg base α) : FnZ P w K mg base 2 α.f__law_of α.d__law_of ["_law_bag_here", "_law_some"] (bodyZ 2 (g__law_of α)) :=
  FunD.zx (k := 1) h.F__law_of sc__law_of fun cdv A outer s H E c hp => ⟨_, SsZ.one (SZ.ret (EZ.ix (EZ.var 1 (pv 1)) (Z.eCall ((z__law_pull h).mono (k := 1) (by decide)) c rfl h.G__law_pull h.F__law_pull.kp h.B__law_pull .nil cstL_nil (AZ.cons (EZ.var 0 (pv 0)) (AZ.cons (EZ.callB call_lenU caz_len rfl h.b_len rfl (AZ.cons (EZ.var 1 (pv 1)) (AZ.nil))) (AZ.nil))))))⟩
theorem z__law_of (h : Fx P w K mg base α) : FnZ P w K mg base 2 α.f__law_of α.d__law_of ["_law_bag_here", "_law_some"] (m__law_of α) := ((d__law_of h)).imp (s__law_of α)
theorem sc__law_mixed : FnScope N__law_mixed ["_law_bag_here", "_law_things"] (defScope st__law_mixed) := ⟨rfl, rfl, rfl, by decide +kernel, rfl, by decide +kernel, by decide +kernel⟩
theorem d__law_mixed (h : Fx P w K mg base α) : FnZ P w K mg base 2 α.f__law_mixed α.d__law_mixed ["_law_bag_here", "_law_things"] (bodyZ 4 (g__law_mixed α)) :=
  FunD.zx (k := 1) h.F__law_mixed sc__law_mixed fun cdv A outer s H E c hp => ⟨_, SsZ.cons (SZ.set 2 sc__law_mixed.nd rfl (Or.inl rfl) (EZ.lstH (AZ.nil))) (SsZ.cons (SZ.for_ hp c.calm (IZ.seq (EZ.var 1 (pv 1))) (GZ.name 3 (pg_name sc__law_mixed.nd rfl (Or.inl rfl))) (SsZ.one (SZ.expr (EZ.bm PySem.F.plainAttrs_list PySem.F.slot_list_insert PySem.F.type_list_insert mt_insertU mz_insert (EZ.var 2 (pv 2)) (AZ.cons (Z.eCall ((z__law_pull h).mono (k := 1) (by decide)) c rfl h.G__law_pull h.F__law_pull.kp h.B__law_pull .nil cstL_nil (AZ.cons (EZ.var 0 (pv 0)) (AZ.cons (Z.eAdd (EZ.callB call_lenU caz_len rfl h.b_len rfl (AZ.cons (EZ.var 2 (pv 2)) (AZ.nil))) (EZ.int)) (AZ.nil)))) (AZ.cons (EZ.var 3 (pv 3)) (AZ.nil))))))) (SsZ.one (SZ.ret (EZ.var 2 (pv 2)))))⟩
theorem z__law_mixed (h : Fx P w K mg base α) : FnZ P w K mg base 2 α.f__law_mixed α.d__law_mixed ["_law_bag_here", "_law_things"] (m__law_mixed α) := ((d__law_mixed h)).imp (s__law_mixed α)
theorem sc__law_some_grid : FnScope N__law_some_grid ["_law_bag_here", "_law_many"] (defScope st__law_some_grid) := ⟨rfl, rfl, rfl, by decide +kernel, rfl, by decide +kernel, by decide +kernel⟩
theorem d__law_some_grid (h : Fx P w K mg base α) : FnZ P w K mg base 2 α.f__law_some_grid α.d__law_some_grid ["_law_bag_here", "_law_many"] (bodyZ 8 (g__law_some_grid α)) :=
  FunD.zx (k := 1) h.F__law_some_grid sc__law_some_grid fun cdv A outer s H E c hp => ⟨_, SsZ.cons (SZ.par 2 3 c.calm sc__law_some_grid.nd rfl rfl (by decide) rfl rfl (AZ.cons (Z.eCall ((z__law_pull h).mono (k := 1) (by decide)) c rfl h.G__law_pull h.F__law_pull.kp h.B__law_pull .nil cstL_nil (AZ.cons (EZ.var 0 (pv 0)) (AZ.cons (EZ.int) (AZ.nil)))) (AZ.cons (Z.eCall ((z__law_pull h).mono (k := 1) (by decide)) c rfl h.G__law_pull h.F__law_pull.kp h.B__law_pull .nil cstL_nil (AZ.cons (EZ.var 0 (pv 0)) (AZ.cons (EZ.int) (AZ.nil)))) (AZ.nil))) rfl) (SsZ.cons (setLcE 4 [("_law_k", 7)] rfl c.calm sc__law_some_grid.nd (IZ.range1 rfl h.b_range (EZ.var 1 (pv 1))) (fun _ _ _ _ _ => GZ.name 7 (pg_name sc__law_some_grid.nd rfl (Or.inl rfl))) (fun _ _ _ _ _ => ⟨_, TsZ.nil⟩) (fun _ _ _ _ _ => ⟨_, Z.eRepH (EZ.lst (AZ.cons (EZ.int) (AZ.nil))) (EZ.var 1 (pv 1))⟩) (wipe_name (by decide)) (blkOk_by rfl) rfl rfl rfl) (SsZ.cons (SZ.for_ hp c.calm (IZ.range1 rfl h.b_range (EZ.var 1 (pv 1))) (GZ.name 5 (pg_name sc__law_some_grid.nd rfl (Or.inl rfl))) (SsZ.cons (SZ.for_ hp c.calm (IZ.range1 rfl h.b_range (EZ.var 5 (pv 5))) (GZ.name 6 (pg_name sc__law_some_grid.nd rfl (Or.inl rfl))) (SsZ.one (SZ.iff (Z.tLt (Z.eCall ((z__law_pull h).mono (k := 1) (by decide)) c rfl h.G__law_pull h.F__law_pull.kp h.B__law_pull .nil cstL_nil (AZ.cons (EZ.var 0 (pv 0)) (AZ.cons (EZ.int) (AZ.nil)))) (EZ.var 2 (pv 2))) (SsZ.one (SZ.asg (EZ.tup (AZ.cons (EZ.int) (AZ.cons (EZ.int) (AZ.nil)))) (gtup (K := K) c.calm (GsZ.cons (GZ.sub c (EZ.ix (EZ.var 4 (pv 4)) (EZ.var 5 (pv 5))) (EZ.var 6 (pv 6))) (GsZ.cons (GZ.sub c (EZ.ix (EZ.var 4 (pv 4)) (EZ.var 6 (pv 6))) (EZ.var 5 (pv 5))) (GsZ.nil)))))) (SsZ.nil)))) (SsZ.one (SZ.asg (EZ.callTy call_intU caz_int rfl h.b_int rfl (AZ.cons (Z.eLt (Z.eCall ((z__law_pull h).mono (k := 1) (by decide)) c rfl h.G__law_pull h.F__law_pull.kp h.B__law_pull .nil cstL_nil (AZ.cons (EZ.var 0 (pv 0)) (AZ.cons (EZ.int) (AZ.nil)))) (EZ.var 3 (pv 3))) (AZ.nil))) (GZ.sub c (EZ.ix (EZ.var 4 (pv 4)) (EZ.var 5 (pv 5))) (EZ.var 5 (pv 5))))))) (SsZ.one (SZ.ret (EZ.var 4 (pv 4))))))⟩
theorem z__law_some_grid (h : Fx P w K mg base α) : FnZ P w K mg base 2 α.f__law_some_grid α.d__law_some_grid ["_law_bag_here", "_law_many"] (m__law_some_grid α) := ((d__law_some_grid h).deep).imp (s__law_some_grid α)
theorem sc__law_text_of : FnScope N__law_text_of ["_law_m"] (defScope st__law_text_of) := ⟨rfl, rfl, rfl, by decide +kernel, rfl, by decide +kernel, by decide +kernel⟩
theorem d__law_text_of (h : Fx P w K mg base α) : FnZ P w K mg base 2 α.f__law_text_of α.d__law_text_of ["_law_m"] (bodyZ 6 (g__law_text_of α)) :=
  FunD.zx (k := 1) h.F__law_text_of sc__law_text_of fun cdv A outer s H E c hp => ⟨_, SsZ.cons (SZ.set 1 sc__law_text_of.nd rfl (Or.inr rfl) (EZ.frz (Z.eCall ((z__law_uneasy_of h).mono (k := 1) (by decide)) c rfl h.G__law_uneasy_of h.F__law_uneasy_of.kp h.B__law_uneasy_of .nil cstL_nil (AZ.cons (EZ.var 0 (pv 0)) (AZ.nil))))) (SsZ.cons (setLcE 2 [("_law_name", 3)] rfl c.calm sc__law_text_of.nd (IZ.seq (EZ.dget c (EZ.var 0 (pv 0)) (EZ.str))) (fun _ _ _ _ _ => GZ.name 3 (pg_name sc__law_text_of.nd rfl (Or.inl rfl))) (fun _ _ _ _ _ => ⟨_, TsZ.nil⟩) (fun _ _ _ _ _ => ⟨_, Z.eAdd (EZ.var 3 (pv 3)) (Z.eMulS (EZ.str) (EZ.callTy call_intU caz_int rfl h.b_int rfl (AZ.cons (Z.eIn (EZ.var 3 (pv 3)) (EZ.var 1 (pv 1))) (AZ.nil))))⟩) (wipe_name (by decide)) (blkOk_by rfl) rfl rfl rfl) (SsZ.frz 2 (SsZ.cons (SZ.set 2 sc__law_text_of.nd rfl (Or.inl rfl) (Z.eAdd (EZ.var 2 (pv 2)) (EZ.frz (lcE [("_law_one", 4), ("_law_other", 5)] rfl c.calm sc__law_text_of.nd (IZ.seq (Z.eCall ((z__law_ties_of h).mono (k := 1) (by decide)) c rfl h.G__law_ties_of h.F__law_ties_of.kp h.B__law_ties_of .nil cstL_nil (AZ.cons (EZ.var 0 (pv 0)) (AZ.nil)))) (fun _ _ _ _ _ => gtup (K := K) c.blk.calm (GsZ.cons (GZ.name 4 (pg_name sc__law_text_of.nd rfl (Or.inl rfl))) (GsZ.cons (GZ.name 5 (pg_name sc__law_text_of.nd rfl (Or.inl rfl))) (GsZ.nil)))) (fun _ _ _ _ _ => ⟨_, TsZ.nil⟩) (fun _ _ _ _ _ => ⟨_, Z.eAdd (Z.eAdd (EZ.var 4 (pv 4)) (EZ.str)) (EZ.var 5 (pv 5))⟩) (wipe_tup (wipe_cons (mono_name) (mono_cons (mono_name) (mono_nil)) (wipe_name (by decide)) (wipe_cons (mono_name) (mono_nil) (wipe_name (by decide)) (wipe_nil)))) (blkOk_by rfl))))) (SsZ.one (SZ.ret (EZ.ifExp (Z.tNe c (EZ.var 2 (pv 2)) (EZ.lst (AZ.nil))) (EZ.bm PySem.F.plainAttrs_str PySem.F.slot_str_join PySem.F.type_str_join mt_joinU mz_join (EZ.str) (AZ.cons (EZ.var 2 (pv 2)) (AZ.nil))) (EZ.str)))))))⟩
theorem z__law_text_of (h : Fx P w K mg base α) : FnZ P w K mg base 2 α.f__law_text_of α.d__law_text_of ["_law_m"] (m__law_text_of α) := ((d__law_text_of h)).imp (s__law_text_of α)
theorem sc_Company___repr__ : FnScope N_Company___repr__ ["self"] (defScope st_Company___repr__) := ⟨rfl, rfl, rfl, by decide +kernel, rfl, by decide +kernel, by decide +kernel⟩
theorem d_Company___repr__ (h : Fx P w K mg base α) : FnZ P w K mg base 3 α.f_Company___repr__ α.d_Company___repr__ ["self"] (bodyZ 1 (g_Company___repr__ α)) :=
  FunD.zx (k := 2) h.F_Company___repr__ sc_Company___repr__ fun cdv A outer s H E c hp => ⟨_, SsZ.one (SZ.ret (EZ.joined (FZ.cons (EZ.str) (FZ.cons (EZ.fmt (EZ.callB call_lenU caz_len rfl h.b_len rfl (AZ.cons (EZ.fld h.cl_Company h.na_Company_folk (EZ.var 0 (pv 0))) (AZ.nil)))) (FZ.cons (EZ.str) (FZ.cons (EZ.fmt (EZ.callB call_lenU caz_len rfl h.b_len rfl (AZ.cons (EZ.frz (Z.eMeth0 ((z_Company_ties h).mono (k := 2) (by decide)) c h.cl_Company h.M_Company_ties h.B_Company_ties .nil cstL_nil (EZ.var 0 (pv 0)))) (AZ.nil)))) (FZ.cons (EZ.str) (FZ.nil))))))))⟩
theorem z_Company___repr__ (h : Fx P w K mg base α) : FnZ P w K mg base 3 α.f_Company___repr__ α.d_Company___repr__ ["self"] (m_Company___repr__ α) := ((d_Company___repr__ h)).imp (s_Company___repr__ α)
theorem sc_Company___str__ : FnScope N_Company___str__ ["self"] (defScope st_Company___str__) := ⟨rfl, rfl, rfl, by decide +kernel, rfl, by decide +kernel, by decide +kernel⟩
theorem d_Company___str__ (h : Fx P w K mg base α) : FnZ P w K mg base 3 α.f_Company___str__ α.d_Company___str__ ["self"] (bodyZ 5 (g_Company___str__ α)) :=
  FunD.zx (k := 2) h.F_Company___str__ sc_Company___str__ fun cdv A outer s H E c hp => ⟨_, SsZ.cons (SZ.iff (Z.tEq c (EZ.fld h.cl_Company h.na_Company_folk (EZ.var 0 (pv 0))) (EZ.tup (AZ.nil))) (SsZ.one (SZ.ret (EZ.str))) (SsZ.nil)) (SsZ.cons (setLcE 1 [("at", 2)] rfl c.calm sc_Company___str__.nd (IZ.range1 rfl h.b_range (EZ.callB call_lenU caz_len rfl h.b_len rfl (AZ.cons (EZ.fld h.cl_Company h.na_Company_folk (EZ.var 0 (pv 0))) (AZ.nil)))) (fun _ _ _ _ _ => GZ.name 2 (pg_name sc_Company___str__.nd rfl (Or.inl rfl))) (fun _ _ _ _ _ => ⟨_, TsZ.nil⟩) (fun _ _ _ _ _ => ⟨_, Z.eAdd (EZ.ix (EZ.fld h.cl_Company h.na_Company_folk (EZ.var 0 (pv 0))) (EZ.var 2 (pv 2))) (Z.eMulS (EZ.str) (Z.eBand (Z.eShr (EZ.ix (EZ.fld h.cl_Company h.na_Company_table (EZ.var 0 (pv 0))) (EZ.var 2 (pv 2))) (EZ.var 2 (pv 2))) (EZ.int)))⟩) (wipe_name (by decide)) (blkOk_by rfl) rfl rfl rfl) (SsZ.frz 1 (SsZ.one (SZ.ret (EZ.bm PySem.F.plainAttrs_str PySem.F.slot_str_join PySem.F.type_str_join mt_joinU mz_join (EZ.str) (AZ.cons (Z.eAdd (EZ.var 1 (pv 1)) (EZ.frz (lcE [("one", 3), ("other", 4)] rfl c.calm sc_Company___str__.nd (IZ.seq (EZ.frz (Z.eMeth0 ((z_Company_ties h).mono (k := 2) (by decide)) c h.cl_Company h.M_Company_ties h.B_Company_ties .nil cstL_nil (EZ.var 0 (pv 0))))) (fun _ _ _ _ _ => gtup (K := K) c.blk.calm (GsZ.cons (GZ.name 3 (pg_name sc_Company___str__.nd rfl (Or.inl rfl))) (GsZ.cons (GZ.name 4 (pg_name sc_Company___str__.nd rfl (Or.inl rfl))) (GsZ.nil)))) (fun _ _ _ _ _ => ⟨_, TsZ.nil⟩) (fun _ _ _ _ _ => ⟨_, EZ.joined (FZ.cons (EZ.fmt (EZ.var 3 (pv 3))) (FZ.cons (EZ.str) (FZ.cons (EZ.fmt (EZ.var 4 (pv 4))) (FZ.nil))))⟩) (wipe_tup (wipe_cons (mono_name) (mono_cons (mono_name) (mono_nil)) (wipe_name (by decide)) (wipe_cons (mono_name) (mono_nil) (wipe_name (by decide)) (wipe_nil)))) (blkOk_by rfl)))) (AZ.nil)))))))⟩
theorem z_Company___str__ (h : Fx P w K mg base α) : FnZ P w K mg base 3 α.f_Company___str__ α.d_Company___str__ ["self"] (m_Company___str__ α) := ((d_Company___str__ h)).imp (s_Company___str__ α)
theorem sc__law_some_names : FnScope N__law_some_names ["_law_bag_here", "_law_many"] (defScope st__law_some_names) := ⟨rfl, rfl, rfl, by decide +kernel, rfl, by decide +kernel, by decide +kernel⟩
theorem d__law_some_names (h : Fx P w K mg base α) : FnZ P w K mg base 3 α.f__law_some_names α.d__law_some_names ["_law_bag_here", "_law_many"] (bodyZ 8 (g__law_some_names α)) :=
  FunD.zx (k := 2) h.F__law_some_names sc__law_some_names fun cdv A outer s H E c hp => ⟨_, SsZ.cons (SZ.par3 2 3 4 c.calm sc__law_some_names.nd rfl rfl rfl (by decide) (by decide) (by decide) rfl rfl rfl (AZ.cons (EZ.lstH (AZ.nil)) (AZ.cons (EZ.str) (AZ.cons (Z.eCall ((z__law_pull h).mono (k := 2) (by decide)) c rfl h.G__law_pull h.F__law_pull.kp h.B__law_pull .nil cstL_nil (AZ.cons (EZ.var 0 (pv 0)) (AZ.cons (EZ.int) (AZ.nil)))) (AZ.nil)))) rfl) (SsZ.cons (SZ.for_ hp c.calm (IZ.range1 rfl h.b_range (EZ.var 1 (pv 1))) (GZ.name 5 (pg_name sc__law_some_names.nd rfl (Or.inl rfl))) (SsZ.cons (SZ.asg (Z.eCall ((z__law_of h).mono (k := 2) (by decide)) c rfl h.G__law_of h.F__law_of.kp h.B__law_of .nil cstL_nil (AZ.cons (EZ.var 0 (pv 0)) (AZ.cons (EZ.lst (AZ.cons (EZ.tup (AZ.cons (EZ.str) (AZ.cons (EZ.str) (AZ.nil)))) (AZ.cons (EZ.tup (AZ.cons (EZ.str) (AZ.cons (EZ.str) (AZ.nil)))) (AZ.cons (EZ.tup (AZ.cons (EZ.str) (AZ.cons (EZ.str) (AZ.nil)))) (AZ.cons (EZ.tup (AZ.cons (EZ.str) (AZ.cons (EZ.str) (AZ.nil)))) (AZ.cons (EZ.tup (AZ.cons (EZ.str) (AZ.cons (EZ.str) (AZ.nil)))) (AZ.nil))))))) (AZ.nil)))) (gtup (K := K) c.calm (GsZ.cons (GZ.name 6 (pg_name sc__law_some_names.nd rfl (Or.inl rfl))) (GsZ.cons (GZ.name 7 (pg_name sc__law_some_names.nd rfl (Or.inl rfl))) (GsZ.nil))))) (SsZ.one (SZ.expr (EZ.bm PySem.F.plainAttrs_list PySem.F.slot_list_append PySem.F.type_list_append mt_append mz_append (EZ.var 2 (pv 2)) (AZ.cons (Z.eAdd (Z.eAdd (EZ.var 6 (pv 6)) (EZ.ix (EZ.var 3 (pv 3)) (Z.eMod (Z.eAdd (EZ.var 4 (pv 4)) (Z.eMul (EZ.int) (EZ.var 5 (pv 5)))) (EZ.int)))) (EZ.var 7 (pv 7))) (AZ.nil))))))) (SsZ.one (SZ.ret (EZ.callB cr_sortedS caz_sortedS rfl h.b_sorted rfl (AZ.cons (EZ.var 2 (pv 2)) (AZ.nil))))))⟩
theorem z__law_some_names (h : Fx P w K mg base α) : FnZ P w K mg base 3 α.f__law_some_names α.d__law_some_names ["_law_bag_here", "_law_many"] (m__law_some_names α) := ((d__law_some_names h)).imp (s__law_some_names α)
theorem sc_made : FnScope N_made ["folk", "table"] (defScope st_made) := ⟨rfl, rfl, rfl, by decide +kernel, rfl, by decide +kernel, by decide +kernel⟩
theorem d_made (h : Fx P w K mg base α) : FnZ P w K mg base 4 α.f_made α.d_made ["folk", "table"] (bodyZ 3 (g_made α)) :=
  FunD.zx (k := 3) h.F_made sc_made fun cdv A outer s H E c hp => ⟨_, SsZ.cons (SZ.set 2 sc_made.nd rfl (Or.inl rfl) (Z.eMake (k := 2) h.mk_Company ((z_Company___init__ h).mono (k := 2) (by decide)) c rfl h.G_Company h.bd_Company_2 h.vd_Company_2 h.cd_Company_2 (AZ.cons (EZ.var 0 (pv 0)) (AZ.nil)))) (SsZ.cons (SZ.setFld h.cl_Company h.na_Company_table (EZ.var 2 (pv 2)) (EZ.callTy call_tupleU caz_tuple rfl h.b_tuple rfl (AZ.cons (EZ.var 1 (pv 1)) (AZ.nil)))) (SsZ.one (SZ.ret (EZ.var 2 (pv 2)))))⟩
theorem z_made (h : Fx P w K mg base α) : FnZ P w K mg base 4 α.f_made α.d_made ["folk", "table"] (m_made α) := ((d_made h).frz).imp (s_made α)
theorem sc__law_drawn : FnScope N__law_drawn ["_law_bag_here", "_law_most"] (defScope st__law_drawn) := ⟨rfl, rfl, rfl, by decide +kernel, rfl, by decide +kernel, by decide +kernel⟩
theorem d__law_drawn (h : Fx P w K mg base α) : FnZ P w K mg base 4 α.f__law_drawn α.d__law_drawn ["_law_bag_here", "_law_most"] (bodyZ 3 (g__law_drawn α)) :=
  FunD.zx (k := 3) h.F__law_drawn sc__law_drawn fun cdv A outer s H E c hp => ⟨_, SsZ.cons (SZ.set 2 sc__law_drawn.nd rfl (Or.inl rfl) (EZ.ifExp (Z.tEq c (Z.eCall ((z__law_pull h).mono (k := 3) (by decide)) c rfl h.G__law_pull h.F__law_pull.kp h.B__law_pull .nil cstL_nil (AZ.cons (EZ.var 0 (pv 0)) (AZ.cons (EZ.int) (AZ.nil)))) (EZ.int)) (EZ.var 1 (pv 1)) (Z.eCall ((z__law_pull h).mono (k := 3) (by decide)) c rfl h.G__law_pull h.F__law_pull.kp h.B__law_pull .nil cstL_nil (AZ.cons (EZ.var 0 (pv 0)) (AZ.cons (Z.eAdd (EZ.var 1 (pv 1)) (EZ.int)) (AZ.nil)))))) (SsZ.one (SZ.ret (EZ.frz (EZ.disp (PsZ.cons (EZ.str) (Z.eCall ((z__law_some_names h).mono (k := 3) (by decide)) c rfl h.G__law_some_names h.F__law_some_names.kp h.B__law_some_names .nil cstL_nil (AZ.cons (EZ.var 0 (pv 0)) (AZ.cons (EZ.var 2 (pv 2)) (AZ.nil)))) (PsZ.cons (EZ.str) (Z.eCall ((z__law_some_grid h).mono (k := 3) (by decide)) c rfl h.G__law_some_grid h.F__law_some_grid.kp h.B__law_some_grid .nil cstL_nil (AZ.cons (EZ.var 0 (pv 0)) (AZ.cons (EZ.var 2 (pv 2)) (AZ.nil)))) (PsZ.nil))) rfl rfl (by simp) (by decide)))))⟩
theorem z__law_drawn (h : Fx P w K mg base α) : FnZ P w K mg base 4 α.f__law_drawn α.d__law_drawn ["_law_bag_here", "_law_most"] (m__law_drawn α) := ((d__law_drawn h)).imp (s__law_drawn α)
theorem sc__law_built : FnScope N__law_built ["_law_bag_here", "_law_m"] (defScope st__law_built) := ⟨rfl, rfl, rfl, by decide +kernel, rfl, by decide +kernel, by decide +kernel⟩
theorem d__law_built (h : Fx P w K mg base α) : FnZ P w K mg base 4 α.f__law_built α.d__law_built ["_law_bag_here", "_law_m"] (bodyZ 6 (g__law_built α)) :=
  FunD.zx (k := 3) h.F__law_built sc__law_built fun cdv A outer s H E c hp => ⟨_, SsZ.cons (setLcE 2 [("_law_one", 4), ("_law_other", 5)] rfl c.calm sc__law_built.nd (IZ.seq (Z.eCall ((z__law_ties_of h).mono (k := 3) (by decide)) c rfl h.G__law_ties_of h.F__law_ties_of.kp h.B__law_ties_of .nil cstL_nil (AZ.cons (EZ.var 1 (pv 1)) (AZ.nil)))) (fun _ _ _ _ _ => gtup (K := K) c.blk.calm (GsZ.cons (GZ.name 4 (pg_name sc__law_built.nd rfl (Or.inl rfl))) (GsZ.cons (GZ.name 5 (pg_name sc__law_built.nd rfl (Or.inl rfl))) (GsZ.nil)))) (fun _ _ _ _ _ => ⟨_, TsZ.nil⟩) (fun _ _ _ _ _ => ⟨_, EZ.ifExp (Z.tEq c.blk (Z.eCall ((z__law_pull h).mono (k := 3) (by decide)) c.blk rfl h.G__law_pull h.F__law_pull.kp h.B__law_pull .nil cstL_nil (AZ.cons (EZ.var 0 (pv 0)) (AZ.cons (EZ.int) (AZ.nil)))) (EZ.int)) (EZ.tup (AZ.cons (EZ.var 4 (pv 4)) (AZ.cons (EZ.var 5 (pv 5)) (AZ.nil)))) (EZ.tup (AZ.cons (EZ.var 5 (pv 5)) (AZ.cons (EZ.var 4 (pv 4)) (AZ.nil))))⟩) (wipe_tup (wipe_cons (mono_name) (mono_cons (mono_name) (mono_nil)) (wipe_name (by decide)) (wipe_cons (mono_name) (mono_nil) (wipe_name (by decide)) (wipe_nil)))) (blkOk_by rfl) rfl rfl rfl) (SsZ.frz 2 (SsZ.cons (SZ.set 3 sc__law_built.nd rfl (Or.inl rfl) (EZ.frz (Z.eCall ((z__law_uneasy_of h).mono (k := 3) (by decide)) c rfl h.G__law_uneasy_of h.F__law_uneasy_of.kp h.B__law_uneasy_of .nil cstL_nil (AZ.cons (EZ.var 1 (pv 1)) (AZ.nil))))) (SsZ.one (SZ.ret (EZ.frz (Z.eMakeN (k := 2) h.mk_Company ((z_Company___init__ h).mono (k := 2) (by decide)) c rfl h.G_Company h.KB_Company_ties_restless (kwD_rel _) (fun _ _ _ => rfl) (fun _ _ _ => rfl) (AZ.cons (EZ.frz (Z.eCall ((z__law_mixed h).mono (k := 3) (by decide)) c rfl h.G__law_mixed h.F__law_mixed.kp h.B__law_mixed .nil cstL_nil (AZ.cons (EZ.var 0 (pv 0)) (AZ.cons (EZ.dget c (EZ.var 1 (pv 1)) (EZ.str)) (AZ.nil))))) (AZ.nil)) (KZ.cons (EZ.frz (Z.eCall ((z__law_mixed h).mono (k := 3) (by decide)) c rfl h.G__law_mixed h.F__law_mixed.kp h.B__law_mixed .nil cstL_nil (AZ.cons (EZ.var 0 (pv 0)) (AZ.cons (EZ.var 2 (pv 2)) (AZ.nil))))) (KZ.cons (EZ.frz (Z.eCall ((z__law_mixed h).mono (k := 3) (by decide)) c rfl h.G__law_mixed h.F__law_mixed.kp h.B__law_mixed .nil cstL_nil (AZ.cons (EZ.var 0 (pv 0)) (AZ.cons (EZ.var 3 (pv 3)) (AZ.nil))))) (KZ.nil)))))))))⟩
theorem z__law_built (h : Fx P w K mg base α) : FnZ P w K mg base 4 α.f__law_built α.d__law_built ["_law_bag_here", "_law_m"] (m__law_built α) := ((d__law_built h)).imp (s__law_built α)
theorem sc_Company_rest_turned : FnScope N_Company_rest_turned ["self", "name"] (defScope st_Company_rest_turned) := ⟨rfl, rfl, rfl, by decide +kernel, rfl, by decide +kernel, by decide +kernel⟩
theorem d_Company_rest_turned (h : Fx P w K mg base α) : FnZ P w K mg base 5 α.f_Company_rest_turned α.d_Company_rest_turned ["self", "name"] (bodyZ 4 (g_Company_rest_turned α)) :=
  FunD.zx (k := 4) h.F_Company_rest_turned sc_Company_rest_turned fun cdv A outer s H E c hp => ⟨_, SsZ.cons (SZ.set 2 sc_Company_rest_turned.nd rfl (Or.inl rfl) (Z.eMeth ((z_Company_place h).mono (k := 4) (by decide)) c h.cl_Company h.M_Company_place h.B_Company_place .nil cstL_nil (EZ.var 0 (pv 0)) (AZ.cons (EZ.var 1 (pv 1)) (AZ.nil)))) (SsZ.cons (SZ.set 3 sc_Company_rest_turned.nd rfl (Or.inl rfl) (EZ.callTy call_listU caz_listH rfl h.b_list rfl (AZ.cons (EZ.fld h.cl_Company h.na_Company_table (EZ.var 0 (pv 0))) (AZ.nil)))) (SsZ.cons (SZ.asg (Z.eBxor (EZ.ix (EZ.var 3 (pv 3)) (EZ.var 2 (pv 2))) (Z.eShl (EZ.int) (EZ.var 2 (pv 2)))) (GZ.sub c (EZ.var 3 (pv 3)) (EZ.var 2 (pv 2)))) (SsZ.one (SZ.ret (Z.eCall ((z_made h).mono (k := 4) (by decide)) c rfl h.G_made h.F_made.kp h.B_made .nil cstL_nil (AZ.cons (EZ.fld h.cl_Company h.na_Company_folk (EZ.var 0 (pv 0))) (AZ.cons (EZ.var 3 (pv 3)) (AZ.nil))))))))⟩
theorem z_Company_rest_turned (h : Fx P w K mg base α) : FnZ P w K mg base 5 α.f_Company_rest_turned α.d_Company_rest_turned ["self", "name"] (m_Company_rest_turned α) := ((d_Company_rest_turned h)).imp (s_Company_rest_turned α)
theorem sc__law_asked_so : FnScope N__law_asked_so ["_law_company", "_law_m"] (defScope st__law_asked_so) := ⟨rfl, rfl, rfl, by decide +kernel, rfl, by decide +kernel, by decide +kernel⟩
theorem d__law_asked_so (h : Fx P w K mg base α) : FnZ P w K mg base 5 α.f__law_asked_so α.d__law_asked_so ["_law_company", "_law_m"] (bodyZ 11 (g__law_asked_so α)) :=
  FunD.zx (k := 4) h.F__law_asked_so sc__law_asked_so fun cdv A outer s H E c hp => ⟨_, SsZ.cons (SZ.asg (EZ.tup (AZ.cons (EZ.dget c (EZ.var 1 (pv 1)) (EZ.str)) (AZ.cons (EZ.dget c (EZ.var 1 (pv 1)) (EZ.str)) (AZ.nil)))) (gtup (K := K) c.calm (GsZ.cons (GZ.name 2 (pg_name sc__law_asked_so.nd rfl (Or.inr rfl))) (GsZ.cons (GZ.name 3 (pg_name sc__law_asked_so.nd rfl (Or.inr rfl))) (GsZ.nil))))) (SsZ.cons (SZ.for_ hp c.calm (IZ.range1 rfl h.b_range (EZ.callB call_lenU caz_len rfl h.b_len rfl (AZ.cons (EZ.var 2 (pv 2)) (AZ.nil)))) (GZ.name 4 (pg_name sc__law_asked_so.nd rfl (Or.inr rfl))) (SsZ.cons (setLcE 5 [("_law_k", 9)] rfl c.calm sc__law_asked_so.nd (IZ.range1 rfl h.b_range (EZ.callB call_lenU caz_len rfl h.b_len rfl (AZ.cons (EZ.var 2 (pv 2)) (AZ.nil)))) (fun _ _ _ _ _ => GZ.name 9 (pg_name sc__law_asked_so.nd rfl (Or.inl rfl))) (fun _ _ _ _ _ => ⟨_, TsZ.one (WZ.tz (WZ.and (Z.tNe c.blk (EZ.var 9 (pv 9)) (EZ.var 4 (pv 4))) (WZ.and1 (Z.tEq c.blk (EZ.ix (EZ.ix (EZ.var 3 (pv 3)) (EZ.var 4 (pv 4))) (EZ.var 9 (pv 9))) (EZ.int)))))⟩) (fun _ _ _ _ _ => ⟨_, EZ.ix (EZ.var 2 (pv 2)) (EZ.var 9 (pv 9))⟩) (wipe_name (by decide)) (blkOk_by rfl) rfl rfl rfl) (SsZ.frz 5 (SsZ.cons (SZ.set 6 sc__law_asked_so.nd rfl (Or.inl rfl) (Z.eMeth ((z_Company_near h).mono (k := 4) (by decide)) c h.cl_Company h.M_Company_near h.B_Company_near .nil cstL_nil (EZ.var 0 (pv 0)) (AZ.cons (EZ.ix (EZ.var 2 (pv 2)) (EZ.var 4 (pv 4))) (AZ.nil)))) (SsZ.cons (SZ.expr (EZ.bm PySem.F.plainAttrs_list PySem.F.slot_list_append PySem.F.type_list_append mt_append mz_append (EZ.var 6 (pv 6)) (AZ.cons (EZ.str) (AZ.nil)))) (SsZ.cons (SZ.iff (TZ.not (TZ.val (Z.eCall ((z__law_same h).mono (k := 4) (by decide)) c rfl h.G__law_same h.F__law_same.kp h.B__law_same .nil cstL_nil (AZ.cons (EZ.lst (AZ.cons (EZ.var 6 (pv 6)) (AZ.cons (Z.eMeth ((z_Company_near h).mono (k := 4) (by decide)) c h.cl_Company h.M_Company_near h.B_Company_near .nil cstL_nil (EZ.var 0 (pv 0)) (AZ.cons (EZ.ix (EZ.var 2 (pv 2)) (EZ.var 4 (pv 4))) (AZ.nil))) (AZ.nil)))) (AZ.cons (EZ.lst (AZ.cons (Z.eAdd (EZ.var 5 (pv 5)) (EZ.lst (AZ.cons (EZ.str) (AZ.nil)))) (AZ.cons (EZ.var 5 (pv 5)) (AZ.nil)))) (AZ.nil)))))) (SsZ.one (SZ.ret (EZ.bl))) (SsZ.nil)) (SsZ.cons (setLcE 7 [("_law_other", 10)] rfl c.calm sc__law_asked_so.nd (IZ.seq (EZ.var 2 (pv 2))) (fun _ _ _ _ _ => GZ.name 10 (pg_name sc__law_asked_so.nd rfl (Or.inl rfl))) (fun _ _ _ _ _ => ⟨_, TsZ.nil⟩) (fun _ _ _ _ _ => ⟨_, Z.eMeth ((z_Company_knows h).mono (k := 4) (by decide)) c.blk h.cl_Company h.M_Company_knows h.B_Company_knows .nil cstL_nil (EZ.var 0 (pv 0)) (AZ.cons (EZ.ix (EZ.var 2 (pv 2)) (EZ.var 4 (pv 4))) (AZ.cons (EZ.var 10 (pv 10)) (AZ.nil)))⟩) (wipe_name (by decide)) (blkOk_by rfl) rfl rfl rfl) (SsZ.frz 7 (SsZ.one (SZ.iff (TZ.not (TZ.val (Z.eCall ((z__law_same h).mono (k := 4) (by decide)) c rfl h.G__law_same h.F__law_same.kp h.B__law_same .nil cstL_nil (AZ.cons (EZ.var 7 (pv 7)) (AZ.cons (EZ.frz (lcE [("_law_k", 9)] rfl c.calm sc__law_asked_so.nd (IZ.range1 rfl h.b_range (EZ.callB call_lenU caz_len rfl h.b_len rfl (AZ.cons (EZ.var 2 (pv 2)) (AZ.nil)))) (fun _ _ _ _ _ => GZ.name 9 (pg_name sc__law_asked_so.nd rfl (Or.inl rfl))) (fun _ _ _ _ _ => ⟨_, TsZ.nil⟩) (fun _ _ _ _ _ => ⟨_, EZ.and (Z.eNe c.blk (EZ.var 9 (pv 9)) (EZ.var 4 (pv 4))) (EZ.one (Z.eEq c.blk (EZ.ix (EZ.ix (EZ.var 3 (pv 3)) (EZ.var 4 (pv 4))) (EZ.var 9 (pv 9))) (EZ.int)))⟩) (wipe_name (by decide)) (blkOk_by rfl))) (AZ.nil)))))) (SsZ.one (SZ.ret (EZ.bl))) (SsZ.nil))))))))))) (SsZ.cons (SZ.set 8 sc__law_asked_so.nd rfl (Or.inl rfl) (Z.eAdd (Z.eAdd (Z.eAdd (Z.eAdd (EZ.str) (EZ.callTy call_strI caz_strI rfl h.b_str rfl (AZ.cons (EZ.callB call_lenU caz_len rfl h.b_len rfl (AZ.cons (EZ.var 2 (pv 2)) (AZ.nil))) (AZ.nil)))) (EZ.str)) (EZ.callTy call_strI caz_strI rfl h.b_str rfl (AZ.cons (EZ.callB call_lenU caz_len rfl h.b_len rfl (AZ.cons (Z.eCall ((z__law_ties_of h).mono (k := 4) (by decide)) c rfl h.G__law_ties_of h.F__law_ties_of.kp h.B__law_ties_of .nil cstL_nil (AZ.cons (EZ.var 1 (pv 1)) (AZ.nil))) (AZ.nil))) (AZ.nil)))) (EZ.str))) (SsZ.one (SZ.ret (Z.eCall ((z__law_same h).mono (k := 4) (by decide)) c rfl h.G__law_same h.F__law_same.kp h.B__law_same .nil cstL_nil (AZ.cons (EZ.lst (AZ.cons (EZ.callB (call_lenOwn ((z_Company___len__ h).mono (k := 3) (by decide)) c h.M_Company___len__ h.B_Company___len__) caz_lenOwn rfl h.b_len rfl (AZ.cons (EZ.var 0 (pv 0)) (AZ.nil))) (AZ.cons (EZ.callB (call_reprOwn ((z_Company___repr__ h).mono (k := 3) (by decide)) c h.M_Company___repr__ h.B_Company___repr__) caz_strOwn rfl h.b_repr rfl (AZ.cons (EZ.var 0 (pv 0)) (AZ.nil))) (AZ.nil)))) (AZ.cons (EZ.lst (AZ.cons (EZ.callB call_lenU caz_len rfl h.b_len rfl (AZ.cons (EZ.var 2 (pv 2)) (AZ.nil))) (AZ.cons (EZ.var 8 (pv 8)) (AZ.nil)))) (AZ.nil))))))))⟩
theorem z__law_asked_so (h : Fx P w K mg base α) : FnZ P w K mg base 5 α.f__law_asked_so α.d__law_asked_so ["_law_company", "_law_m"] (m__law_asked_so α) := ((d__law_asked_so h)).imp (s__law_asked_so α)
theorem sc__law_stands : FnScope N__law_stands ["_law_company", "_law_m"] (defScope st__law_stands) := ⟨rfl, rfl, rfl, by decide +kernel, rfl, by decide +kernel, by decide +kernel⟩
theorem d__law_stands (h : Fx P w K mg base α) : FnZ P w K mg base 6 α.f__law_stands α.d__law_stands ["_law_company", "_law_m"] (bodyZ 3 (g__law_stands α)) :=
  FunD.zx (k := 5) h.F__law_stands sc__law_stands fun cdv A outer s H E c hp => ⟨_, SsZ.cons (SZ.set 2 sc__law_stands.nd rfl (Or.inl rfl) (EZ.lst (AZ.cons (EZ.frz (Z.eMeth0 ((z_Company_names h).mono (k := 5) (by decide)) c h.cl_Company h.M_Company_names h.B_Company_names .nil cstL_nil (EZ.var 0 (pv 0)))) (AZ.cons (EZ.frz (Z.eMeth0 ((z_Company_ties h).mono (k := 5) (by decide)) c h.cl_Company h.M_Company_ties h.B_Company_ties .nil cstL_nil (EZ.var 0 (pv 0)))) (AZ.cons (EZ.frz (Z.eMeth0 ((z_Company_restless h).mono (k := 5) (by decide)) c h.cl_Company h.M_Company_restless h.B_Company_restless .nil cstL_nil (EZ.var 0 (pv 0)))) (AZ.cons (EZ.callTy (call_strOwn ((z_Company___str__ h).mono (k := 3) (by decide)) c h.M_Company___str__ h.B_Company___str__) caz_strOwn rfl h.b_str rfl (AZ.cons (EZ.var 0 (pv 0)) (AZ.nil))) (AZ.nil))))))) (SsZ.one (SZ.ret (Z.eCall ((z__law_same h).mono (k := 5) (by decide)) c rfl h.G__law_same h.F__law_same.kp h.B__law_same .nil cstL_nil (AZ.cons (EZ.var 2 (pv 2)) (AZ.cons (EZ.lst (AZ.cons (EZ.dget c (EZ.var 1 (pv 1)) (EZ.str)) (AZ.cons (Z.eCall ((z__law_ties_of h).mono (k := 5) (by decide)) c rfl h.G__law_ties_of h.F__law_ties_of.kp h.B__law_ties_of .nil cstL_nil (AZ.cons (EZ.var 1 (pv 1)) (AZ.nil))) (AZ.cons (EZ.frz (Z.eCall ((z__law_uneasy_of h).mono (k := 5) (by decide)) c rfl h.G__law_uneasy_of h.F__law_uneasy_of.kp h.B__law_uneasy_of .nil cstL_nil (AZ.cons (EZ.var 1 (pv 1)) (AZ.nil)))) (AZ.cons (Z.eCall ((z__law_text_of h).mono (k := 5) (by decide)) c rfl h.G__law_text_of h.F__law_text_of.kp h.B__law_text_of .nil cstL_nil (AZ.cons (EZ.var 1 (pv 1)) (AZ.nil))) (AZ.nil)))))) (AZ.nil))))))⟩
theorem z__law_stands (h : Fx P w K mg base α) : FnZ P w K mg base 6 α.f__law_stands α.d__law_stands ["_law_company", "_law_m"] (m__law_stands α) := ((d__law_stands h)).imp (s__law_stands α)
theorem sc_law : FnScope N_law ["_law_script"] (defScope st_law) := ⟨rfl, rfl, rfl, by decide +kernel, rfl, by decide +kernel, by decide +kernel⟩
theorem d_law (h : Fx P w K mg base α) : FnZ P w K mg base 7 α.f_law α.d_law ["_law_script"] (bodyZ 12 (g_law α)) :=
  FunD.zx (k := 6) h.F_law sc_law fun cdv A outer s H E c hp => ⟨_, SsZ.cons (SZ.set 1 sc_law.nd rfl (Or.inl rfl) (Z.eCall ((z__law_bag h).mono (k := 6) (by decide)) c rfl h.G__law_bag h.F__law_bag.kp h.B__law_bag .nil cstL_nil (AZ.cons (EZ.var 0 (pv 0)) (AZ.nil)))) (SsZ.cons (SZ.set 2 sc_law.nd rfl (Or.inl rfl) (Z.eCall ((z__law_drawn h).mono (k := 6) (by decide)) c rfl h.G__law_drawn h.F__law_drawn.kp h.B__law_drawn .nil cstL_nil (AZ.cons (EZ.var 1 (pv 1)) (AZ.cons (EZ.int) (AZ.nil))))) (SsZ.cons (SZ.set 3 sc_law.nd rfl (Or.inl rfl) (EZ.lst (AZ.cons (Z.eCall ((z__law_mixed h).mono (k := 6) (by decide)) c rfl h.G__law_mixed h.F__law_mixed.kp h.B__law_mixed .nil cstL_nil (AZ.cons (EZ.var 1 (pv 1)) (AZ.cons (EZ.dget c (EZ.var 2 (pv 2)) (EZ.str)) (AZ.nil)))) (AZ.cons (Z.eCall ((z__law_mixed h).mono (k := 6) (by decide)) c rfl h.G__law_mixed h.F__law_mixed.kp h.B__law_mixed .nil cstL_nil (AZ.cons (EZ.var 1 (pv 1)) (AZ.cons (Z.eCall ((z__law_ties_of h).mono (k := 6) (by decide)) c rfl h.G__law_ties_of h.F__law_ties_of.kp h.B__law_ties_of .nil cstL_nil (AZ.cons (EZ.var 2 (pv 2)) (AZ.nil))) (AZ.nil)))) (AZ.cons (Z.eCall ((z__law_uneasy_of h).mono (k := 6) (by decide)) c rfl h.G__law_uneasy_of h.F__law_uneasy_of.kp h.B__law_uneasy_of .nil cstL_nil (AZ.cons (EZ.var 2 (pv 2)) (AZ.nil))) (AZ.nil)))))) (SsZ.cons (setLcE 4 [("_law_some", 6)] rfl c.calm sc_law.nd (IZ.seq (EZ.var 3 (pv 3))) (fun _ _ _ _ _ => GZ.name 6 (pg_name sc_law.nd rfl (Or.inl rfl))) (fun _ _ _ _ _ => ⟨_, TsZ.nil⟩) (fun _ _ _ _ _ => ⟨_, EZ.callTy call_listU caz_list rfl h.b_list rfl (AZ.cons (EZ.var 6 (pv 6)) (AZ.nil))⟩) (wipe_name (by decide)) (blkOk_by rfl) rfl rfl rfl) (SsZ.frz 4 (SsZ.cons (SZ.set 5 sc_law.nd rfl (Or.inr rfl) (EZ.frz (Z.eMakeN (k := 5) h.mk_Company ((z_Company___init__ h).mono (k := 5) (by decide)) c rfl h.G_Company h.KB_Company_restless_ties (kwD_rel _) (fun _ _ _ => rfl) (fun _ _ _ => rfl) (AZ.cons (EZ.ix (EZ.var 3 (pv 3)) (EZ.int)) (AZ.nil)) (KZ.cons (Z.eAdd (EZ.ix (EZ.var 3 (pv 3)) (EZ.int)) (EZ.slice (EZ.ix (EZ.var 3 (pv 3)) (EZ.int)) (PZ.none) (PZ.some (EZ.int)))) (KZ.cons (EZ.callTy call_tupleU caz_tuple rfl h.b_tuple rfl (AZ.cons (EZ.ix (EZ.var 3 (pv 3)) (EZ.int)) (AZ.nil))) (KZ.nil)))))) (SsZ.cons (SZ.iff (WZ.tz (WZ.or (Z.tNe c (EZ.var 3 (pv 3)) (EZ.var 4 (pv 4))) (WZ.or (TZ.not (TZ.val (Z.eCall ((z__law_stands h).mono (k := 6) (by decide)) c rfl h.G__law_stands h.F__law_stands.kp h.B__law_stands .nil cstL_nil (AZ.cons (EZ.var 5 (pv 5)) (AZ.cons (EZ.var 2 (pv 2)) (AZ.nil)))))) (WZ.or1 (TZ.not (TZ.val (Z.eCall ((z__law_asked_so h).mono (k := 6) (by decide)) c rfl h.G__law_asked_so h.F__law_asked_so.kp h.B__law_asked_so .nil cstL_nil (AZ.cons (EZ.var 5 (pv 5)) (AZ.cons (EZ.var 2 (pv 2)) (AZ.nil)))))))))) (SsZ.one (SZ.ret (EZ.bl))) (SsZ.nil)) (SsZ.cons (SZ.for_ hp c.calm (IZ.seq (Z.eAdd (EZ.var 3 (pv 3)) (EZ.lst (AZ.cons (Z.eMeth0 ((z_Company_names h).mono (k := 6) (by decide)) c h.cl_Company h.M_Company_names h.B_Company_names .nil cstL_nil (EZ.var 5 (pv 5))) (AZ.cons (Z.eMeth0 ((z_Company_ties h).mono (k := 6) (by decide)) c h.cl_Company h.M_Company_ties h.B_Company_ties .nil cstL_nil (EZ.var 5 (pv 5))) (AZ.cons (Z.eMeth0 ((z_Company_restless h).mono (k := 6) (by decide)) c h.cl_Company h.M_Company_restless h.B_Company_restless .nil cstL_nil (EZ.var 5 (pv 5))) (AZ.nil))))))) (GZ.name 6 (pg_name sc_law.nd rfl (Or.inl rfl))) (SsZ.one (SZ.expr (EZ.bm PySem.F.plainAttrs_list PySem.F.slot_list_append PySem.F.type_list_append mt_append mz_append (EZ.var 6 (pv 6)) (AZ.cons (EZ.str) (AZ.nil)))))) (SsZ.cons (SZ.set 7 sc_law.nd rfl (Or.inl rfl) (Z.eCall ((z__law_built h).mono (k := 6) (by decide)) c rfl h.G__law_built h.F__law_built.kp h.B__law_built .nil cstL_nil (AZ.cons (EZ.var 1 (pv 1)) (AZ.cons (EZ.var 2 (pv 2)) (AZ.nil))))) (SsZ.cons (SZ.iff (WZ.tz (WZ.or (TZ.not (TZ.val (Z.eCall ((z__law_stands h).mono (k := 6) (by decide)) c rfl h.G__law_stands h.F__law_stands.kp h.B__law_stands .nil cstL_nil (AZ.cons (EZ.var 5 (pv 5)) (AZ.cons (EZ.var 2 (pv 2)) (AZ.nil)))))) (WZ.or (Z.tIsntBl (EZ.cmp (op_eqOwn ((z_Company___eq__ h).mono (k := 6) (by decide)) c h.M_Company___eq__ h.B_Company___eq__) (oz_eqOwn h.nf_Company h.ow_Company) (EZ.var 5 (pv 5)) (EZ.var 7 (pv 7)) rfl) (EZ.bl)) (WZ.or1 (Z.tIsntBl (EZ.cmp (op_neOwn ((z_Company___eq__ h).mono (k := 5) (by decide)) c h.M_Company___eq__ h.ne_Company h.O_Company.hm h.B_Company___eq__) (oz_eqOwn h.nf_Company h.ow_Company) (EZ.var 5 (pv 5)) (EZ.var 7 (pv 7)) rfl) (EZ.bl)))))) (SsZ.one (SZ.ret (EZ.bl))) (SsZ.nil)) (SsZ.cons (SZ.iff (Z.tEq c (EZ.dget c (EZ.var 2 (pv 2)) (EZ.str)) (EZ.lst (AZ.nil))) (SsZ.one (SZ.ret (EZ.and (Z.eIsBl (EZ.cmp (op_eqOwn ((z_Company___eq__ h).mono (k := 6) (by decide)) c h.M_Company___eq__ h.B_Company___eq__) (oz_eqOwn h.nf_Company h.ow_Company) (EZ.var 5 (pv 5)) (EZ.frz (Z.eMake (k := 5) h.mk_Company ((z_Company___init__ h).mono (k := 5) (by decide)) c rfl h.G_Company h.bd_Company_2 h.vd_Company_2 h.cd_Company_2 (AZ.cons (EZ.lst (AZ.nil)) (AZ.nil)))) rfl) (EZ.bl)) (EZ.one (Z.eEq c (EZ.callTy (call_strOwn ((z_Company___str__ h).mono (k := 4) (by decide)) c h.M_Company___str__ h.B_Company___str__) caz_strOwn rfl h.b_str rfl (AZ.cons (EZ.frz (Z.eMake (k := 5) h.mk_Company ((z_Company___init__ h).mono (k := 5) (by decide)) c rfl h.G_Company h.bd_Company_2 h.vd_Company_2 h.cd_Company_2 (AZ.cons (EZ.tup (AZ.nil)) (AZ.nil)))) (AZ.nil))) (EZ.str)))))) (SsZ.nil)) (SsZ.cons (SZ.set 8 sc_law.nd rfl (Or.inl rfl) (Z.eCall ((z__law_of h).mono (k := 6) (by decide)) c rfl h.G__law_of h.F__law_of.kp h.B__law_of .nil cstL_nil (AZ.cons (EZ.var 1 (pv 1)) (AZ.cons (EZ.dget c (EZ.var 2 (pv 2)) (EZ.str)) (AZ.nil))))) (SsZ.cons (SZ.set 9 sc_law.nd rfl (Or.inl rfl) (EZ.lst (AZ.cons (Z.eMeth ((z_Company_rest_turned h).mono (k := 6) (by decide)) c h.cl_Company h.M_Company_rest_turned h.B_Company_rest_turned .nil cstL_nil (EZ.var 5 (pv 5)) (AZ.cons (EZ.var 8 (pv 8)) (AZ.nil))) (AZ.cons (EZ.frz (Z.eMake (k := 5) h.mk_Company ((z_Company___init__ h).mono (k := 5) (by decide)) c rfl h.G_Company h.bd_Company_2 h.vd_Company_2 h.cd_Company_2 (AZ.cons (EZ.slice (EZ.dget c (EZ.var 2 (pv 2)) (EZ.str)) (PZ.some (EZ.int)) (PZ.none)) (AZ.nil)))) (AZ.cons (EZ.callTy (call_strOwn ((z_Company___str__ h).mono (k := 4) (by decide)) c h.M_Company___str__ h.B_Company___str__) caz_strOwn rfl h.b_str rfl (AZ.cons (EZ.var 5 (pv 5)) (AZ.nil))) (AZ.cons (EZ.non) (AZ.cons (EZ.dget c (EZ.var 2 (pv 2)) (EZ.str)) (AZ.nil)))))))) (SsZ.cons (SZ.iff (WZ.tz (WZ.or (TZ.val (EZ.callB (cr_any c.calm) caz_any rfl h.b_any rfl (AZ.cons (EZ.frz (lcE [("_law_one", 11)] rfl c.calm sc_law.nd (IZ.seq (EZ.var 9 (pv 9))) (fun _ _ _ _ _ => GZ.name 11 (pg_name sc_law.nd rfl (Or.inl rfl))) (fun _ _ _ _ _ => ⟨_, TsZ.nil⟩) (fun _ _ _ _ _ => ⟨_, EZ.cmp (op_eqOwn ((z_Company___eq__ h).mono (k := 6) (by decide)) c.blk h.M_Company___eq__ h.B_Company___eq__) (oz_eqOwn h.nf_Company h.ow_Company) (EZ.var 5 (pv 5)) (EZ.var 11 (pv 11)) rfl⟩) (wipe_name (by decide)) (blkOk_by rfl))) (AZ.nil)))) (WZ.or1 (TZ.not (TZ.val (EZ.callB (cr_all c.calm) caz_all rfl h.b_all rfl (AZ.cons (EZ.frz (lcE [("_law_one", 11)] rfl c.calm sc_law.nd (IZ.seq (EZ.var 9 (pv 9))) (fun _ _ _ _ _ => GZ.name 11 (pg_name sc_law.nd rfl (Or.inl rfl))) (fun _ _ _ _ _ => ⟨_, TsZ.nil⟩) (fun _ _ _ _ _ => ⟨_, EZ.cmp (op_neOwn ((z_Company___eq__ h).mono (k := 5) (by decide)) c.blk h.M_Company___eq__ h.ne_Company h.O_Company.hm h.B_Company___eq__) (oz_eqOwn h.nf_Company h.ow_Company) (EZ.var 5 (pv 5)) (EZ.var 11 (pv 11)) rfl⟩) (wipe_name (by decide)) (blkOk_by rfl))) (AZ.nil)))))))) (SsZ.one (SZ.ret (EZ.bl))) (SsZ.nil)) (SsZ.cons (SZ.set 10 sc_law.nd rfl (Or.inl rfl) (EZ.frz (Z.eMake (k := 5) h.mk_Company ((z_Company___init__ h).mono (k := 5) (by decide)) c rfl h.G_Company h.bd_Company_2 h.vd_Company_2 h.cd_Company_2 (AZ.cons (EZ.dget c (EZ.var 2 (pv 2)) (EZ.str)) (AZ.nil))))) (SsZ.one (SZ.ret (EZ.and (Z.eCall ((z__law_same h).mono (k := 6) (by decide)) c rfl h.G__law_same h.F__law_same.kp h.B__law_same .nil cstL_nil (AZ.cons (EZ.lst (AZ.cons (EZ.frz (Z.eMeth0 ((z_Company_ties h).mono (k := 6) (by decide)) c h.cl_Company h.M_Company_ties h.B_Company_ties .nil cstL_nil (EZ.var 10 (pv 10)))) (AZ.cons (EZ.frz (Z.eMeth0 ((z_Company_restless h).mono (k := 6) (by decide)) c h.cl_Company h.M_Company_restless h.B_Company_restless .nil cstL_nil (EZ.var 10 (pv 10)))) (AZ.nil)))) (AZ.cons (EZ.lst (AZ.cons (EZ.lst (AZ.nil)) (AZ.cons (EZ.lst (AZ.nil)) (AZ.nil)))) (AZ.nil)))) (EZ.one (Z.eEq c (EZ.bm PySem.F.plainAttrs_list PySem.F.slot_list_count PySem.F.type_list_count mt_countS mz_countS (EZ.frz (Z.eMeth ((z_Company_near h).mono (k := 6) (by decide)) c h.cl_Company h.M_Company_near h.B_Company_near .nil cstL_nil (EZ.var 5 (pv 5)) (AZ.cons (EZ.var 8 (pv 8)) (AZ.nil)))) (AZ.cons (EZ.str) (AZ.nil))) (EZ.int))))))))))))))))))))⟩
theorem z_law (h : Fx P w K mg base α) : FnZ P w K mg base 7 α.f_law α.d_law ["_law_script"] (m_law α) := ((d_law h)).imp (s_law α)
end K01
namespace K01
open PySem L2 Z PySem.Spec PyProof.Rows

def kwAt (f : Str × Option Str) (x : Str) (K : PySem.W.Frag) : Addr := match K.lookup (He.fAd K f) with
  | some ⟨_, _, .func fd, _⟩ => (match fd.kwdefaults with
    | .ref D => (match PySem.W.nsIn K D x with
      | some (some (.ref b)) => b
      | _ => 0)
    | _ => 0)
  | _ => 0
def nilTup (K : PySem.W.Frag) (a : Addr) : Bool := match K.lookup a with
  | some ⟨.type c, _, .seq its _, _⟩ => decide (c = "tuple") && its.isEmpty
  | _ => false
theorem nilTup_ok {K : PySem.W.Frag} {a : Addr} (h : nilTup K a = true) (H : Hp) : SqT K H a [] := by
  unfold nilTup at h
  cases q : K.lookup a with
  | none =>
    rw [q] at h
    cases h
  | some o =>
    obtain ⟨oc, od, dt, osl⟩ := o
    rw [q] at h
    cases oc with
    | type c =>
      cases dt with
      | seq its n =>
        obtain ⟨h1, h2⟩ := He.ba (show (decide (c = "tuple") && its.isEmpty) = true from h)
        have e := Array.isEmpty_iff.mp h2
        subst e
        exact .inr ⟨_, #[], n, q, congrArg Value.type (of_decide_eq_true h1), rfl, by decide, .nil⟩
      | _ => cases h
    | _ => cases dt <;> cases h
def ownB (K : PySem.W.Frag) (C : Addr) : Bool := He.eqO (PySem.W.findIn K (.ref C) "__class__") (some (some (.builtin "object.__class__"))) && (He.eqO (PySem.W.specialIn K (.builtin "object.__class__") "__get__") (some (some (.builtin "getset_descriptor.__get__"))) && (decide (PySem.W.takesIn K (.builtin "object.__class__") = some true) && decide (PySem.W.mroIn K C (.type "object") = some true)))
theorem ownB_ok {K : PySem.W.Frag} {C : Addr} (cl : Cls K C) (h : ownB K C = true) : Own K C := by
  obtain ⟨h1, h⟩ := He.ba h
  obtain ⟨h2, h⟩ := He.ba h
  obtain ⟨h3, h4⟩ := He.ba h
  exact ⟨cl, He.eqO_ok h1, He.eqO_ok h2, of_decide_eq_true h3, of_decide_eq_true h4⟩
def kitB2 (K : PySem.W.Frag) (C : Addr) (ts : List Value) (b : Bool) : Bool := ts.all fun t => decide (PySem.W.kitOne K t (.ref C) = some b)
theorem kitB2_ok {K : PySem.W.Frag} {C : Addr} {ts : List Value} {b : Bool} (h : kitB2 K C ts b = true) : ∀ t, t ∈ ts → PySem.W.kitOne K t (.ref C) = some b := fun t ht => of_decide_eq_true (List.all_eq_true.mp h t ht)
def nfB (K : PySem.W.Frag) (C : Addr) (ts : List Value) : Bool := ts.all fun t => PySem.W.notFirst K C t
/-- the keywords, put in the parameters' order -/
def kwG (is : List Nat) {β : Type} (us zs : List β) : List β := match is, zs with
  | [1, 0], [a, b] => us ++ [b, a]
  | _, _ => us ++ zs
theorem valsD {zs : List V} {ws : List Value} (r : Vals zs ws) (i : Nat) : L2.RelV (zs.getD i .non) (ws.getD i .none) := by
  induction r generalizing i with
  | nil => exact rfl
  | cons h _ ih => cases i with
    | zero => simpa using h
    | succ j => simpa using ih j
theorem kwG_rel {is : List Nat} {vs zs : List V} {us ws : List Value} (r1 : Vals vs us) (r2 : Vals zs ws) : Vals (kwG is vs zs) (kwG is us ws) := by
  unfold kwG
  split
  · cases r2 with
    | cons h1 r2 => cases r2 with
      | cons h2 r2 =>
        cases r2
        exact Vals.append r1 (.cons h2 (.cons h1 .nil))
  · rename_i hno
    split
    · rename_i a b
      cases r2 with
      | cons h1 r2 => cases r2 with
        | cons h2 r2 =>
          cases r2
          exact (hno _ _ rfl rfl).elim
    · exact Vals.append r1 r2
def mLaw : Fz := fun ds S Q _ => ∃ ns : List Int, ds = [.kls (ns.map .int)] ∧ ns.length ≤ 63 ∧ Q (.bl true) S
theorem kbn_kw {K : PySem.W.Frag} {fd : FuncData} {ps ks : List Str} {n : Nat} (hs : ks.length = 2) {is : List Nat} (his : is = [0, 1] ∨ is = [1, 0]) (h : KBn K fd ps n ks (fun us ws => kwG is us ws) (fun vs zs => kwG is vs zs)) : KBn K fd ps n ks (kwU is) (kwV is) := by
  refine ⟨fun s us ws X l1 l2 => ?_, fun {vs us zs ws} r1 r2 => ?_⟩
  · have q := h.to s us ws X l1 l2
    rw [hs] at l2
    match ws, l2 with
    | [a, b], _ => rcases his with rfl | rfl <;> exact q
  · rcases his with rfl | rfl
    · exact Vals.append r1 (.cons (valsD r2 0) (.cons (valsD r2 1) .nil))
    · exact Vals.append r1 (.cons (valsD r2 1) (.cons (valsD r2 0) .nil))

def e_Company___eq__ : He.DefD := ⟨("Company", some "__eq__"), "__eq__", "Company.__eq__", defArgs st_Company___eq__, defBody st_Company___eq__, defScope st_Company___eq__, [], []⟩
def e_Company___len__ : He.DefD := ⟨("Company", some "__len__"), "__len__", "Company.__len__", defArgs st_Company___len__, defBody st_Company___len__, defScope st_Company___len__, [], []⟩
def e_Company_names : He.DefD := ⟨("Company", some "names"), "names", "Company.names", defArgs st_Company_names, defBody st_Company_names, defScope st_Company_names, [], []⟩
def e_Company_restless : He.DefD := ⟨("Company", some "restless"), "restless", "Company.restless", defArgs st_Company_restless, defBody st_Company_restless, defScope st_Company_restless, [], []⟩
def e_Company_place : He.DefD := ⟨("Company", some "place"), "place", "Company.place", defArgs st_Company_place, defBody st_Company_place, defScope st_Company_place, [], []⟩
def e_spread : He.DefD := ⟨("spread", none), "spread", "spread", defArgs st_spread, defBody st_spread, defScope st_spread, [], []⟩
def e_is_name : He.DefD := ⟨("is_name", none), "is_name", "is_name", defArgs st_is_name, defBody st_is_name, defScope st_is_name, [], []⟩
def e__law_bag : He.DefD := ⟨("_law_bag", none), "_law_bag", "_law_bag", defArgs st__law_bag, defBody st__law_bag, defScope st__law_bag, [], []⟩
def e__law_pull : He.DefD := ⟨("_law_pull", none), "_law_pull", "_law_pull", defArgs st__law_pull, defBody st__law_pull, defScope st__law_pull, [], []⟩
def e__law_same : He.DefD := ⟨("_law_same", none), "_law_same", "_law_same", defArgs st__law_same, defBody st__law_same, defScope st__law_same, [], []⟩
def e__law_ties_of : He.DefD := ⟨("_law_ties_of", none), "_law_ties_of", "_law_ties_of", defArgs st__law_ties_of, defBody st__law_ties_of, defScope st__law_ties_of, [], []⟩
def e__law_uneasy_of : He.DefD := ⟨("_law_uneasy_of", none), "_law_uneasy_of", "_law_uneasy_of", defArgs st__law_uneasy_of, defBody st__law_uneasy_of, defScope st__law_uneasy_of, [], []⟩
def e_Company___init__ : He.DefD := ⟨("Company", some "__init__"), "__init__", "Company.__init__", defArgs st_Company___init__, defBody st_Company___init__, defScope st_Company___init__, [], [("ties", .adr (kwAt ("Company", some "__init__") "ties")), ("restless", .adr (kwAt ("Company", some "__init__") "restless"))]⟩
def e_Company_ties : He.DefD := ⟨("Company", some "ties"), "ties", "Company.ties", defArgs st_Company_ties, defBody st_Company_ties, defScope st_Company_ties, [], []⟩
def e_Company_knows : He.DefD := ⟨("Company", some "knows"), "knows", "Company.knows", defArgs st_Company_knows, defBody st_Company_knows, defScope st_Company_knows, [], []⟩
def e_Company_near : He.DefD := ⟨("Company", some "near"), "near", "Company.near", defArgs st_Company_near, defBody st_Company_near, defScope st_Company_near, [], []⟩
def e__law_of : He.DefD := ⟨("_law_of", none), "_law_of", "_law_of", defArgs st__law_of, defBody st__law_of, defScope st__law_of, [], []⟩
def e__law_mixed : He.DefD := ⟨("_law_mixed", none), "_law_mixed", "_law_mixed", defArgs st__law_mixed, defBody st__law_mixed, defScope st__law_mixed, [], []⟩
def e__law_some_grid : He.DefD := ⟨("_law_some_grid", none), "_law_some_grid", "_law_some_grid", defArgs st__law_some_grid, defBody st__law_some_grid, defScope st__law_some_grid, [], []⟩
def e__law_text_of : He.DefD := ⟨("_law_text_of", none), "_law_text_of", "_law_text_of", defArgs st__law_text_of, defBody st__law_text_of, defScope st__law_text_of, [], []⟩
def e_Company___repr__ : He.DefD := ⟨("Company", some "__repr__"), "__repr__", "Company.__repr__", defArgs st_Company___repr__, defBody st_Company___repr__, defScope st_Company___repr__, [], []⟩
def e_Company___str__ : He.DefD := ⟨("Company", some "__str__"), "__str__", "Company.__str__", defArgs st_Company___str__, defBody st_Company___str__, defScope st_Company___str__, [], []⟩
def e__law_some_names : He.DefD := ⟨("_law_some_names", none), "_law_some_names", "_law_some_names", defArgs st__law_some_names, defBody st__law_some_names, defScope st__law_some_names, [], []⟩
def e_made : He.DefD := ⟨("made", none), "made", "made", defArgs st_made, defBody st_made, defScope st_made, [], []⟩
def e__law_drawn : He.DefD := ⟨("_law_drawn", none), "_law_drawn", "_law_drawn", defArgs st__law_drawn, defBody st__law_drawn, defScope st__law_drawn, [], []⟩
def e__law_built : He.DefD := ⟨("_law_built", none), "_law_built", "_law_built", defArgs st__law_built, defBody st__law_built, defScope st__law_built, [], []⟩
def e_Company_rest_turned : He.DefD := ⟨("Company", some "rest_turned"), "rest_turned", "Company.rest_turned", defArgs st_Company_rest_turned, defBody st_Company_rest_turned, defScope st_Company_rest_turned, [], []⟩
def e__law_asked_so : He.DefD := ⟨("_law_asked_so", none), "_law_asked_so", "_law_asked_so", defArgs st__law_asked_so, defBody st__law_asked_so, defScope st__law_asked_so, [], []⟩
def e__law_stands : He.DefD := ⟨("_law_stands", none), "_law_stands", "_law_stands", defArgs st__law_stands, defBody st__law_stands, defScope st__law_stands, [], []⟩
def e_law : He.DefD := ⟨("law", none), "law", "law", defArgs st_law, defBody st_law, defScope st_law, [], []⟩
def fn : List He.DefD := [e_Company___eq__, e_Company___len__, e_Company_names, e_Company_restless, e_Company_place, e_spread, e_is_name, e__law_bag, e__law_pull, e__law_same, e__law_ties_of, e__law_uneasy_of, e_Company___init__, e_Company_ties, e_Company_knows, e_Company_near, e__law_of, e__law_mixed, e__law_some_grid, e__law_text_of, e_Company___repr__, e_Company___str__, e__law_some_names, e_made, e__law_drawn, e__law_built, e_Company_rest_turned, e__law_asked_so, e__law_stands, e_law]
def fa : List He.Fa := [.free "all", .free "any", .free "enumerate", .free "int", .free "isinstance", .free "len", .free "list", .free "range", .free "repr", .free "sorted", .free "str", .free "tuple", .str "LETTERS" "abcdefghijklmnopqrstuvwxyz", .int "MOST_FOLK" 16, .glo "Company", .cls "Company", .mkr "Company", .noat "Company" "folk", .noat "Company" "places", .noat "Company" "table", .meth "Company" "__eq__", .meth "Company" "__len__", .meth "Company" "names", .meth "Company" "restless", .meth "Company" "place", .glo "spread", .glo "is_name", .glo "_law_bag", .glo "_law_pull", .glo "_law_same", .glo "_law_ties_of", .glo "_law_uneasy_of", .meth "Company" "ties", .meth "Company" "knows", .meth "Company" "near", .glo "_law_of", .glo "_law_mixed", .glo "_law_some_grid", .glo "_law_text_of", .meth "Company" "__repr__", .meth "Company" "__str__", .glo "_law_some_names", .glo "made", .glo "_law_drawn", .glo "_law_built", .meth "Company" "rest_turned", .glo "_law_asked_so", .glo "_law_stands", .glo "law"]
def ex (K : PySem.W.Frag) : Bool := nilTup K (kwAt ("Company", some "__init__") "ties" K) && (nilTup K (kwAt ("Company", some "__init__") "restless" K) && (ownB K (He.ga K "Company") && (He.eqO (PySem.W.findIn K (.ref (He.ga K "Company")) "__ne__") (some (some (.builtin "object.__ne__"))) &&
  (kitB2 K (He.ga K "Company") [.ref (He.ga K "Company")] true && (kitB2 K (He.ga K "Company") [.type "str", .type "NoneType", .type "list"] false && nfB K (He.ga K "Company") [.ref (He.ga K "Company"), .type "str", .type "NoneType", .type "list"])))))
abbrev R : PySem.W.OpenRow := PySem.W.OpenLaw.row PySem.Challenge.rw_bankfolk_k01_companies_told
abbrev hk : PySem.W.Hook := He.hookX 6 fa fn [] [] ex
def ob (s : PySem.W.SharedT) : He.AlX := He.obsX 6 fa fn [] [] ex (HandSHeadRun.getT s)
theorem ob_eq (s : PySem.W.SharedT) : ob s = hk.obs s.abs := He.obsX_eq (HandSHeadRun.getT_eq s)
theorem run (w : World) : HandSHeadRun.RunEq R (PySem.W.view R.prog [31]) hk ob 4000 ["FolkError", "Missing", "BadName", "Full", "BadTie", "Unknown", "spread", "MOST_FOLK", "LETTERS", "is_name", "Company", "made", "_wall", "_law_bag", "_law_pull", "_law_of", "_law_mixed", "_law_same", "_law_some_names", "_law_some_grid", "_law_drawn", "_law_ties_of", "_law_uneasy_of", "_law_text_of", "_law_built", "_law_stands", "_law_asked_so"] w := by
  intro os
  kernel_rfl
theorem facts {w : World} {K : PySem.W.Frag} {h : Heap} {mg : Str → Option Value} {f : Addr} (X : K.In h) (G : h.Ns mainGlobals mg) (hfa : mg ("law" : Str) = some (.ref f)) (c : He.SaysX fa fn [] [] ex w h K) :
    ∃ α : Ad, α.f_law = f ∧ (∀ (s : Shared) (v : Value), BindsTo s α.d_law ⟨[v], []⟩ [("_law_script", v)]) ∧ ∀ (P : Program) (base : Heap), Fx P w K mg base α := by
  obtain ⟨d_Company___eq__, F_Company___eq__⟩ := c.t.d.def_ 0 (d := e_Company___eq__) rfl
  obtain ⟨d_Company___len__, F_Company___len__⟩ := c.t.d.def_ 1 (d := e_Company___len__) rfl
  obtain ⟨d_Company_names, F_Company_names⟩ := c.t.d.def_ 2 (d := e_Company_names) rfl
  obtain ⟨d_Company_restless, F_Company_restless⟩ := c.t.d.def_ 3 (d := e_Company_restless) rfl
  obtain ⟨d_Company_place, F_Company_place⟩ := c.t.d.def_ 4 (d := e_Company_place) rfl
  obtain ⟨d_spread, F_spread⟩ := c.t.d.def_ 5 (d := e_spread) rfl
  obtain ⟨d_is_name, F_is_name⟩ := c.t.d.def_ 6 (d := e_is_name) rfl
  obtain ⟨d__law_bag, F__law_bag⟩ := c.t.d.def_ 7 (d := e__law_bag) rfl
  obtain ⟨d__law_pull, F__law_pull⟩ := c.t.d.def_ 8 (d := e__law_pull) rfl
  obtain ⟨d__law_same, F__law_same⟩ := c.t.d.def_ 9 (d := e__law_same) rfl
  obtain ⟨d__law_ties_of, F__law_ties_of⟩ := c.t.d.def_ 10 (d := e__law_ties_of) rfl
  obtain ⟨d__law_uneasy_of, F__law_uneasy_of⟩ := c.t.d.def_ 11 (d := e__law_uneasy_of) rfl
  obtain ⟨d_Company___init__, F_Company___init__⟩ := c.t.d.def_ 12 (d := e_Company___init__) rfl
  obtain ⟨d_Company_ties, F_Company_ties⟩ := c.t.d.def_ 13 (d := e_Company_ties) rfl
  obtain ⟨d_Company_knows, F_Company_knows⟩ := c.t.d.def_ 14 (d := e_Company_knows) rfl
  obtain ⟨d_Company_near, F_Company_near⟩ := c.t.d.def_ 15 (d := e_Company_near) rfl
  obtain ⟨d__law_of, F__law_of⟩ := c.t.d.def_ 16 (d := e__law_of) rfl
  obtain ⟨d__law_mixed, F__law_mixed⟩ := c.t.d.def_ 17 (d := e__law_mixed) rfl
  obtain ⟨d__law_some_grid, F__law_some_grid⟩ := c.t.d.def_ 18 (d := e__law_some_grid) rfl
  obtain ⟨d__law_text_of, F__law_text_of⟩ := c.t.d.def_ 19 (d := e__law_text_of) rfl
  obtain ⟨d_Company___repr__, F_Company___repr__⟩ := c.t.d.def_ 20 (d := e_Company___repr__) rfl
  obtain ⟨d_Company___str__, F_Company___str__⟩ := c.t.d.def_ 21 (d := e_Company___str__) rfl
  obtain ⟨d__law_some_names, F__law_some_names⟩ := c.t.d.def_ 22 (d := e__law_some_names) rfl
  obtain ⟨d_made, F_made⟩ := c.t.d.def_ 23 (d := e_made) rfl
  obtain ⟨d__law_drawn, F__law_drawn⟩ := c.t.d.def_ 24 (d := e__law_drawn) rfl
  obtain ⟨d__law_built, F__law_built⟩ := c.t.d.def_ 25 (d := e__law_built) rfl
  obtain ⟨d_Company_rest_turned, F_Company_rest_turned⟩ := c.t.d.def_ 26 (d := e_Company_rest_turned) rfl
  obtain ⟨d__law_asked_so, F__law_asked_so⟩ := c.t.d.def_ 27 (d := e__law_asked_so) rfl
  obtain ⟨d__law_stands, F__law_stands⟩ := c.t.d.def_ 28 (d := e__law_stands) rfl
  obtain ⟨d_law, F_law⟩ := c.t.d.def_ 29 (d := e_law) rfl
  obtain ⟨t_LETTERS, ht_LETTERS⟩ := He.str_ok X G (c.t.d.fact 12 (f := .str "LETTERS" "abcdefghijklmnopqrstuvwxyz") rfl)
  obtain ⟨t_MOST_FOLK, ht_MOST_FOLK⟩ := He.int_ok X G (c.t.d.fact 13 (f := .int "MOST_FOLK" 16) rfl)
  obtain ⟨x1, z⟩ := He.ba c.more
  obtain ⟨x2, z⟩ := He.ba z
  obtain ⟨x3, z⟩ := He.ba z
  obtain ⟨x4, z⟩ := He.ba z
  obtain ⟨x5, z⟩ := He.ba z
  obtain ⟨x6, x7⟩ := He.ba z
  have ow : Own K (He.ga K "Company") := ownB_ok (He.cls_ok (c.t.d.facts (f := .cls "Company") (by simp [fa]))) x3
  obtain ⟨dv, vd, bd⟩ := FunD.binds0 (ps := ["self", "names", "ties", "restless"]) F_Company___init__ 2 (List.cons_ne_nil _ _) rfl fun D doc pm an cdv ct us ks l1 l2 => match us, ks, l1, l2 with
    | [_, _], [_, _], _, _ => ⟨_, _, _, _, _, _, rfl, rfl, _, _, _, _, _, _, rfl, rfl, rfl⟩
  obtain ⟨_, kb1⟩ := FunD.kbinds0 (ps := ["self", "names", "ties", "restless"]) F_Company___init__ 2 ["restless", "ties"] [] (fun us _ ws => kwG [1, 0] us ws) (List.cons_ne_nil _ _) (fun q hq => (nomatch hq)) (fun r1 _ r2 => kwG_rel r1 r2) fun D doc pm an cdv ct us mv ws l1 l2 l3 => match us, mv, ws, l1, l2, l3 with
    | [_, _], [], [_, _], _, _, _ => rfl
  obtain ⟨_, kb2⟩ := FunD.kbinds0 (ps := ["self", "names", "ties", "restless"]) F_Company___init__ 2 ["ties", "restless"] [] (fun us _ ws => kwG [0, 1] us ws) (List.cons_ne_nil _ _) (fun q hq => (nomatch hq)) (fun r1 _ r2 => kwG_rel r1 r2) fun D doc pm an cdv ct us mv ws l1 l2 l3 => match us, mv, ws, l1, l2, l3 with
    | [_, _], [], [_, _], _, _, _ => rfl
  have e := hfa.symm.trans (He.glo_ok X G (c.t.d.fact 48 (f := .glo "law") rfl))
  cases e
  have bl := FunD.bindsA (ps := ["_law_script"]) F_law fun _ _ _ _ _ _ us hl => match us, hl with | [_], _ => rfl
  refine ⟨{ Company := He.ga K "Company", f_Company___eq__ := He.fAd K e_Company___eq__.at_, d_Company___eq__ := d_Company___eq__, f_Company___len__ := He.fAd K e_Company___len__.at_, d_Company___len__ := d_Company___len__, f_Company_names := He.fAd K e_Company_names.at_, d_Company_names := d_Company_names, f_Company_restless := He.fAd K e_Company_restless.at_, d_Company_restless := d_Company_restless, f_Company_place := He.fAd K e_Company_place.at_, d_Company_place := d_Company_place, f_spread := He.fAd K e_spread.at_, d_spread := d_spread, f_is_name := He.fAd K e_is_name.at_, d_is_name := d_is_name, f__law_bag := He.fAd K e__law_bag.at_, d__law_bag := d__law_bag, f__law_pull := He.fAd K e__law_pull.at_, d__law_pull := d__law_pull, f__law_same := He.fAd K e__law_same.at_, d__law_same := d__law_same, f__law_ties_of := He.fAd K e__law_ties_of.at_, d__law_ties_of := d__law_ties_of, f__law_uneasy_of := He.fAd K e__law_uneasy_of.at_, d__law_uneasy_of := d__law_uneasy_of, f_Company___init__ := He.fAd K e_Company___init__.at_, d_Company___init__ := d_Company___init__, f_Company_ties := He.fAd K e_Company_ties.at_, d_Company_ties := d_Company_ties, f_Company_knows := He.fAd K e_Company_knows.at_, d_Company_knows := d_Company_knows, f_Company_near := He.fAd K e_Company_near.at_, d_Company_near := d_Company_near, f__law_of := He.fAd K e__law_of.at_, d__law_of := d__law_of, f__law_mixed := He.fAd K e__law_mixed.at_, d__law_mixed := d__law_mixed, f__law_some_grid := He.fAd K e__law_some_grid.at_, d__law_some_grid := d__law_some_grid, f__law_text_of := He.fAd K e__law_text_of.at_, d__law_text_of := d__law_text_of, f_Company___repr__ := He.fAd K e_Company___repr__.at_, d_Company___repr__ := d_Company___repr__, f_Company___str__ := He.fAd K e_Company___str__.at_, d_Company___str__ := d_Company___str__, f__law_some_names := He.fAd K e__law_some_names.at_, d__law_some_names := d__law_some_names, f_made := He.fAd K e_made.at_, d_made := d_made, f__law_drawn := He.fAd K e__law_drawn.at_, d__law_drawn := d__law_drawn, f__law_built := He.fAd K e__law_built.at_, d__law_built := d__law_built, f_Company_rest_turned := He.fAd K e_Company_rest_turned.at_, d_Company_rest_turned := d_Company_rest_turned, f__law_asked_so := He.fAd K e__law_asked_so.at_, d__law_asked_so := d__law_asked_so, f__law_stands := He.fAd K e__law_stands.at_, d__law_stands := d__law_stands, f_law := He.fAd K e_law.at_, d_law := d_law, t_LETTERS := t_LETTERS, t_MOST_FOLK := t_MOST_FOLK, a_ties := kwAt ("Company", some "__init__") "ties" K, a_restless := kwAt ("Company", some "__init__") "restless" K, dv_init := dv }, rfl, fun s v => bl s [v] rfl, fun P base => { b_all := He.free_ok X G (c.t.d.fact 0 (f := .free "all") rfl), b_any := He.free_ok X G (c.t.d.fact 1 (f := .free "any") rfl), b_enumerate := He.free_ok X G (c.t.d.fact 2 (f := .free "enumerate") rfl), b_int := He.free_ok X G (c.t.d.fact 3 (f := .free "int") rfl), b_isinstance := He.free_ok X G (c.t.d.fact 4 (f := .free "isinstance") rfl), b_len := He.free_ok X G (c.t.d.fact 5 (f := .free "len") rfl), b_list := He.free_ok X G (c.t.d.fact 6 (f := .free "list") rfl), b_range := He.free_ok X G (c.t.d.fact 7 (f := .free "range") rfl), b_repr := He.free_ok X G (c.t.d.fact 8 (f := .free "repr") rfl), b_sorted := He.free_ok X G (c.t.d.fact 9 (f := .free "sorted") rfl), b_str := He.free_ok X G (c.t.d.fact 10 (f := .free "str") rfl), b_tuple := He.free_ok X G (c.t.d.fact 11 (f := .free "tuple") rfl), c_LETTERS := ht_LETTERS, c_MOST_FOLK := ht_MOST_FOLK, G_Company := He.glo_ok X G (c.t.d.fact 14 (f := .glo "Company") rfl), cl_Company := He.cls_ok (c.t.d.fact 15 (f := .cls "Company") rfl), mk_Company := He.mkr_ok (c.t.d.fact 16 (f := .mkr "Company") rfl), O_Company := ow, ne_Company := He.eqO_ok x4, iy_Company := kitB2_ok x5, in_Company := kitB2_ok x6, io_Company := fun C h => (by rcases h with h | h <;> simp [yes_Company, no_Company] at h; subst h; exact ow), nf_Company := fun t ht => List.all_eq_true.mp x7 t ht, ow_Company := fun C h => (by simp [tys_Company] at h; subst h; exact ow), na_Company_folk := He.noat_ok (c.t.d.fact 17 (f := .noat "Company" "folk") rfl), na_Company_places := He.noat_ok (c.t.d.fact 18 (f := .noat "Company" "places") rfl), na_Company_table := He.noat_ok (c.t.d.fact 19 (f := .noat "Company" "table") rfl), F_Company___eq__ := F_Company___eq__, B_Company___eq__ := F_Company___eq__.bindsN fun _ _ _ _ _ _ us hl => match us, hl with | [_, _], _ => rfl, M_Company___eq__ := He.meth_ok (c.t.d.fact 20 (f := .meth "Company" "__eq__") rfl), F_Company___len__ := F_Company___len__, B_Company___len__ := F_Company___len__.bindsN fun _ _ _ _ _ _ us hl => match us, hl with | [_], _ => rfl, M_Company___len__ := He.meth_ok (c.t.d.fact 21 (f := .meth "Company" "__len__") rfl), F_Company_names := F_Company_names, B_Company_names := F_Company_names.bindsN fun _ _ _ _ _ _ us hl => match us, hl with | [_], _ => rfl, M_Company_names := He.meth_ok (c.t.d.fact 22 (f := .meth "Company" "names") rfl), F_Company_restless := F_Company_restless, B_Company_restless := F_Company_restless.bindsN fun _ _ _ _ _ _ us hl => match us, hl with | [_], _ => rfl, M_Company_restless := He.meth_ok (c.t.d.fact 23 (f := .meth "Company" "restless") rfl), F_Company_place := F_Company_place, B_Company_place := F_Company_place.bindsN fun _ _ _ _ _ _ us hl => match us, hl with | [_, _], _ => rfl, M_Company_place := He.meth_ok (c.t.d.fact 24 (f := .meth "Company" "place") rfl), F_spread := F_spread, B_spread := F_spread.bindsN fun _ _ _ _ _ _ us hl => match us, hl with | [_], _ => rfl, G_spread := He.glo_ok X G (c.t.d.fact 25 (f := .glo "spread") rfl), F_is_name := F_is_name, B_is_name := F_is_name.bindsN fun _ _ _ _ _ _ us hl => match us, hl with | [_], _ => rfl, G_is_name := He.glo_ok X G (c.t.d.fact 26 (f := .glo "is_name") rfl), F__law_bag := F__law_bag, B__law_bag := F__law_bag.bindsN fun _ _ _ _ _ _ us hl => match us, hl with | [_], _ => rfl, G__law_bag := He.glo_ok X G (c.t.d.fact 27 (f := .glo "_law_bag") rfl), F__law_pull := F__law_pull, B__law_pull := F__law_pull.bindsN fun _ _ _ _ _ _ us hl => match us, hl with | [_, _], _ => rfl, G__law_pull := He.glo_ok X G (c.t.d.fact 28 (f := .glo "_law_pull") rfl), F__law_same := F__law_same, B__law_same := F__law_same.bindsN fun _ _ _ _ _ _ us hl => match us, hl with | [_, _], _ => rfl, G__law_same := He.glo_ok X G (c.t.d.fact 29 (f := .glo "_law_same") rfl), F__law_ties_of := F__law_ties_of, B__law_ties_of := F__law_ties_of.bindsN fun _ _ _ _ _ _ us hl => match us, hl with | [_], _ => rfl, G__law_ties_of := He.glo_ok X G (c.t.d.fact 30 (f := .glo "_law_ties_of") rfl), F__law_uneasy_of := F__law_uneasy_of, B__law_uneasy_of := F__law_uneasy_of.bindsN fun _ _ _ _ _ _ us hl => match us, hl with | [_], _ => rfl, G__law_uneasy_of := He.glo_ok X G (c.t.d.fact 31 (f := .glo "_law_uneasy_of") rfl), F_Company___init__ := F_Company___init__, F_Company_ties := F_Company_ties, B_Company_ties := F_Company_ties.bindsN fun _ _ _ _ _ _ us hl => match us, hl with | [_], _ => rfl, M_Company_ties := He.meth_ok (c.t.d.fact 32 (f := .meth "Company" "ties") rfl), F_Company_knows := F_Company_knows, B_Company_knows := F_Company_knows.bindsN fun _ _ _ _ _ _ us hl => match us, hl with | [_, _, _], _ => rfl, M_Company_knows := He.meth_ok (c.t.d.fact 33 (f := .meth "Company" "knows") rfl), F_Company_near := F_Company_near, B_Company_near := F_Company_near.bindsN fun _ _ _ _ _ _ us hl => match us, hl with | [_, _], _ => rfl, M_Company_near := He.meth_ok (c.t.d.fact 34 (f := .meth "Company" "near") rfl), F__law_of := F__law_of, B__law_of := F__law_of.bindsN fun _ _ _ _ _ _ us hl => match us, hl with | [_, _], _ => rfl, G__law_of := He.glo_ok X G (c.t.d.fact 35 (f := .glo "_law_of") rfl), F__law_mixed := F__law_mixed, B__law_mixed := F__law_mixed.bindsN fun _ _ _ _ _ _ us hl => match us, hl with | [_, _], _ => rfl, G__law_mixed := He.glo_ok X G (c.t.d.fact 36 (f := .glo "_law_mixed") rfl), F__law_some_grid := F__law_some_grid, B__law_some_grid := F__law_some_grid.bindsN fun _ _ _ _ _ _ us hl => match us, hl with | [_, _], _ => rfl, G__law_some_grid := He.glo_ok X G (c.t.d.fact 37 (f := .glo "_law_some_grid") rfl), F__law_text_of := F__law_text_of, B__law_text_of := F__law_text_of.bindsN fun _ _ _ _ _ _ us hl => match us, hl with | [_], _ => rfl, G__law_text_of := He.glo_ok X G (c.t.d.fact 38 (f := .glo "_law_text_of") rfl), F_Company___repr__ := F_Company___repr__, B_Company___repr__ := F_Company___repr__.bindsN fun _ _ _ _ _ _ us hl => match us, hl with | [_], _ => rfl, M_Company___repr__ := He.meth_ok (c.t.d.fact 39 (f := .meth "Company" "__repr__") rfl), F_Company___str__ := F_Company___str__, B_Company___str__ := F_Company___str__.bindsN fun _ _ _ _ _ _ us hl => match us, hl with | [_], _ => rfl, M_Company___str__ := He.meth_ok (c.t.d.fact 40 (f := .meth "Company" "__str__") rfl), F__law_some_names := F__law_some_names, B__law_some_names := F__law_some_names.bindsN fun _ _ _ _ _ _ us hl => match us, hl with | [_, _], _ => rfl, G__law_some_names := He.glo_ok X G (c.t.d.fact 41 (f := .glo "_law_some_names") rfl), F_made := F_made, B_made := F_made.bindsN fun _ _ _ _ _ _ us hl => match us, hl with | [_, _], _ => rfl, G_made := He.glo_ok X G (c.t.d.fact 42 (f := .glo "made") rfl), F__law_drawn := F__law_drawn, B__law_drawn := F__law_drawn.bindsN fun _ _ _ _ _ _ us hl => match us, hl with | [_, _], _ => rfl, G__law_drawn := He.glo_ok X G (c.t.d.fact 43 (f := .glo "_law_drawn") rfl), F__law_built := F__law_built, B__law_built := F__law_built.bindsN fun _ _ _ _ _ _ us hl => match us, hl with | [_, _], _ => rfl, G__law_built := He.glo_ok X G (c.t.d.fact 44 (f := .glo "_law_built") rfl), F_Company_rest_turned := F_Company_rest_turned, B_Company_rest_turned := F_Company_rest_turned.bindsN fun _ _ _ _ _ _ us hl => match us, hl with | [_, _], _ => rfl, M_Company_rest_turned := He.meth_ok (c.t.d.fact 45 (f := .meth "Company" "rest_turned") rfl), F__law_asked_so := F__law_asked_so, B__law_asked_so := F__law_asked_so.bindsN fun _ _ _ _ _ _ us hl => match us, hl with | [_, _], _ => rfl, G__law_asked_so := He.glo_ok X G (c.t.d.fact 46 (f := .glo "_law_asked_so") rfl), F__law_stands := F__law_stands, B__law_stands := F__law_stands.bindsN fun _ _ _ _ _ _ us hl => match us, hl with | [_, _], _ => rfl, G__law_stands := He.glo_ok X G (c.t.d.fact 47 (f := .glo "_law_stands") rfl), F_law := F_law, B_law := F_law.bindsN fun _ _ _ _ _ _ us hl => match us, hl with | [_], _ => rfl, G_law := He.glo_ok X G (c.t.d.fact 48 (f := .glo "law") rfl), KB_Company_restless_ties := kbn_kw rfl (.inr rfl) kb1, KB_Company_ties_restless := kbn_kw rfl (.inl rfl) kb2, bd_Company_2 := bd, vd_Company_2 := vd, cd_Company_2 := fun w => (by simp only [d0_Company_2, RepL, Rep]; exact ⟨_, _, rfl, ⟨_, _, rfl, nilTup_ok x1 _, rfl⟩, _, _, rfl, ⟨_, _, rfl, nilTup_ok x2 _, rfl⟩, rfl⟩) }⟩
end K01
open PySem PySem.W PySem.Calls PyProof.Rows
theorem PySem.Challenge.cw_bankfolk_k01_companies_told_holds : PySem.Challenge.rw_bankfolk_k01_companies_told.Holds := by
  w_on; o_law
  refine HandSHeadRun.head_any (r := OpenLaw.row PySem.Challenge.rw_bankfolk_k01_companies_told) (q := view (OpenLaw.row PySem.Challenge.rw_bankfolk_k01_companies_told).prog [31]) (H := K01.hk) (ob := K01.ob) (M := 4000) (loose := ["FolkError", "Missing", "BadName", "Full", "BadTie", "Unknown", "spread", "MOST_FOLK", "LETTERS", "is_name", "Company", "made", "_wall", "_law_bag", "_law_pull", "_law_of", "_law_mixed", "_law_same", "_law_some_names", "_law_some_grid", "_law_drawn", "_law_ties_of", "_law_uneasy_of", "_law_text_of", "_law_built", "_law_stands", "_law_asked_so"]) (d := HandSHeadRun.topDef (OpenLaw.row PySem.Challenge.rw_bankfolk_k01_companies_told).prog 31) (kwd := []) K01.ob_eq
    (by kernel_rfl) (fun s => by kernel_rfl) K01.run (by kernel_rfl) (by kernel_rfl) (by kernel_rfl) (by rfl) (by first | assumption | decide +kernel) (by decide +kernel) ⟨rfl, rfl, rfl, rfl, rfl, by decide +kernel⟩ ?hw ?hc
  case hw => w_witness2
  case hc =>
    refine Z.walk_ofZ (l := PySem.Challenge.rw_bankfolk_k01_companies_told) (n := 63) (k := 7) (x := "_law_script") (m := fun _ _ => K01.mLaw) rfl (by decide) (by kernel_rfl) ⟨rfl, by decide, by decide⟩ ?F
    intro w mg fa h Y G hmg0
    obtain ⟨K, KX, c⟩ := Y
    have hmg : mg ("law" : PySem.Str) = some (.ref fa) := by
      have e : (HandSHeadRun.topDef (OpenLaw.row PySem.Challenge.rw_bankfolk_k01_companies_told).prog 31).name = ("law" : PySem.Str) := by kernel_rfl
      rw [← e]
      exact hmg0
    obtain ⟨α, rfl, hb, hF⟩ := K01.facts KX G hmg c
    exact ⟨K, α.d_law, KX, hb, fun ns hl => ⟨ns, rfl, hl, rfl⟩, fun base _ _ => K01.z_law (hF _ base)⟩
