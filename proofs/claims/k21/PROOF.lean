import PyProof.Rows.All
import Wide.All
import OpenK.AllK
import Wide.FinOn
import HandS.ForMost
import HandS.ForExc
import HandS.IsInst
import HandS.Wide
import HandS.TupAny
import HandS.Style
import HandS.CallSlots
import HandS.ExcOwn
import PyProof.StrBlock2
import HandS.SortInts
import HandS.SetFor
import HandS.Deep
import HandS.Conv
import HandS.ClsMeth
import HandS.IterNext
import HandS.OwnIter
import HandS.Codes
import PyProof.Rows.RegReprOcc
import HandS.Ends
import HandS.ExcIs
import HandS.TryMany
import HandS.WordsExc
import PyProof.SliceStr2
import KE.KRevSl
import PySem.Challenge.RW_clothstead_k21_whole_faces_and_hidden
set_option Elab.async false
set_option linter.all false
set_option maxRecDepth 100000
set_option maxHeartbeats 4000000
namespace VS
open PySem PySem.Spec PyProof.Rows L2

/-! ### data as trees -/
inductive NK where
  | tup
  | scr
  | lst (o : Bool)
  | ins (C : Addr) (fs : List Str)
  | obj (o : Bool) (C : Addr) (fs : List Str)
  | dic (o : Bool) (ks : List Key)
  | dit (o : Bool) (ks : List (List Key))
  deriving DecidableEq
inductive D where
  | un
  | v (x : V)
  | nd (k : NK) (xs : List D)
inductive T where
  | un
  | v (x : V)
  | nd (a : Addr) (k : NK) (xs : List T)
def NK.isOwn : NK → Bool
  | .lst o => o
  | .obj o _ _ => o
  | .dic o _ => o
  | .dit o _ => o
  | _ => false
def NK.isTrk : NK → Bool
  | .tup => false
  | .scr => false
  | _ => true
def NK.isImm : NK → Bool
  | .ins _ _ => true
  | _ => false
def NK.isShr : NK → Bool
  | .lst o => !o
  | .obj o _ _ => !o
  | .dic o _ => !o
  | .dit o _ => !o
  | _ => false
def NK.fz : NK → NK
  | .lst _ => .lst false
  | .obj _ C fs => .obj false C fs
  | .dic _ ks => .dic false ks
  | .dit _ ks => .dit false ks
  | k => k
theorem NK.fz_own (k : NK) : k.fz.isOwn = false := by cases k <;> rfl
theorem NK.fz_trk (k : NK) : k.fz.isTrk = k.isTrk := by cases k <;> rfl
theorem NK.fz_imm (k : NK) : k.fz.isImm = k.isImm := by cases k <;> rfl
theorem NK.fz_of {k : NK} (h : k.isOwn = false) : k.fz = k := by
  cases k with
  | tup => rfl
  | scr => rfl
  | ins C fs => rfl
  | lst o => cases o; rfl; cases h
  | obj o C fs => cases o; rfl; cases h
  | dic o ks => cases o; rfl; cases h
  | dit o ks => cases o; rfl; cases h
theorem NK.own_trk {k : NK} (h : k.isOwn = true) : k.isTrk = true := by cases k <;> first | rfl | cases h
theorem NK.imm_trk {k : NK} (h : k.isImm = true) : k.isTrk = true := by cases k <;> first | rfl | cases h
theorem NK.imm_own {k : NK} (h : k.isImm = true) : k.isOwn = false := by cases k <;> first | rfl | cases h
theorem NK.own_shr {k : NK} (h : k.isOwn = true) : k.isShr = false := by
  cases k with
  | tup => rfl
  | scr => rfl
  | ins C fs => rfl
  | lst o => cases o; cases h; rfl
  | obj o C fs => cases o; cases h; rfl
  | dic o ks => cases o; cases h; rfl
  | dit o ks => cases o; cases h; rfl
theorem NK.trk_cases {k : NK} (h : k.isTrk = true) : k.isOwn = true ∨ k.isImm = true ∨ k.isShr = true := by
  cases k with
  | tup => cases h
  | scr => cases h
  | ins C fs => exact .inr (.inl rfl)
  | lst o => cases o; exact .inr (.inr rfl); exact .inl rfl
  | obj o C fs => cases o; exact .inr (.inr rfl); exact .inl rfl
  | dic o ks => cases o; exact .inr (.inr rfl); exact .inl rfl
  | dit o ks => cases o; exact .inr (.inr rfl); exact .inl rfl

mutual
def D.has (p : NK → Bool) : D → Bool
  | .un => false
  | .v _ => false
  | .nd k xs => p k || D.hass p xs
def D.hass (p : NK → Bool) : List D → Bool
  | [] => false
  | x :: r => x.has p || D.hass p r
end
mutual
def D.fz : D → D
  | .un => .un
  | .v x => .v x
  | .nd k xs => .nd k.fz (D.fzs xs)
def D.fzs : List D → List D
  | [] => []
  | x :: r => x.fz :: D.fzs r
end
abbrev D.hasOwn (d : D) : Bool := d.has NK.isOwn
abbrev D.hasShr (d : D) : Bool := d.has NK.isShr
mutual
def T.er : T → D
  | .un => .un
  | .v x => .v x
  | .nd _ k xs => .nd k (T.ers xs)
def T.ers : List T → List D
  | [] => []
  | x :: r => x.er :: T.ers r
end
def T.rt : T → V
  | .un => .non
  | .v x => x
  | .nd a _ _ => .ref a
mutual
def T.col (p : NK → Bool) : T → List Addr
  | .un => []
  | .v _ => []
  | .nd a k xs => (if p k then [a] else []) ++ T.cols p xs
def T.cols (p : NK → Bool) : List T → List Addr
  | [] => []
  | x :: r => x.col p ++ T.cols p r
end
mutual
def T.fz : T → T
  | .un => .un
  | .v x => .v x
  | .nd a k xs => .nd a k.fz (T.fzs xs)
def T.fzs : List T → List T
  | [] => []
  | x :: r => x.fz :: T.fzs r
end
abbrev T.own (t : T) : List Addr := t.col NK.isOwn
abbrev T.trk (t : T) : List Addr := t.col NK.isTrk
abbrev T.imm (t : T) : List Addr := t.col NK.isImm

theorem T.ers_map : ∀ xs : List T, T.ers xs = xs.map T.er
  | [] => rfl
  | x :: r => by rw [T.ers, T.ers_map r]; rfl
theorem T.fzs_map : ∀ xs : List T, T.fzs xs = xs.map T.fz
  | [] => rfl
  | x :: r => by rw [T.fzs, T.fzs_map r]; rfl
theorem D.fzs_map : ∀ xs : List D, D.fzs xs = xs.map D.fz
  | [] => rfl
  | x :: r => by rw [D.fzs, D.fzs_map r]; rfl
theorem D.hass_any (p : NK → Bool) : ∀ xs : List D, D.hass p xs = xs.any (D.has p)
  | [] => rfl
  | x :: r => by rw [D.hass, D.hass_any p r]; rfl
theorem T.mem_cols {p : NK → Bool} {a : Addr} : ∀ {xs : List T}, a ∈ T.cols p xs ↔ ∃ t ∈ xs, a ∈ t.col p
  | [] => by simp [T.cols]
  | x :: r => by rw [T.cols, List.mem_append, T.mem_cols (xs := r)]; simp
theorem T.mem_col {p : NK → Bool} {a b : Addr} {k : NK} {xs : List T} : a ∈ (T.nd b k xs).col p ↔ (p k = true ∧ a = b) ∨ ∃ t ∈ xs, a ∈ t.col p := by
  rw [T.col, List.mem_append, T.mem_cols]
  by_cases h : p k = true
  · simp [h]
  · simp [h]
mutual
theorem T.col_mono {p q : NK → Bool} (h : ∀ k, p k = true → q k = true) : ∀ (t : T) (a : Addr), a ∈ t.col p → a ∈ t.col q
  | .un, _, m => m
  | .v _, _, m => m
  | .nd b k xs, a, m => by
    rw [T.col, List.mem_append] at m ⊢
    rcases m with m | m
    · by_cases e : p k = true
      · rw [if_pos e] at m; rw [if_pos (h k e)]; exact .inl m
      · rw [if_neg e] at m; cases m
    · exact .inr (T.cols_mono h xs a m)
theorem T.cols_mono {p q : NK → Bool} (h : ∀ k, p k = true → q k = true) : ∀ (xs : List T) (a : Addr), a ∈ T.cols p xs → a ∈ T.cols q xs
  | [], _, m => m
  | x :: r, a, m => by
    rw [T.cols, List.mem_append] at m ⊢
    exact m.imp (T.col_mono h x a) (T.cols_mono h r a)
end
theorem T.own_trk {t : T} {a : Addr} (h : a ∈ t.own) : a ∈ t.trk := T.col_mono (fun _ => NK.own_trk) t a h
theorem T.imm_trk {t : T} {a : Addr} (h : a ∈ t.imm) : a ∈ t.trk := T.col_mono (fun _ => NK.imm_trk) t a h
mutual
theorem T.fz_col {p : NK → Bool} (h : ∀ k : NK, p k.fz = p k) : ∀ t : T, t.fz.col p = t.col p
  | .un => rfl
  | .v _ => rfl
  | .nd b k xs => by rw [T.fz, T.col, T.col, h, T.fzs_col h xs]
theorem T.fzs_col {p : NK → Bool} (h : ∀ k : NK, p k.fz = p k) : ∀ xs : List T, T.cols p (T.fzs xs) = T.cols p xs
  | [] => rfl
  | x :: r => by rw [T.fzs, T.cols, T.cols, T.fz_col h x, T.fzs_col h r]
end
theorem T.fz_trk (t : T) : t.fz.trk = t.trk := T.fz_col NK.fz_trk t
theorem T.fz_imm (t : T) : t.fz.imm = t.imm := T.fz_col NK.fz_imm t
mutual
theorem T.fz_own : ∀ t : T, t.fz.own = []
  | .un => rfl
  | .v _ => rfl
  | .nd b k xs => by
    show T.col NK.isOwn (T.fz (.nd b k xs)) = []
    rw [T.fz, T.col, NK.fz_own, T.fzs_own xs]; rfl
theorem T.fzs_own : ∀ xs : List T, T.cols NK.isOwn (T.fzs xs) = []
  | [] => rfl
  | x :: r => by
    have e : T.col NK.isOwn x.fz = [] := T.fz_own x
    rw [T.fzs, T.cols, e, T.fzs_own r]; rfl
end
theorem T.fz_rt (t : T) : t.fz.rt = t.rt := by cases t <;> rfl
mutual
theorem T.fz_er : ∀ t : T, t.fz.er = t.er.fz
  | .un => rfl
  | .v _ => rfl
  | .nd b k xs => by rw [T.fz, T.er, T.er, D.fz, T.fzs_er xs]
theorem T.fzs_er : ∀ xs : List T, T.ers (T.fzs xs) = D.fzs (T.ers xs)
  | [] => rfl
  | x :: r => by rw [T.fzs, T.ers, T.ers, D.fzs, T.fz_er x, T.fzs_er r]
end
mutual
theorem T.has_er {p : NK → Bool} : ∀ t : T, t.er.has p = false ↔ t.col p = []
  | .un => by simp [T.er, D.has, T.col]
  | .v _ => by simp [T.er, D.has, T.col]
  | .nd b k xs => by
    rw [T.er, D.has, T.col, Bool.or_eq_false_iff, T.hass_er xs, List.append_eq_nil_iff]
    cases p k <;> simp
theorem T.hass_er {p : NK → Bool} : ∀ xs : List T, D.hass p (T.ers xs) = false ↔ T.cols p xs = []
  | [] => by simp [T.ers, D.hass, T.cols]
  | x :: r => by
    rw [T.ers, D.hass, T.cols, Bool.or_eq_false_iff, T.has_er x, T.hass_er r, List.append_eq_nil_iff]
end
theorem T.own_nil {t : T} (h : t.er.hasOwn = false) : t.own = [] := (T.has_er t).mp h
theorem T.shr_nil {t : T} (h : t.er.hasShr = false) : t.col NK.isShr = [] := (T.has_er t).mp h
mutual
theorem T.trk_cases : ∀ (t : T) (a : Addr), a ∈ t.trk → a ∈ t.own ∨ a ∈ t.imm ∨ a ∈ t.col NK.isShr
  | .un, _, m => nomatch m
  | .v _, _, m => nomatch m
  | .nd b k xs, a, m => by
    have m : a ∈ (T.nd b k xs).col NK.isTrk := m
    show a ∈ T.col _ _ ∨ a ∈ T.col _ _ ∨ a ∈ T.col _ _
    rw [T.col, List.mem_append] at m ⊢
    rw [T.col, T.col, List.mem_append, List.mem_append]
    rcases m with m | m
    · by_cases e : k.isTrk = true
      · rw [if_pos e] at m
        rcases NK.trk_cases e with z | z | z
        · rw [if_pos z]; exact .inl (.inl m)
        · rw [if_pos z]; exact .inr (.inl (.inl m))
        · rw [if_pos z]; exact .inr (.inr (.inl m))
      · rw [if_neg e] at m; cases m
    · rcases T.trks_cases xs a m with z | z | z
      · exact .inl (.inr z)
      · exact .inr (.inl (.inr z))
      · exact .inr (.inr (.inr z))
theorem T.trks_cases : ∀ (xs : List T) (a : Addr), a ∈ T.cols NK.isTrk xs → a ∈ T.cols NK.isOwn xs ∨ a ∈ T.cols NK.isImm xs ∨ a ∈ T.cols NK.isShr xs
  | [], _, m => nomatch m
  | x :: r, a, m => by
    rw [T.cols, List.mem_append] at m ⊢
    rw [T.cols, T.cols, List.mem_append, List.mem_append]
    rcases m with m | m
    · rcases T.trk_cases x a m with z | z | z
      · exact .inl (.inl z)
      · exact .inr (.inl (.inl z))
      · exact .inr (.inr (.inl z))
    · rcases T.trks_cases r a m with z | z | z
      · exact .inl (.inr z)
      · exact .inr (.inl (.inr z))
      · exact .inr (.inr (.inr z))
end

/-! ### a tree that stands in a heap -/
def NodeAt (K : PySem.W.Frag) (H : Hp) (a : Addr) (vs : List V) : NK → Prop
  | .tup => SqT K H a vs
  | .scr => (∃ o, H a = some (.frz o (.lst vs))) ∨
      ∃ (o : Obj) (its : Array Value) (n : Nat), K.lookup a = some o ∧ o.cls = .type "list" ∧ o.dict = none ∧ o.data = .seq its n ∧ its.size ≤ sizeLine ∧ Vals vs its.toList
  | .lst _ => H a = some (.lst vs)
  | .ins C fs => ∃ dx, H a = some (.ins C dx (fs.zip vs)) ∧ fs.length = vs.length
  | .obj _ C fs => ∃ dx, H a = some (.ins C dx (fs.zip vs)) ∧ fs.length = vs.length
  | .dic _ ks => H a = some (.dK (ks.zip vs)) ∧ ks.length = vs.length
  | .dit _ ks => H a = some (.dT (ks.zip vs)) ∧ ks.length = vs.length
mutual
def T.ok (K : PySem.W.Frag) (H : Hp) : T → Prop
  | .un => True
  | .v _ => True
  | .nd a k xs => NodeAt K H a (T.rts xs) k ∧ T.oks K H xs
def T.oks (K : PySem.W.Frag) (H : Hp) : List T → Prop
  | [] => True
  | x :: r => x.ok K H ∧ T.oks K H r
def T.rts : List T → List V
  | [] => []
  | x :: r => x.rt :: T.rts r
end
theorem T.rts_map : ∀ xs : List T, T.rts xs = xs.map T.rt
  | [] => rfl
  | x :: r => by rw [T.rts, T.rts_map r]; rfl
theorem T.oks_all {K : PySem.W.Frag} {H : Hp} : ∀ {xs : List T}, T.oks K H xs ↔ ∀ t ∈ xs, t.ok K H
  | [] => by simp [T.oks]
  | x :: r => by rw [T.oks, T.oks_all (xs := r)]; simp
theorem T.fzs_rts (xs : List T) : T.rts (T.fzs xs) = T.rts xs := by
  rw [T.rts_map, T.rts_map, T.fzs_map, List.map_map]
  exact List.map_congr_left fun t _ => T.fz_rt t
/-- what may be changed -/
def isM : HO → Bool
  | .lst _ => true
  | .ins _ _ _ => true
  | .dK _ => true
  | .dT _ => true
  | _ => false
theorem NodeAt.fz {K : PySem.W.Frag} {H : Hp} {a : Addr} {vs : List V} {k : NK} (h : NodeAt K H a vs k) : NodeAt K H a vs k.fz := by
  cases k with
  | tup => exact h
  | scr => exact h
  | ins C fs => exact h
  | lst o => exact h
  | obj o C fs => exact h
  | dic o ks => exact h
  | dit o ks => exact h
mutual
theorem T.ok_fz {K : PySem.W.Frag} {H : Hp} : ∀ {t : T}, t.ok K H → t.fz.ok K H
  | .un, h => h
  | .v _, h => h
  | .nd a k xs, h => by
    rw [T.ok] at h
    rw [T.fz, T.ok, T.fzs_rts]
    exact ⟨h.1.fz, T.oks_fz h.2⟩
theorem T.oks_fz {K : PySem.W.Frag} {H : Hp} : ∀ {xs : List T}, T.oks K H xs → T.oks K H (T.fzs xs)
  | [], h => h
  | x :: r, h => by
    rw [T.oks] at h
    rw [T.fzs, T.oks]
    exact ⟨T.ok_fz h.1, T.oks_fz h.2⟩
end
theorem NodeAt.own_m {K : PySem.W.Frag} {H : Hp} {a : Addr} {vs : List V} {k : NK} (h : NodeAt K H a vs k) (ho : k.isOwn = true) : ∃ o, H a = some o ∧ isM o = true := by
  cases k with
  | tup => cases ho
  | scr => cases ho
  | ins C fs => cases ho
  | lst o => exact ⟨_, h, rfl⟩
  | obj o C fs => obtain ⟨dx, e, _⟩ := h; exact ⟨_, e, rfl⟩
  | dic o ks => exact ⟨_, h.1, rfl⟩
  | dit o ks => exact ⟨_, h.1, rfl⟩
mutual
theorem T.own_m {K : PySem.W.Frag} {H : Hp} : ∀ {t : T}, t.ok K H → ∀ {a : Addr}, a ∈ t.own → ∃ o, H a = some o ∧ isM o = true
  | .un, _, _, m => nomatch m
  | .v _, _, _, m => nomatch m
  | .nd b k xs, h, a, m => by
    rw [T.ok] at h
    have m : a ∈ (T.nd b k xs).col NK.isOwn := m
    rw [T.col, List.mem_append] at m
    rcases m with m | m
    · by_cases e : k.isOwn = true
      · rw [if_pos e] at m
        have : a = b := by simpa using m
        subst this
        exact h.1.own_m e
      · rw [if_neg e] at m; cases m
    · exact T.owns_m h.2 m
theorem T.owns_m {K : PySem.W.Frag} {H : Hp} : ∀ {xs : List T}, T.oks K H xs → ∀ {a : Addr}, a ∈ T.cols NK.isOwn xs → ∃ o, H a = some o ∧ isM o = true
  | [], _, _, m => nomatch m
  | x :: r, h, a, m => by
    rw [T.oks] at h
    rw [T.cols, List.mem_append] at m
    exact m.elim (fun m => T.own_m h.1 m) (fun m => T.owns_m h.2 m)
end
theorem NodeAt.trk_s {K : PySem.W.Frag} {H : Hp} {a : Addr} {vs : List V} {k : NK} (h : NodeAt K H a vs k) (ho : k.isTrk = true) : ∃ o, H a = some o := by
  cases k with
  | tup => cases ho
  | scr => cases ho
  | ins C fs => obtain ⟨dx, e, _⟩ := h; exact ⟨_, e⟩
  | lst o => exact ⟨_, h⟩
  | obj o C fs => obtain ⟨dx, e, _⟩ := h; exact ⟨_, e⟩
  | dic o ks => exact ⟨_, h.1⟩
  | dit o ks => exact ⟨_, h.1⟩
mutual
theorem T.trk_s {K : PySem.W.Frag} {H : Hp} : ∀ {t : T}, t.ok K H → ∀ {a : Addr}, a ∈ t.trk → ∃ o, H a = some o
  | .un, _, _, m => nomatch m
  | .v _, _, _, m => nomatch m
  | .nd b k xs, h, a, m => by
    rw [T.ok] at h
    have m : a ∈ (T.nd b k xs).col NK.isTrk := m
    rw [T.col, List.mem_append] at m
    rcases m with m | m
    · by_cases e : k.isTrk = true
      · rw [if_pos e] at m
        have : a = b := by simpa using m
        subst this
        exact h.1.trk_s e
      · rw [if_neg e] at m; cases m
    · exact T.trks_s h.2 m
theorem T.trks_s {K : PySem.W.Frag} {H : Hp} : ∀ {xs : List T}, T.oks K H xs → ∀ {a : Addr}, a ∈ T.cols NK.isTrk xs → ∃ o, H a = some o
  | [], _, _, m => nomatch m
  | x :: r, h, a, m => by
    rw [T.oks] at h
    rw [T.cols, List.mem_append] at m
    exact m.elim (fun m => T.trk_s h.1 m) (fun m => T.trks_s h.2 m)
end
/-- a node stays where its object stays -/
theorem NodeAt.keep {K : PySem.W.Frag} {H H' : Hp} {a : Addr} {vs : List V} {k : NK} (h : NodeAt K H a vs k) (hk : ∀ o, H a = some o → (k.isTrk = false → isM o = false) → H' a = some o) : NodeAt K H' a vs k := by
  cases k with
  | tup =>
    rcases h with (h | ⟨o, h⟩) | h
    · exact .inl (.inl (hk _ h fun _ => rfl))
    · exact .inl (.inr ⟨o, hk _ h fun _ => rfl⟩)
    · exact .inr h
  | scr =>
    rcases h with ⟨o, h⟩ | h
    · exact .inl ⟨o, hk _ h fun _ => rfl⟩
    · exact .inr h
  | ins C fs => obtain ⟨dx, e, l⟩ := h; exact ⟨dx, hk _ e (fun z => by cases z), l⟩
  | lst o => exact hk _ h (fun z => by cases z)
  | obj o C fs => obtain ⟨dx, e, l⟩ := h; exact ⟨dx, hk _ e (fun z => by cases z), l⟩
  | dic o ks => exact ⟨hk _ h.1 (fun z => by cases z), h.2⟩
  | dit o ks => exact ⟨hk _ h.1 (fun z => by cases z), h.2⟩
mutual
theorem T.ok_keep {K : PySem.W.Frag} {H H' : Hp} : ∀ {t : T}, t.ok K H → (∀ b o, H b = some o → (b ∈ t.trk ∨ isM o = false) → H' b = some o) → t.ok K H'
  | .un, _, _ => trivial
  | .v _, _, _ => trivial
  | .nd a k xs, h, f => by
    rw [T.ok] at h ⊢
    refine ⟨h.1.keep fun o e z => f a o e ?_, T.oks_keep h.2 fun b o e z => f b o e (z.imp (fun m => ?_) id)⟩
    · cases q : k.isTrk with
      | false => exact .inr (z q)
      | true => exact .inl (T.mem_col.mpr (.inl ⟨q, rfl⟩))
    · show b ∈ T.col NK.isTrk (.nd a k xs)
      rw [T.col, List.mem_append]
      exact .inr m
theorem T.oks_keep {K : PySem.W.Frag} {H H' : Hp} : ∀ {xs : List T}, T.oks K H xs → (∀ b o, H b = some o → (b ∈ T.cols NK.isTrk xs ∨ isM o = false) → H' b = some o) → T.oks K H' xs
  | [], _, _ => trivial
  | x :: r, h, f => by
    rw [T.oks] at h ⊢
    refine ⟨T.ok_keep h.1 fun b o e z => f b o e (z.imp (fun m => ?_) id), T.oks_keep h.2 fun b o e z => f b o e (z.imp (fun m => ?_) id)⟩
    · rw [T.cols, List.mem_append]; exact .inl m
    · rw [T.cols, List.mem_append]; exact .inr m
end
theorem T.ok_same {K : PySem.W.Frag} {H H' : Hp} {t : T} (h : t.ok K H) (s : Same H H') : t.ok K H' := T.ok_keep h fun b o e _ => s b o e

/-! ### trees that stand apart -/
def Dj (t u : T) : Prop := (∀ a ∈ t.own, a ∉ u.trk) ∧ ∀ a ∈ u.own, a ∉ t.trk
theorem Dj.symm {t u : T} (h : Dj t u) : Dj u t := ⟨h.2, h.1⟩
mutual
def T.good : T → Prop
  | .un => True
  | .v _ => True
  | .nd a k xs => (k.isOwn = true → a ∉ T.cols NK.isTrk xs) ∧ (k.isTrk = true → a ∉ T.cols NK.isOwn xs) ∧ T.goods xs
def T.goods : List T → Prop
  | [] => True
  | x :: r => x.good ∧ (∀ u ∈ r, Dj x u) ∧ T.goods r
end
abbrev WF (A : List T) : Prop := T.goods A
theorem WF.mem : ∀ {A : List T}, WF A → ∀ {t : T}, t ∈ A → t.good
  | x :: r, h, t, m => by
    unfold WF at h; rw [T.goods] at h
    rcases List.mem_cons.mp m with rfl | m
    · exact h.1
    · exact WF.mem h.2.2 m
theorem WF.cons {t : T} {A : List T} (h1 : t.good) (h2 : ∀ u ∈ A, Dj t u) (h3 : WF A) : WF (t :: A) := by
  unfold WF; rw [T.goods]; exact ⟨h1, h2, h3⟩
theorem WF.head {t : T} {A : List T} (h : WF (t :: A)) : t.good ∧ (∀ u ∈ A, Dj t u) ∧ WF A := by
  unfold WF at h; rw [T.goods] at h; exact h
theorem WF.nil : WF [] := by unfold WF; rw [T.goods]; trivial
theorem WF.get : ∀ {A : List T}, WF A → ∀ {i j : Nat} {t u : T}, i ≠ j → A[i]? = some t → A[j]? = some u → Dj t u
  | [], _, i, j, t, u, _, e, _ => by simp at e
  | x :: r, h, 0, 0, t, u, ne, _, _ => absurd rfl ne
  | x :: r, h, 0, j + 1, t, u, ne, e1, e2 => by
    have : x = t := by simpa using e1
    subst this
    exact h.head.2.1 u (List.mem_of_getElem? (by simpa using e2))
  | x :: r, h, i + 1, 0, t, u, ne, e1, e2 => by
    have : x = u := by simpa using e2
    subst this
    exact (h.head.2.1 t (List.mem_of_getElem? (by simpa using e1))).symm
  | x :: r, h, i + 1, j + 1, t, u, ne, e1, e2 => WF.get h.head.2.2 (fun z => ne (congrArg (· + 1) z)) (by simpa using e1) (by simpa using e2)
theorem WF.set : ∀ {A : List T}, WF A → ∀ {i : Nat} {t : T}, t.good → (∀ j u, j ≠ i → A[j]? = some u → Dj t u) → WF (A.set i t)
  | [], _, _, _, _, _ => WF.nil
  | x :: r, h, 0, t, g, f => by
    show WF (t :: r)
    refine .cons g (fun u m => ?_) h.head.2.2
    obtain ⟨j, e⟩ := List.getElem?_of_mem m
    exact f (j + 1) u (by omega) (by simpa using e)
  | x :: r, h, i + 1, t, g, f => by
    show WF (x :: r.set i t)
    refine .cons h.head.1 (fun u m => ?_) (WF.set h.head.2.2 g fun j u ne e => f (j + 1) u (by omega) (by simpa using e))
    obtain ⟨j, e⟩ := List.getElem?_of_mem m
    by_cases hj : j = i
    · subst hj
      have hl : j < r.length := by
        have := (List.getElem?_eq_some_iff.mp e).1
        simpa using this
      rw [List.getElem?_set_self hl] at e
      cases e
      exact (f 0 x (by omega) rfl).symm
    · rw [List.getElem?_set_ne (Ne.symm hj)] at e
      exact h.head.2.1 u (List.mem_of_getElem? e)
theorem WF.sub {A B : List T} (h : WF B) (s : A.Sublist B) : WF A := by
  induction s with
  | slnil => exact h
  | cons x s ih => exact ih h.head.2.2
  | cons_cons x s ih => exact .cons h.head.1 (fun u m => h.head.2.1 u (s.subset m)) (ih h.head.2.2)
theorem WF.append {A B : List T} (h1 : WF A) (h2 : WF B) (f : ∀ t ∈ A, ∀ u ∈ B, Dj t u) : WF (A ++ B) := by
  induction A with
  | nil => exact h2
  | cons x r ih =>
    refine .cons h1.head.1 (fun u m => ?_) (ih h1.head.2.2 fun t m => f t (List.mem_cons_of_mem _ m))
    rcases List.mem_append.mp m with m | m
    · exact h1.head.2.1 u m
    · exact f x List.mem_cons_self u m
mutual
theorem T.good_of : ∀ {t : T}, t.own = [] → t.good
  | .un, _ => trivial
  | .v _, _ => trivial
  | .nd a k xs, h => by
    have h : T.col NK.isOwn (.nd a k xs) = [] := h
    rw [T.col, List.append_eq_nil_iff] at h
    rw [T.good]
    refine ⟨fun z => ?_, fun _ m => ?_, T.goods_of h.2⟩
    · rw [if_pos z] at h; cases h.1
    · rw [h.2] at m; cases m
theorem T.goods_of : ∀ {xs : List T}, T.cols NK.isOwn xs = [] → T.goods xs
  | [], _ => by rw [T.goods]; trivial
  | x :: r, h => by
    rw [T.cols, List.append_eq_nil_iff] at h
    rw [T.goods]
    refine ⟨T.good_of h.1, fun u m => ⟨fun a ma => ?_, fun a ma => ?_⟩, T.goods_of h.2⟩
    · have e : x.own = [] := h.1
      rw [e] at ma; cases ma
    · have : a ∈ T.cols NK.isOwn r := T.mem_cols.mpr ⟨u, m, ma⟩
      rw [h.2] at this; cases this
end
theorem T.fz_good (t : T) : t.fz.good := T.good_of (T.fz_own t)
theorem T.good_own {t : T} : t.good → ∀ {a : Addr}, a ∈ t.own → a ∉ t.imm ∧ a ∉ t.col NK.isShr := by
  have main : (∀ t : T, t.good → ∀ a, a ∈ t.own → a ∉ t.imm ∧ a ∉ t.col NK.isShr) := by
    intro t
    refine T.rec (motive_1 := fun t => t.good → ∀ a, a ∈ t.own → a ∉ t.imm ∧ a ∉ t.col NK.isShr) (motive_2 := fun xs => T.goods xs → ∀ a, a ∈ T.cols NK.isOwn xs → a ∉ T.cols NK.isImm xs ∧ a ∉ T.cols NK.isShr xs) ?_ ?_ ?_ ?_ ?_ t
    · intro _ a m; cases m
    · intro x _ a m; cases m
    · intro b k xs ih g a m0
      rw [T.good] at g
      have m : a ∈ T.col NK.isOwn (.nd b k xs) := m0
      clear m0
      show a ∉ T.col NK.isImm (.nd b k xs) ∧ a ∉ T.col NK.isShr (.nd b k xs)
      rw [T.col, List.mem_append] at m
      have nt : ∀ {p : NK → Bool}, (∀ k, p k = true → k.isTrk = true) → ∀ {z}, z ∈ T.cols p xs → z ∈ T.cols NK.isTrk xs := fun {p} hp {z} mz => T.cols_mono hp xs z mz
      rcases m with m | m
      · by_cases e : k.isOwn = true
        · rw [if_pos e] at m
          have : a = b := by simpa using m
          subst this
          have n := g.1 e
          rw [T.col, T.col, List.mem_append, List.mem_append]
          have e1 : k.isImm = false := by cases k <;> first | rfl | cases e
          have e2 : k.isShr = false := NK.own_shr e
          rw [e1, e2]
          refine ⟨fun z => ?_, fun z => ?_⟩
          · rcases z with z | z
            · cases z
            · exact n (nt (fun k => NK.imm_trk) z)
          · rcases z with z | z
            · cases z
            · exact n (nt (fun k h => by cases k <;> first | rfl | cases h) z)
        · rw [if_neg e] at m; cases m
      · have q := ih g.2.2 a m
        rw [T.col, T.col, List.mem_append, List.mem_append]
        refine ⟨fun z => ?_, fun z => ?_⟩
        · rcases z with z | z
          · by_cases e : k.isImm = true
            · rw [if_pos e] at z
              have : a = b := by simpa using z
              subst this
              exact g.2.1 (NK.imm_trk e) m
            · rw [if_neg e] at z; cases z
          · exact q.1 z
        · rcases z with z | z
          · by_cases e : k.isShr = true
            · rw [if_pos e] at z
              have : a = b := by simpa using z
              subst this
              exact g.2.1 (by cases k <;> first | rfl | cases e) m
            · rw [if_neg e] at z; cases z
          · exact q.2 z
    · intro _ a m; cases m
    · intro x r ih1 ih2 g a m
      rw [T.goods] at g
      rw [T.cols, List.mem_append] at m
      rw [T.cols, T.cols, List.mem_append, List.mem_append]
      have tr : ∀ {t : T} {z}, z ∈ t.imm ∨ z ∈ t.col NK.isShr → z ∈ t.trk := fun {t z} h => h.elim (fun h => T.imm_trk h) (fun h => T.col_mono (fun k h => by cases k <;> first | rfl | cases h) t z h)
      rcases m with m | m
      · have q := ih1 g.1 a m
        refine ⟨fun z => z.elim q.1 fun z => ?_, fun z => z.elim q.2 fun z => ?_⟩
        · obtain ⟨u, hu, mu⟩ := T.mem_cols.mp z
          exact (g.2.1 u hu).1 a m (tr (.inl mu))
        · obtain ⟨u, hu, mu⟩ := T.mem_cols.mp z
          exact (g.2.1 u hu).1 a m (tr (.inr mu))
      · have q := ih2 g.2.2 a m
        obtain ⟨u, hu, mu⟩ := T.mem_cols.mp m
        refine ⟨fun z => z.elim (fun z => ?_) q.1, fun z => z.elim (fun z => ?_) q.2⟩
        · exact (g.2.1 u hu).2 a mu (tr (.inl z))
        · exact (g.2.1 u hu).2 a mu (tr (.inr z))
  exact fun g a m => main t g a m
end VS

namespace VS
open PySem PySem.Spec PyProof.Rows L2

/-! ### a step of the heap -/
structure Step (H : Hp) (A : List T) (H' : Hp) (B : List T) : Prop where
  fr : ∀ b o, H b = some o → (∀ t ∈ A, b ∉ t.own) → H' b = some o
  al : ∀ b, H' b = none → H b = none
  ow : ∀ t ∈ B, ∀ a ∈ t.own, (∃ u ∈ A, a ∈ u.own) ∨ H a = none
  tr : ∀ t ∈ B, ∀ a ∈ t.trk, (∃ u ∈ A, a ∈ u.trk) ∨ H a = none
  im : ∀ t ∈ B, ∀ a ∈ t.imm, (∃ u ∈ A, a ∈ u.imm) ∨ H a = none
theorem Same.none {H H' : Hp} (s : Same H H') {b : Addr} (h : H' b = none) : H b = none := s.free h
theorem Step.same {H H' : Hp} {A : List T} (s : Same H H') : Step H A H' A :=
  ⟨fun b o e _ => s b o e, fun b h => Same.none s h, fun t m a ma => .inl ⟨t, m, ma⟩, fun t m a ma => .inl ⟨t, m, ma⟩, fun t m a ma => .inl ⟨t, m, ma⟩⟩
theorem Step.refl {H : Hp} {A : List T} : Step H A H A := .same (Same.refl H)
theorem Step.sub {H H' : Hp} {A B C : List T} (s : Step H A H' B) (h : ∀ t ∈ C, t ∈ B) : Step H A H' C :=
  ⟨s.fr, s.al, fun t m => s.ow t (h t m), fun t m => s.tr t (h t m), fun t m => s.im t (h t m)⟩
theorem Step.cons {H H' : Hp} {A B : List T} {t : T} (s : Step H A H' B) (h1 : ∀ a ∈ t.own, (∃ u ∈ A, a ∈ u.own) ∨ H a = none) (h2 : ∀ a ∈ t.trk, (∃ u ∈ A, a ∈ u.trk) ∨ H a = none) (h3 : ∀ a ∈ t.imm, (∃ u ∈ A, a ∈ u.imm) ∨ H a = none) : Step H A H' (t :: B) :=
  ⟨s.fr, s.al, fun u m => (List.mem_cons.mp m).elim (fun z => by subst z; exact h1) (s.ow u), fun u m => (List.mem_cons.mp m).elim (fun z => by subst z; exact h2) (s.tr u), fun u m => (List.mem_cons.mp m).elim (fun z => by subst z; exact h3) (s.im u)⟩
theorem Step.tail {H H' : Hp} {A B : List T} {t : T} (s : Step H A H' (t :: B)) : Step H A H' B := s.sub fun _ m => List.mem_cons_of_mem _ m
theorem Step.consV {H H' : Hp} {A B : List T} {x : V} (s : Step H A H' B) : Step H A H' (.v x :: B) := s.cons (fun _ m => nomatch m) (fun _ m => nomatch m) (fun _ m => nomatch m)
theorem em (p : Prop) : p ∨ ¬ p := Classical.em p
theorem Step.trans {H H1 H2 : Hp} {A B C : List T} (a : Step H A H1 B) (b : Step H1 B H2 C) : Step H A H2 C := by
  have back : ∀ c, H1 c = none → H c = none := a.al
  refine ⟨fun c o e n => b.fr c o (a.fr c o e n) fun t m z => ?_, fun c h => a.al c (b.al c h), fun t m c mc => ?_, fun t m c mc => ?_, fun t m c mc => ?_⟩
  · rcases a.ow t m c z with ⟨u, mu, zu⟩ | q
    · exact n u mu zu
    · rw [e] at q; cases q
  · rcases b.ow t m c mc with ⟨u, mu, zu⟩ | q
    · exact a.ow u mu c zu
    · exact .inr (back c q)
  · rcases b.tr t m c mc with ⟨u, mu, zu⟩ | q
    · exact a.tr u mu c zu
    · exact .inr (back c q)
  · rcases b.im t m c mc with ⟨u, mu, zu⟩ | q
    · exact a.im u mu c zu
    · exact .inr (back c q)
section
variable {K : PySem.W.Frag} {H H' : Hp} {A B : List T} {t : T}
theorem keepT (ht : t.ok K H) (hA : ∀ u ∈ A, u.ok K H) (st : Step H A H' B) (hd : ∀ u ∈ A, ∀ a ∈ u.own, a ∉ t.trk) : t.ok K H' := by
  refine T.ok_keep ht fun b o e z => st.fr b o e fun u mu zu => ?_
  rcases z with z | z
  · exact hd u mu b zu z
  · obtain ⟨o', e', m'⟩ := T.own_m (hA u mu) zu
    rw [e] at e'; cases e'
    rw [z] at m'; cases m'
theorem djStep (ht : t.ok K H) (hd : ∀ u ∈ A, Dj t u) (st : Step H A H' B) : ∀ u ∈ B, Dj t u := fun u mu => by
  refine ⟨fun a ma z => ?_, fun a ma z => ?_⟩
  · rcases st.tr u mu a z with ⟨w, mw, zw⟩ | q
    · exact (hd w mw).1 a ma zw
    · obtain ⟨o, e, _⟩ := T.own_m ht ma
      rw [q] at e; cases e
  · rcases st.ow u mu a ma with ⟨w, mw, zw⟩ | q
    · exact (hd w mw).2 a zw z
    · obtain ⟨o, e⟩ := T.trk_s ht z
      rw [q] at e; cases e
end

/-! ### the slots of a frame -/
structure Sim (K : PySem.W.Frag) (io : List Nat) (ρ : Nat → V) (ts : List T) (σ : L2.St) (H : Hp) : Prop where
  len : ts.length = σ.length
  rt : ∀ (i : Nat) (t : T), ts[i]? = some t → t ≠ .un → σ[i]? = some (some t.rt)
  ok : ∀ t ∈ ts, t.ok K H
  wf : WF ts
  pin : ∀ i ∈ io, ∃ t, ts[i]? = some t ∧ t ≠ .un ∧ t.rt = ρ i
inductive Sbt : T → T → Prop
  | refl (t : T) : Sbt t t
  | child {t c : T} {a : Addr} {k : NK} {xs : List T} (m : c ∈ xs) (h : Sbt t c) : Sbt t (.nd a k xs)
theorem Sbt.col {p : NK → Bool} {t u : T} (h : Sbt t u) : ∀ {a : Addr}, a ∈ t.col p → a ∈ u.col p := by
  induction h with
  | refl => exact id
  | child m _ ih => exact fun ma => T.mem_col.mpr (.inr ⟨_, m, ih ma⟩)
theorem Sbt.ok {K : PySem.W.Frag} {H : Hp} {t u : T} (h : Sbt t u) : u.ok K H → t.ok K H := by
  induction h with
  | refl => exact id
  | child m _ ih => intro q; rw [T.ok] at q; exact ih (T.oks_all.mp q.2 _ m)
theorem goods_mem : ∀ {xs : List T}, T.goods xs → ∀ {c : T}, c ∈ xs → c.good := fun h _ m => WF.mem h m
theorem Sbt.good {t u : T} (h : Sbt t u) : u.good → t.good := by
  induction h with
  | refl => exact id
  | child m _ ih => intro q; rw [T.good] at q; exact ih (goods_mem q.2.2 m)
theorem Sbt.trans {s t u : T} (h1 : Sbt s t) (h2 : Sbt t u) : Sbt s u := by
  induction h2 with
  | refl => exact h1
  | child m _ ih => exact .child m ih
inductive Md where
  | tmp
  | vw (src : List Nat)
def Md.isTmp : Md → Bool
  | .tmp => true
  | .vw _ => false
/-- the slots at md do not touch what is held so -/
def clr (m : Md) (md : List Nat) : Bool := match m with
  | .tmp => true
  | .vw src => src.all fun i => !md.contains i
def TRel (t : T) (ts : List T) : Prop := t.good ∧ ∀ u ∈ ts, Dj t u
def MRel : Md → T → List T → Prop
  | .tmp, t, ts => TRel t ts
  | .vw src, t, ts => (∃ i ∈ src, ∃ u, ts[i]? = some u ∧ Sbt t u) ∨ (t.own = [] ∧ TRel t ts)
theorem MRel.good {m : Md} {t : T} {ts : List T} (h : MRel m t ts) (w : WF ts) : t.good := by
  cases m with
  | tmp => exact h.1
  | vw src =>
    rcases h with ⟨i, _, u, e, s⟩ | ⟨_, h⟩
    · exact s.good (w.mem (List.mem_of_getElem? e))
    · exact h.1
theorem MRel.own {m : Md} {t : T} {ts : List T} (h : MRel m t ts) (w : WF ts) : ∀ u ∈ ts, ∀ a ∈ u.own, a ∉ t.own → a ∉ t.trk := by
  cases m with
  | tmp => exact fun u mu a ma _ => (h.2 u mu).2 a ma
  | vw src =>
    rcases h with ⟨i, _, v, e, s⟩ | ⟨_, h⟩
    · intro u mu a ma n z
      obtain ⟨j, ej⟩ := List.getElem?_of_mem mu
      by_cases hj : j = i
      · subst hj
        rw [e] at ej; cases ej
        have q := T.good_own (w.mem mu) ma
        rcases T.trk_cases t a z with y | y | y
        · exact n y
        · exact q.1 (s.col y)
        · exact q.2 (s.col y)
      · exact (w.get hj ej e).1 a ma (s.col z)
    · exact fun u mu a ma _ => (h.2 u mu).2 a ma
/-- without nodes of its own a view is a temporary -/
theorem MRel.tmp {m : Md} {t : T} {ts : List T} (h : MRel m t ts) (w : WF ts) (e : t.own = []) : TRel t ts :=
  ⟨h.good w, fun u mu => ⟨fun a ma => (by rw [e] at ma; cases ma), fun a ma => h.own w u mu a ma (by rw [e]; simp)⟩⟩
theorem TRel.of {t : T} {ts : List T} (h : TRel t ts) (e : t.own = []) : ∀ {m : Md}, MRel m t ts
  | .tmp => h
  | .vw _ => .inr ⟨e, h⟩

/-! ### results -/
abbrev XF := Option (List (Str × V))
inductive R (α : Type) where
  | ok (a : α)
  | ex (c : Value) (fs : XF) (s : List D)
  | no
def R.bind {α β : Type} (r : R α) (f : α → R β) : R β := match r with
  | .ok a => f a
  | .ex c fs s => .ex c fs s
  | .no => .no
abbrev E := List D → R (D × List D)
abbrev EA := List D → R (List D × List D)
def XRel (H : Hp) (d : Option Addr) : XF → Prop
  | none => d = none
  | some fs => ∃ a, d = some a ∧ H a = some (.xd fs)
def EPost (K : PySem.W.Frag) (W : WX) (io : List Nat) (ρ : Nat → V) (m : Md) (md : List Nat) (ts : List T) (σ : L2.St) (H : Hp) (Q : VK) : R (D × List D) → Prop
  | .ok (x, s) => ∀ ts' t H', Sim K io ρ ts' σ H' → T.ers ts' = s → t.er = x → t.ok K H' → MRel m t ts' → Step H ts H' (t :: ts') → (∀ j, j ∉ md → ts'[j]? = ts[j]?) → Q t.rt H'
  | .ex c fs s => ∀ ts' H' d, Sim K io ρ ts' σ H' → T.ers ts' = s → Step H ts H' ts' → XRel H' d fs → W c d σ H'
  | .no => False
def ERd (K : PySem.W.Frag) (W : WX) (io : List Nat) (m : Md) (md : List Nat) (t : TE) (d : E) : Prop :=
  ∀ ρ ts σ H Q, Sim K io ρ ts σ H → EPost K W io ρ m md ts σ H Q (d (T.ers ts)) → t σ H Q
structure DE (X : Cx) (W : WX) (io : List Nat) (m : Md) (md : List Nat) (e : Expr) (t : TE) (d : E) : Prop where
  pe : PE X e t
  rd : ERd X.K W io m md t d
def ARel : List Md → List T → List T → Prop
  | [], [], _ => True
  | m :: ms, t :: us, ts => MRel m t ts ∧ (∀ (i : Nat) (u : T) (m' : Md), us[i]? = some u → ms[i]? = some m' → (m.isTmp = true ∨ m'.isTmp = true) → Dj t u) ∧ ARel ms us ts
  | _, _, _ => False
def APost (K : PySem.W.Frag) (W : WX) (io : List Nat) (ρ : Nat → V) (ms : List Md) (md : List Nat) (ts : List T) (σ : L2.St) (H : Hp) (Q : List V → Hp → Prop) : R (List D × List D) → Prop
  | .ok (xs, s) => ∀ ts' us H', Sim K io ρ ts' σ H' → T.ers ts' = s → T.ers us = xs → (∀ u ∈ us, u.ok K H') → ARel ms us ts' → Step H ts H' (us ++ ts') → (∀ j, j ∉ md → ts'[j]? = ts[j]?) → Q (T.rts us) H'
  | .ex c fs s => ∀ ts' H' d, Sim K io ρ ts' σ H' → T.ers ts' = s → Step H ts H' ts' → XRel H' d fs → W c d σ H'
  | .no => False
def ARd (K : PySem.W.Frag) (W : WX) (io : List Nat) (ms : List Md) (md : List Nat) (t : TA) (d : EA) : Prop :=
  ∀ ρ ts σ H Q, Sim K io ρ ts σ H → APost K W io ρ ms md ts σ H Q (d (T.ers ts)) → t σ H Q
structure DA (X : Cx) (W : WX) (io : List Nat) (ms : List Md) (md : List Nat) (es : List Expr) (t : TA) (d : EA) : Prop where
  pa : PA X es t
  rd : ARd X.K W io ms md t d

/-! ### names, constants -/
theorem ers_get {ts : List T} {i : Nat} {d : D} (h : (T.ers ts)[i]? = some d) : ∃ t, ts[i]? = some t ∧ t.er = d := by
  rw [T.ers_map, List.getElem?_map] at h
  cases e : ts[i]? with
  | none => rw [e] at h; cases h
  | some t => rw [e] at h; exact ⟨t, rfl, Option.some.inj h⟩
theorem er_un {t : T} (h : t.er ≠ .un) : t ≠ .un := fun z => h (by rw [z, T.er])
def dn (i : Nat) : E := fun s => match s[i]? with
  | none => .no
  | some .un => .no
  | some d => .ok (d, s)
theorem dn_eq {i : Nat} {s : List D} {d : D} (h : s[i]? = some d) (hu : d ≠ .un) : dn i s = .ok (d, s) := by
  unfold dn; rw [h]; cases d <;> first | rfl | exact absurd rfl hu
section
variable {X : Cx} {W : WX} {io : List Nat}
theorem de_n (i : Nat) {x : Str} {pos : Pos} (hN : X.N[i]? = some x := by rfl) (hv : Vis X.env.scope x := by first | exact Or.inl rfl | exact Or.inr (Or.inl rfl) | exact Or.inr (Or.inr rfl)) (hd : (x == ("__debug__" : Str)) = false := by decide)
    (hcd : (x == ("__classdict__" : Str)) = false := by decide) : DE X W io (.vw [i]) [] (.Name x pos) (tVar i) (dn i) := by
  refine ⟨pe_var hN hv hd hcd, fun ρ ts σ H Q S h => ?_⟩
  unfold dn at h
  cases e : (T.ers ts)[i]? with
  | none => rw [e] at h; exact h.elim
  | some d =>
    obtain ⟨t, et, ed⟩ := ers_get e
    have mt := List.mem_of_getElem? et
    rw [e] at h
    have go : t ≠ .un → EPost X.K W io ρ (.vw [i]) [] ts σ H Q (.ok (d, T.ers ts)) → tVar i σ H Q := fun ne h =>
      ⟨t.rt, S.rt i t et ne, h ts t H S rfl ed (S.ok t mt) (.inl ⟨i, by simp, t, et, .refl t⟩) (Step.refl.sub fun u mu => by
          rcases List.mem_cons.mp mu with rfl | mu
          · exact mt
          · exact mu) fun _ _ => rfl⟩
    cases d with
    | un => exact h.elim
    | v x => exact go (er_un (by rw [ed]; intro z; cases z)) h
    | nd k xs => exact go (er_un (by rw [ed]; intro z; cases z)) h
def dc (x : V) : E := fun s => .ok (.v x, s)
theorem rd_c {K : PySem.W.Frag} {ρ : Nat → V} {ts : List T} {σ : L2.St} {H : Hp} {Q : VK} {x : V} (S : Sim K io ρ ts σ H) (h : EPost K W io ρ .tmp [] ts σ H Q (dc x (T.ers ts))) : Q x H :=
  h ts (.v x) H S rfl rfl trivial ⟨trivial, fun u _ => ⟨fun a m => (nomatch m), fun a _ m => (nomatch m)⟩⟩ Step.refl.consV fun _ _ => rfl
theorem de_c {e : Expr} {x : V} (h : PE X e (tC x)) : DE X W io .tmp [] e (tC x) (dc x) := ⟨h, fun ρ ts σ H Q S q => rd_c S q⟩
theorem de_int {i j pos} : DE X W io .tmp [] (.Constant (.int i) j pos) (tC (.int i)) (dc (.int i)) := de_c pe_int
theorem de_bl {b j pos} : DE X W io .tmp [] (.Constant (.bool b) j pos) (tC (.bl b)) (dc (.bl b)) := de_c pe_bl
theorem de_non {j pos} : DE X W io .tmp [] (.Constant .none j pos) (tC .non) (dc .non) := de_c pe_non
theorem de_str {x j pos} : DE X W io .tmp [] (.Constant (.str x) j pos) (tC (.str x)) (dc (.str x)) := de_c pe_str

/-! ### lists of expressions -/
def dAnil : EA := fun s => .ok ([], s)
def dAcons (m : Md) (mr : List Nat) (de : E) (dr : EA) : EA := fun s => (de s).bind fun q => if (clr m mr || !q.1.hasOwn) = true then (dr q.2).bind fun r => .ok (q.1 :: r.1, r.2) else .no
theorem ard_nil {K : PySem.W.Frag} : ARd K W io [] [] tNil dAnil :=
  fun ρ ts σ H Q S h => h ts [] H S rfl rfl (fun _ m => nomatch m) trivial Step.refl fun _ _ => rfl
theorem da_nil : DA X W io [] [] [] tNil dAnil := ⟨pa_nil, ard_nil⟩
theorem mem_ers_len {us : List T} {xs : List D} (h : T.ers us = xs) : us.length = xs.length := by rw [← h, T.ers_map, List.length_map]
theorem ARel.len : ∀ {ms : List Md} {us ts : List T}, ARel ms us ts → ms.length = us.length
  | [], [], _, _ => rfl
  | _ :: ms, _ :: us, ts, h => congrArg (· + 1) (ARel.len (ms := ms) (us := us) (ts := ts) h.2.2)
  | [], _ :: _, _, h => h.elim
  | _ :: _, [], _, h => h.elim
theorem ARel.get : ∀ {ms : List Md} {us ts : List T}, ARel ms us ts → ∀ {i : Nat} {m : Md} {u : T}, ms[i]? = some m → us[i]? = some u → MRel m u ts
  | m :: ms, t :: us, ts, h, 0, m', u, e1, e2 => by
    have e1 : m = m' := by simpa using e1
    have e2 : t = u := by simpa using e2
    subst e1; subst e2; exact h.1
  | m :: ms, t :: us, ts, h, i + 1, m', u, e1, e2 => ARel.get h.2.2 (by simpa using e1) (by simpa using e2)
  | [], [], _, _, i, _, _, e1, _ => by simp at e1
  | [], _ :: _, _, h, _, _, _, _, _ => h.elim
  | _ :: _, [], _, h, _, _, _, _, _ => h.elim
/-- the rest behind a held head -/
theorem cons_tail {K : PySem.W.Frag} {m : Md} {ms : List Md} {md mr : List Nat} {tr : TA} {dr : EA} {ρ : Nat → V} {ts ts1 : List T} {σ : L2.St} {H H1 : Hp} {Q : List V → Hp → Prop} {x : D} {s : List D} {t : T} (hr : ARd K W io ms mr tr dr)
    (h : APost K W io ρ (m :: ms) (md ++ mr) ts σ H Q (if (clr m mr || !x.hasOwn) = true then (dr s).bind fun r => .ok (x :: r.1, r.2) else .no))
    (S1 : Sim K io ρ ts1 σ H1) (e1 : T.ers ts1 = s) (et : t.er = x) (ok1 : t.ok K H1) (mr1 : MRel m t ts1) (st1 : Step H ts H1 (t :: ts1)) (pu1 : ∀ j, j ∉ md → ts1[j]? = ts[j]?) :
    tr σ H1 fun xs H2 => Q (t.rt :: xs) H2 := by
  by_cases hc : (clr m mr || !x.hasOwn) = true
  · rw [if_pos hc] at h
    refine hr ρ ts1 σ H1 _ S1 ?_
    rw [e1]
    cases eb : dr s with
    | no => rw [eb] at h; exact h
    | ex c fs s2 =>
      rw [eb] at h
      exact fun ts2 H2 d S2 e2 st2 xr => h ts2 H2 d S2 e2 (st1.tail.trans st2) xr
    | ok q2 =>
      obtain ⟨xs, s2⟩ := q2
      rw [eb] at h
      intro ts2 us H2 S2 e2 eus okus ar st2 pu2
      -- the head after the rest
      have key : t.ok K H2 ∧ MRel m t ts2 ∧ (∀ (i : Nat) (u : T) (m' : Md), us[i]? = some u → ms[i]? = some m' → (m.isTmp = true ∨ m'.isTmp = true) → Dj t u) := by
        have viaDj : (∀ u ∈ ts1, Dj t u) → t.ok K H2 ∧ (∀ u ∈ ts2, Dj t u) ∧ ∀ u ∈ us, Dj t u := fun hd =>
          ⟨keepT ok1 S1.ok st2 fun u mu a ma => (hd u mu).2 a ma, fun u mu => djStep ok1 hd st2 u (List.mem_append_right _ mu), fun u mu => djStep ok1 hd st2 u (List.mem_append_left _ mu)⟩
        have free : t.own = [] → _ := fun on => by
          obtain ⟨k1, k2, k3⟩ := viaDj (mr1.tmp S1.wf on).2
          exact (show t.ok K H2 ∧ MRel m t ts2 ∧ (∀ (i : Nat) (u : T) (m' : Md), us[i]? = some u → ms[i]? = some m' → (m.isTmp = true ∨ m'.isTmp = true) → Dj t u) from
            ⟨k1, TRel.of ⟨mr1.good S1.wf, k2⟩ on, fun i u m' eu _ _ => k3 u (List.mem_of_getElem? eu)⟩)
        cases m with
        | tmp =>
          obtain ⟨k1, k2, k3⟩ := viaDj mr1.2
          exact ⟨k1, ⟨mr1.1, k2⟩, fun i u m' eu _ _ => k3 u (List.mem_of_getElem? eu)⟩
        | vw src =>
          rcases mr1 with ⟨i, mi, u, eu, sb⟩ | ⟨on, _⟩
          · by_cases ho : x.hasOwn = false
            · exact free (T.own_nil (by rw [et]; exact ho))
            · have hx : x.hasOwn = true := by cases q : x.hasOwn with | true => rfl | false => exact absurd q ho
              rw [hx, Bool.not_true, Bool.or_false] at hc
              have hi : i ∉ mr := by
                have := (List.all_eq_true.mp hc) i mi
                simpa using this
              have e2' : ts2[i]? = some u := (pu2 i hi).trans eu
              refine ⟨sb.ok (S2.ok u (List.mem_of_getElem? e2')), .inl ⟨i, mi, u, e2', sb⟩, fun j w m' ew em hm => ?_⟩
              have hm' : m'.isTmp = true := hm.elim (fun z => by cases z) id
              have arw := ar.get em ew
              cases m' with
              | vw _ => cases hm'
              | tmp =>
                have dj := arw.2 u (List.mem_of_getElem? e2')
                exact ⟨fun a ma z => dj.2 a (sb.col ma) z, fun a ma z => dj.1 a ma (sb.col z)⟩
          · exact free on
      obtain ⟨k1, k2, k3⟩ := key
      refine h ts2 (t :: us) H2 S2 e2 (by rw [T.ers, et, eus]) (fun u mu => ?_) ⟨k2, k3, ar⟩ ?_ fun j hj => ?_
      · rcases List.mem_cons.mp mu with rfl | mu
        · exact k1
        · exact okus u mu
      · have s3 := st1.tail.trans st2
        exact s3.cons (st1.ow _ List.mem_cons_self) (st1.tr _ List.mem_cons_self) (st1.im _ List.mem_cons_self)
      · rw [List.mem_append, not_or] at hj
        exact (pu2 j hj.2).trans (pu1 j hj.1)
  · rw [if_neg hc] at h; exact h.elim
theorem ard_cons {K : PySem.W.Frag} {m : Md} {ms : List Md} {md mr : List Nat} {te : TE} {tr : TA} {de : E} {dr : EA} (he : ERd K W io m md te de) (hr : ARd K W io ms mr tr dr) :
    ARd K W io (m :: ms) (md ++ mr) (tCons te tr) (dAcons m mr de dr) := by
  refine fun ρ ts σ H Q S h => ?_
  refine he ρ ts σ H _ S ?_
  unfold dAcons at h
  cases ea : de (T.ers ts) with
  | no => rw [ea] at h; exact h
  | ex c fs s => rw [ea] at h; exact h
  | ok q =>
    rw [ea] at h
    exact fun ts1 t H1 S1 e1 et ok1 mr1 st1 pu1 => cons_tail hr h S1 e1 et ok1 mr1 st1 pu1
/-- the same, the head looked at -/
def tConsC (C : V → Hp → Prop) (te : TE) (tr : TA) : TA := fun σ H Q => te σ H fun x H1 => C x H1 ∧ tr σ H1 fun xs H2 => Q (x :: xs) H2
def dAconsC (chk : D → Bool) (m : Md) (mr : List Nat) (de : E) (dr : EA) : EA := fun s => (de s).bind fun q => if chk q.1 = true then (if (clr m mr || !q.1.hasOwn) = true then (dr q.2).bind fun r => .ok (q.1 :: r.1, r.2) else .no) else .no
theorem ard_consC {K : PySem.W.Frag} {C : V → Hp → Prop} {chk : D → Bool} {m : Md} {ms : List Md} {md mr : List Nat} {te : TE} {tr : TA} {de : E} {dr : EA} (he : ERd K W io m md te de) (hr : ARd K W io ms mr tr dr)
    (hC : ∀ (H : Hp) (t : T), t.ok K H → chk t.er = true → C t.rt H) : ARd K W io (m :: ms) (md ++ mr) (tConsC C te tr) (dAconsC chk m mr de dr) := by
  refine fun ρ ts σ H Q S h => ?_
  refine he ρ ts σ H _ S ?_
  unfold dAconsC at h
  cases ea : de (T.ers ts) with
  | no => rw [ea] at h; exact h
  | ex c fs s => rw [ea] at h; exact h
  | ok q =>
    rw [ea] at h
    obtain ⟨x, s⟩ := q
    intro ts1 t H1 S1 e1 et ok1 mr1 st1 pu1
    simp only [R.bind] at h
    by_cases hk : chk x = true
    · rw [if_pos hk] at h
      exact ⟨hC H1 t ok1 (by rw [et]; exact hk), cons_tail hr h S1 e1 et ok1 mr1 st1 pu1⟩
    · rw [if_neg hk] at h; exact h.elim
theorem da_cons {m : Md} {ms : List Md} {md mr : List Nat} {e : Expr} {es : List Expr} {te : TE} {tr : TA} {de : E} {dr : EA} (he : DE X W io m md e te de) (hr : DA X W io ms mr es tr dr)
    (hs : starEach (e :: es) X.env = (false, eval e X.env) :: starEach es X.env := by rfl) : DA X W io (m :: ms) (md ++ mr) (e :: es) (tCons te tr) (dAcons m mr de dr) :=
  ⟨pa_cons he.pe hr.pa hs, ard_cons he.rd hr.rd⟩
end
end VS

namespace VS
open PySem PySem.Spec PyProof.Rows L2

theorem er_v {t : T} {x : V} (h : t.er = .v x) : t = .v x := by
  cases t with
  | un => cases h
  | v y => cases h; rfl
  | nd a k xs => rw [T.er] at h; cases h
theorem er_nd {t : T} {k : NK} {xs : List D} (h : t.er = .nd k xs) : ∃ a us, t = .nd a k us ∧ T.ers us = xs := by
  cases t with
  | un => cases h
  | v y => cases h
  | nd a k' us => rw [T.er] at h; cases h; exact ⟨a, us, rfl, rfl⟩
theorem ers_len (us : List T) : (T.ers us).length = us.length := by rw [T.ers_map, List.length_map]
theorem rts_len (us : List T) : (T.rts us).length = us.length := by rw [T.rts_map, List.length_map]
theorem ers_append (us ws : List T) : T.ers (us ++ ws) = T.ers us ++ T.ers ws := by rw [T.ers_map, T.ers_map, T.ers_map, List.map_append]
theorem rts_append (us ws : List T) : T.rts (us ++ ws) = T.rts us ++ T.rts ws := by rw [T.rts_map, T.rts_map, T.rts_map, List.map_append]
theorem ers_cons {us : List T} {x : D} {xs : List D} (h : T.ers us = x :: xs) : ∃ u r, us = u :: r ∧ u.er = x ∧ T.ers r = xs := by
  cases us with
  | nil => rw [T.ers] at h; cases h
  | cons u r => rw [T.ers] at h; injection h with h1 h2; exact ⟨u, r, rfl, h1, h2⟩
theorem ers_nil {us : List T} (h : T.ers us = []) : us = [] := by
  cases us with
  | nil => rfl
  | cons u r => rw [T.ers] at h; cases h
/-- atoms all -/
theorem ers_vs {us : List T} {vs : List V} (h : T.ers us = vs.map D.v) : us = vs.map T.v := by
  induction vs generalizing us with
  | nil => exact ers_nil h
  | cons v r ih =>
    obtain ⟨u, w, rfl, e1, e2⟩ := ers_cons h
    rw [er_v e1, ih e2]; rfl
theorem rts_vs (vs : List V) : T.rts (vs.map T.v) = vs := by
  rw [T.rts_map, List.map_map]
  have : (T.rt ∘ T.v) = id := rfl
  rw [this, List.map_id]

/-! ### new things -/
structure Frsh (H : Hp) (A : List T) (H' : Hp) (t : T) : Prop where
  sm : Same H H'
  gd : t.good
  ow : ∀ a ∈ t.own, H a = none
  tr : ∀ a ∈ t.trk, H a = none ∨ ∃ u ∈ A, a ∈ u.trk ∧ a ∉ u.own
  im : ∀ a ∈ t.imm, H a = none ∨ ∃ u ∈ A, a ∈ u.imm
theorem Frsh.atom {H : Hp} {A : List T} {x : V} : Frsh H A H (.v x) :=
  ⟨Same.refl H, trivial, fun _ m => (nomatch m), fun _ m => (nomatch m), fun _ m => (nomatch m)⟩
structure Sub0 (c u : T) : Prop where
  ow : c.own = []
  tr : ∀ a ∈ c.trk, a ∈ u.trk ∧ a ∉ u.own
  im : ∀ a ∈ c.imm, a ∈ u.imm
theorem Sub0.child {a : Addr} {k : NK} {xs : List T} {c : T} (g : (T.nd a k xs).good) (m : c ∈ xs) (h : c.own = []) : Sub0 c (.nd a k xs) := by
  have up : ∀ {p : NK → Bool} {z : Addr}, z ∈ c.col p → z ∈ (T.nd a k xs).col p := fun {p z} mz => T.mem_col.mpr (.inr ⟨c, m, mz⟩)
  refine ⟨h, fun z mz => ⟨up mz, fun q => ?_⟩, fun z mz => up mz⟩
  have q2 := T.good_own g q
  rcases T.trk_cases c z mz with w | w | w
  · rw [h] at w; cases w
  · exact q2.1 (up w)
  · exact q2.2 (up w)
theorem same_upd {H : Hp} {p : Addr} {o : HO} (h : H p = none) : Same H (upd H p o) := fun b x e => by
  rw [upd_ne (ne_of_none e h)]; exact e
section
variable {K : PySem.W.Frag} {H : Hp} {A : List T}
theorem Frsh.node {p : Addr} {k : NK} {cs : List T} {o : HO} (hp : H p = none) (okA : ∀ u ∈ A, u.ok K H) (hc : ∀ c ∈ cs, ∃ u ∈ A, Sub0 c u) : Frsh H A (upd H p o) (.nd p k cs) := by
  have own0 : T.cols NK.isOwn cs = [] := by
    cases e : T.cols NK.isOwn cs with
    | nil => rfl
    | cons z r =>
      have : z ∈ T.cols NK.isOwn cs := by rw [e]; simp
      obtain ⟨c, mc, mz⟩ := T.mem_cols.mp this
      obtain ⟨u, mu, s⟩ := hc c mc
      have mz : z ∈ c.own := mz
      rw [s.ow] at mz; cases mz
  refine ⟨same_upd hp, ?_, fun a ma => ?_, fun a ma => ?_, fun a ma => ?_⟩
  · rw [T.good]
    refine ⟨fun _ m => ?_, fun _ m => ?_, T.goods_of own0⟩
    · obtain ⟨c, mc, mz⟩ := T.mem_cols.mp m
      obtain ⟨u, mu, s⟩ := hc c mc
      obtain ⟨o', e⟩ := T.trk_s (okA u mu) (s.tr _ mz).1
      rw [hp] at e; cases e
    · rw [own0] at m; cases m
  · rcases T.mem_col.mp ma with ⟨_, e⟩ | ⟨c, mc, mz⟩
    · rw [e]; exact hp
    · have : a ∈ T.cols NK.isOwn cs := T.mem_cols.mpr ⟨c, mc, mz⟩
      rw [own0] at this; cases this
  · rcases T.mem_col.mp ma with ⟨_, e⟩ | ⟨c, mc, mz⟩
    · rw [e]; exact .inl hp
    · obtain ⟨u, mu, s⟩ := hc c mc
      exact .inr ⟨u, mu, s.tr a mz⟩
  · rcases T.mem_col.mp ma with ⟨_, e⟩ | ⟨c, mc, mz⟩
    · rw [e]; exact .inl hp
    · obtain ⟨u, mu, s⟩ := hc c mc
      exact .inr ⟨u, mu, s.im a mz⟩
/-- a new list's, a new tuple's tree -/
theorem ok_new {p : Addr} {k : NK} {cs : List T} {o : HO} (hp : H p = none) (hn : NodeAt K (upd H p o) p (T.rts cs) k) (hc : ∀ c ∈ cs, c.ok K H) : (T.nd p k cs).ok K (upd H p o) := by
  rw [T.ok]
  exact ⟨hn, T.oks_all.mpr fun c m => T.ok_same (hc c m) (same_upd hp)⟩
theorem T.ok.child {a : Addr} {k : NK} {xs : List T} {c : T} (h : (T.nd a k xs).ok K H) (m : c ∈ xs) : c.ok K H := by
  rw [T.ok] at h
  exact T.oks_all.mp h.2 c m
theorem T.ok.node {a : Addr} {k : NK} {xs : List T} (h : (T.nd a k xs).ok K H) : NodeAt K H a (T.rts xs) k := by
  rw [T.ok] at h; exact h.1
theorem T.ok.atL {a : Addr} {o : Bool} {xs : List T} (h : (T.nd a (.lst o) xs).ok K H) : H a = some (.lst (T.rts xs)) := h.node
theorem T.ok.sqL {a : Addr} {o : Bool} {xs : List T} (h : (T.nd a (.lst o) xs).ok K H) : SqL K H a (T.rts xs) := .inl (.inl h.node)
theorem T.ok.sqS {a : Addr} {xs : List T} (h : (T.nd a .scr xs).ok K H) : SqL K H a (T.rts xs) := by
  rcases h.node with ⟨o, e⟩ | e
  · exact .inl (.inr ⟨o, e⟩)
  · exact .inr e
theorem T.ok.sqT {a : Addr} {xs : List T} (h : (T.nd a .tup xs).ok K H) : SqT K H a (T.rts xs) := h.node
end
theorem hass_own {xs : List T} (h : D.hass NK.isOwn (T.ers xs) = false) : ∀ c ∈ xs, c.own = [] := fun c m => by
  have e := (T.hass_er xs).mp h
  cases q : c.own with
  | nil => rfl
  | cons z r =>
    have : z ∈ T.cols NK.isOwn xs := T.mem_cols.mpr ⟨c, m, by show z ∈ c.own; rw [q]; simp⟩
    rw [e] at this; cases this

/-- what is left behind an operation on held values -/
theorem fin {K : PySem.W.Frag} {io : List Nat} {ρ : Nat → V} {ts ts2 us : List T} {σ : L2.St} {H H2 H3 : Hp} {ms : List Md} {t : T} (S : Sim K io ρ ts2 σ H2) (ok : ∀ u ∈ us, u.ok K H2) (ar : ARel ms us ts2) (st : Step H ts H2 (us ++ ts2)) (f : Frsh H2 us H3 t) :
    Sim K io ρ ts2 σ H3 ∧ MRel .tmp t ts2 ∧ Step H ts H3 (t :: ts2) := by
  have back : ∀ a, H2 a = none → H a = none := st.al
  refine ⟨⟨S.len, S.rt, fun u m => T.ok_same (S.ok u m) f.sm, S.wf, S.pin⟩, ⟨f.gd, fun u mu => ⟨fun a ma z => ?_, fun a ma z => ?_⟩⟩, ?_⟩
  · obtain ⟨o, e⟩ := T.trk_s (S.ok u mu) z
    rw [f.ow a ma] at e; cases e
  · rcases f.tr a z with q | ⟨w, mw, q1, q2⟩
    · obtain ⟨o, e, _⟩ := T.own_m (S.ok u mu) ma
      rw [q] at e; cases e
    · obtain ⟨i, ei⟩ := List.getElem?_of_mem mw
      have hl := ar.len
      have hi : i < ms.length := by rw [hl]; exact (List.getElem?_eq_some_iff.mp ei).1
      exact (ar.get (List.getElem?_eq_getElem hi) ei).own S.wf u mu a ma q2 q1
  · refine Step.cons ⟨fun b o e n => f.sm b o (st.fr b o e n), fun b h => back b (f.sm.free h), (st.sub fun u m => List.mem_append_right _ m).ow, (st.sub fun u m => List.mem_append_right _ m).tr, (st.sub fun u m => List.mem_append_right _ m).im⟩ (fun a ma => .inr (back a (f.ow a ma))) (fun a ma => ?_) fun a ma => ?_
    · rcases f.tr a ma with q | ⟨w, mw, q1, _⟩
      · exact .inr (back a q)
      · exact st.tr w (List.mem_append_left _ mw) a q1
    · rcases f.im a ma with q | ⟨w, mw, q1⟩
      · exact .inr (back a q)
      · exact st.im w (List.mem_append_left _ mw) a q1

/-! ### an operation on evaluated things -/
def OpN (K : PySem.W.Frag) (r : List V → Hp → VK → Prop) (f : List D → Option D) : Prop :=
  ∀ (H : Hp) (us : List T) (d : D) (Q : VK), (∀ u ∈ us, u.ok K H) → (∀ u ∈ us, u.good) → f (T.ers us) = some d → (∀ t H', t.er = d → t.ok K H' → Frsh H us H' t → Q t.rt H') → r (T.rts us) H Q
def dOp (f : List D → Option D) (dA : EA) : E := fun s => (dA s).bind fun q => match f q.1 with
  | some d => .ok (d, q.2)
  | none => .no
theorem rdN {K : PySem.W.Frag} {W : WX} {io : List Nat} {md : List Nat} {ms : List Md} {tA : TA} {dA : EA} {r : List V → Hp → VK → Prop} {f : List D → Option D} (hA : ARd K W io ms md tA dA) (hf : OpN K r f) :
    ERd K W io .tmp md (fun σ H Q => tA σ H fun vs H1 => r vs H1 Q) (dOp f dA) := fun ρ ts σ H Q S h => by
  refine hA ρ ts σ H _ S ?_
  unfold dOp at h
  cases ea : dA (T.ers ts) with
  | no => rw [ea] at h; exact h
  | ex c fs s => rw [ea] at h; exact h
  | ok q =>
    obtain ⟨xs, s⟩ := q
    rw [ea] at h
    intro ts2 us H2 S2 e2 eus okus ar st2 pu2
    simp only [R.bind] at h
    cases ef : f xs with
    | none => rw [ef] at h; exact h.elim
    | some d =>
      rw [ef] at h
      refine hf H2 us d Q okus (fun u m => ?_) (by rw [eus]; exact ef) fun t H3 et okt fr => ?_
      · obtain ⟨i, ei⟩ := List.getElem?_of_mem m
        have hi : i < ms.length := by rw [ar.len]; exact (List.getElem?_eq_some_iff.mp ei).1
        exact (ar.get (List.getElem?_eq_getElem hi) ei).good S2.wf
      · obtain ⟨S3, mr, st3⟩ := fin S2 okus ar st2 fr
        exact h ts2 t H3 S3 e2 et okt mr st3 pu2
/-- two operands -/
def Op2 (K : PySem.W.Frag) (r : R2) (f : D → D → Option D) : Prop :=
  ∀ (H : Hp) (x y : T) (d : D) (Q : VK), x.ok K H → y.ok K H → x.good → y.good → f x.er y.er = some d → (∀ t H', t.er = d → t.ok K H' → Frsh H [x, y] H' t → Q t.rt H') → r x.rt y.rt H Q
def r2L (r : R2) : List V → Hp → VK → Prop := fun vs H Q => match vs with
  | [x, y] => r x y H Q
  | _ => False
def f2L (f : D → D → Option D) : List D → Option D
  | [x, y] => f x y
  | _ => none
theorem Op2.n {K : PySem.W.Frag} {r : R2} {f : D → D → Option D} (h : Op2 K r f) : OpN K (r2L r) (f2L f) := by
  intro H us d Q ok gd e q
  match us, ok, gd, e, q with
  | [x, y], ok, gd, e, q => exact h H x y d Q (ok x (by simp)) (ok y (by simp)) (gd x (by simp)) (gd y (by simp)) e q
  | [], _, _, e, _ => cases e
  | [_], _, _, e, _ => cases e
  | _ :: _ :: _ :: _, _, _, e, _ => cases e
def Op1 (K : PySem.W.Frag) (r : V → Hp → VK → Prop) (f : D → Option D) : Prop :=
  ∀ (H : Hp) (x : T) (d : D) (Q : VK), x.ok K H → x.good → f x.er = some d → (∀ t H', t.er = d → t.ok K H' → Frsh H [x] H' t → Q t.rt H') → r x.rt H Q
def r1L (r : V → Hp → VK → Prop) : List V → Hp → VK → Prop := fun vs H Q => match vs with
  | [x] => r x H Q
  | _ => False
def f1L (f : D → Option D) : List D → Option D
  | [x] => f x
  | _ => none
theorem Op1.n {K : PySem.W.Frag} {r : V → Hp → VK → Prop} {f : D → Option D} (h : Op1 K r f) : OpN K (r1L r) (f1L f) := by
  intro H us d Q ok gd e q
  match us, ok, gd, e, q with
  | [x], ok, gd, e, q => exact h H x d Q (ok x (by simp)) (gd x (by simp)) e q
  | [], _, _, e, _ => cases e
  | _ :: _ :: _, _, _, e, _ => cases e
/-- the denotations of one and of two operands -/
def dTwo (m : Md) (mb : List Nat) (f : D → D → Option D) (da db : E) : E := fun s => (da s).bind fun q => if (clr m mb || !q.1.hasOwn) = true then (db q.2).bind fun r => match f q.1 r.1 with
    | some d => .ok (d, r.2)
    | none => .no
  else .no
def dOne (f : D → Option D) (da : E) : E := fun s => (da s).bind fun q => match f q.1 with
  | some d => .ok (d, q.2)
  | none => .no
theorem dTwo_eq (m m2 : Md) (mb : List Nat) (f : D → D → Option D) (da db : E) (hm : clr m2 [] = true) : dTwo m mb f da db = dOp (f2L f) (dAcons m mb da (dAcons m2 [] db dAnil)) := by
  funext s
  unfold dTwo dOp dAcons dAnil
  cases da s with
  | no => rfl
  | ex c fs s => rfl
  | ok q =>
    obtain ⟨x, s1⟩ := q
    simp only [R.bind, hm, Bool.true_or, if_true]
    by_cases h : (clr m mb || !x.hasOwn) = true
    · rw [if_pos h, if_pos h]
      cases db s1 with
      | no => rfl
      | ex c fs s => rfl
      | ok r => rfl
    · rw [if_neg h, if_neg h]
theorem clr_nil (m : Md) : clr m [] = true := by
  cases m with
  | tmp => rfl
  | vw src => exact List.all_eq_true.mpr fun i _ => rfl
theorem dOne_eq (m : Md) (f : D → Option D) (da : E) : dOne f da = dOp (f1L f) (dAcons m [] da dAnil) := by
  funext s
  unfold dOne dOp dAcons dAnil
  cases da s with
  | no => rfl
  | ex c fs s => rfl
  | ok q =>
    obtain ⟨x, s1⟩ := q
    simp only [R.bind, clr_nil, Bool.true_or, if_true]
    rfl
section
variable {X : Cx} {W : WX} {io : List Nat} {e : Expr} {ta tb : TE} {da db : E} {m1 m2 : Md} {d1 d2 : List Nat}
theorem de_two {r : R2} {f : D → D → Option D} (hpe : PE X e (tOp r ta tb)) (ha : ERd X.K W io m1 d1 ta da) (hb : ERd X.K W io m2 d2 tb db) (hf : Op2 X.K r f) : DE X W io .tmp (d1 ++ d2) e (tOp r ta tb) (dTwo m1 d2 f da db) := by
  refine ⟨hpe, fun ρ ts σ H Q S h => ?_⟩
  rw [dTwo_eq m1 m2 _ _ _ _ (clr_nil m2)] at h
  have q := rdN (ard_cons ha (ard_cons hb ard_nil)) hf.n ρ ts σ H Q S (by rw [List.append_nil]; exact h)
  exact q
theorem de_one {r : V → Hp → VK → Prop} {f : D → Option D} (hpe : PE X e (tUn r ta)) (ha : ERd X.K W io m1 d1 ta da) (hf : Op1 X.K r f) : DE X W io .tmp d1 e (tUn r ta) (dOne f da) := by
  refine ⟨hpe, fun ρ ts σ H Q S h => ?_⟩
  rw [dOne_eq m1] at h
  have q := rdN (ard_cons ha ard_nil) hf.n ρ ts σ H Q S (by rw [List.append_nil]; exact h)
  exact q
end
end VS

namespace VS
open PySem PySem.Spec PyProof.Rows L2

abbrev D.int (i : Int) : D := .v (.int i)
abbrev D.bl (b : Bool) : D := .v (.bl b)
abbrev D.str (s : Str) : D := .v (.str s)
abbrev D.non : D := .v .non
abbrev D.tup (xs : List D) : D := .nd .tup xs
abbrev D.lst (o : Bool) (xs : List D) : D := .nd (.lst o) xs

theorem opr_or {X : Cx} {f : Value → Value → Sem Value} {r r' : R2} (h : OpR X f r) (h' : OpR X f r') : OpR X f (fun x y H Q => r x y H Q ∨ r' x y H Q) := by
  intro pins s σ H x y v u Q I rx ry q
  rcases q with q | q
  · exact h pins s σ H x y v u Q I rx ry q
  · exact h' pins s σ H x y v u Q I rx ry q
/-! ### + -/
def oAdd : D → D → Option D
  | .v (.int i), .v (.int j) => some (.v (.int (i + j)))
  | .v (.str a), .v (.str b) => if a.length + b.length ≤ sizeLine then some (.v (.str (a ++ b))) else none
  | .nd (.lst _) xs, .nd (.lst _) ys => if (decide (xs.length + ys.length ≤ sizeLine) && !D.hass NK.isOwn xs && !D.hass NK.isOwn ys) = true then some (.nd (.lst true) (xs ++ ys)) else none
  | .nd .tup xs, .nd .tup ys => if (decide (xs.length + ys.length ≤ sizeLine) && !D.hass NK.isOwn xs && !D.hass NK.isOwn ys) = true then some (.nd .tup (xs ++ ys)) else none
  | _, _ => none
def rAddA (K : PySem.W.Frag) : R2 := fun x y H Q => rI0 (fun i j => .int (i + j)) x y H Q ∨ (∃ i j, x = .str i ∧ y = .str j ∧ i.length + j.length ≤ sizeLine ∧ Q (.str (i ++ j)) H) ∨ rCat x y H Q ∨ rCatA K x y H Q
theorem op_addA {X : Cx} : OpR X (binaryOp .Add) (rAddA X.K) := opr_or op_add (opr_or op_add_str (opr_or op_cat op_catA))
theorem appN {a b c : Bool} (h : (a && !b && !c) = true) : a = true ∧ b = false ∧ c = false := by
  cases a <;> cases b <;> cases c <;> first | exact ⟨rfl, rfl, rfl⟩ | cases h
theorem frsh_self {H : Hp} {A : List T} {t : T} (m : t ∈ A) (g : t.good) (h : t.own = []) : Frsh H A H t :=
  ⟨Same.refl H, g, fun a ma => (by rw [h] at ma; cases ma), fun a ma => .inr ⟨t, m, ma, by rw [h]; simp⟩, fun a ma => .inr ⟨t, m, ma⟩⟩
theorem tup_own {a : Addr} {xs : List T} (h : D.hass NK.isOwn (T.ers xs) = false) : (T.nd a .tup xs).own = [] := by
  show T.col NK.isOwn (.nd a .tup xs) = []
  rw [T.col, (T.hass_er xs).mp h]; rfl
theorem oAdd_ok {K : PySem.W.Frag} : Op2 K (rAddA K) oAdd := by
  intro H x y d Q okx oky gx gy e q
  unfold oAdd at e
  split at e
  · rename_i i j e1 e2
    have := er_v e1; subst this
    have := er_v e2; subst this
    cases e
    exact .inl ⟨i, j, rfl, rfl, q (.v _) H rfl trivial Frsh.atom⟩
  · rename_i a b e1 e2
    have := er_v e1; subst this
    have := er_v e2; subst this
    split at e
    · rename_i hl
      cases e
      exact .inr (.inl ⟨a, b, rfl, rfl, hl, q (.v _) H rfl trivial Frsh.atom⟩)
    · cases e
  · rename_i o1 xs o2 ys e1 e2
    obtain ⟨p1, us, rfl, h1⟩ := er_nd e1
    obtain ⟨p2, ws, rfl, h2⟩ := er_nd e2
    split at e
    · rename_i hc
      obtain ⟨c1, c2, c3⟩ := appN hc
      have c1 := of_decide_eq_true c1
      subst h1; subst h2
      cases e
      rw [ers_len, ers_len] at c1
      refine .inr (.inr (.inl ⟨p1, p2, T.rts us, T.rts ws, rfl, rfl, okx.atL, oky.atL, by rw [rts_len, rts_len]; exact c1, fun p hp => ?_⟩))
      have hch : ∀ c ∈ us ++ ws, ∃ u ∈ [T.nd p1 (.lst o1) us, T.nd p2 (.lst o2) ws], Sub0 c u := fun c m => by
        rcases List.mem_append.mp m with m | m
        · exact ⟨_, by simp, Sub0.child gx m (hass_own c2 c m)⟩
        · exact ⟨_, by simp, Sub0.child gy m (hass_own c3 c m)⟩
      have okc : ∀ c ∈ us ++ ws, c.ok K H := fun c m => (List.mem_append.mp m).elim okx.child oky.child
      have okA : ∀ u ∈ [T.nd p1 (.lst o1) us, T.nd p2 (.lst o2) ws], u.ok K H := fun u m => by
        rcases List.mem_cons.mp m with rfl | m
        · exact okx
        · rcases List.mem_cons.mp m with rfl | m
          · exact oky
          · cases m
      refine q (.nd p (.lst true) (us ++ ws)) _ (by rw [T.er, ers_append]) (ok_new hp ?_ okc) (Frsh.node hp okA hch)
      show upd H p _ p = _
      rw [upd_same, rts_append]
    · cases e
  · rename_i xs ys e1 e2
    obtain ⟨p1, us, rfl, h1⟩ := er_nd e1
    obtain ⟨p2, ws, rfl, h2⟩ := er_nd e2
    split at e
    · rename_i hc
      obtain ⟨c1, c2, c3⟩ := appN hc
      have c1 := of_decide_eq_true c1
      subst h1; subst h2
      cases e
      rw [ers_len, ers_len] at c1
      refine .inr (.inr (.inr ⟨p1, p2, T.rts us, T.rts ws, rfl, rfl, okx.sqT, oky.sqT, by rw [rts_len, rts_len]; exact c1, fun z => ?_, fun _ z => ?_, fun _ _ p hp => ?_⟩))
      · have : us = [] := by cases us with | nil => rfl | cons _ _ => rw [T.rts] at z; cases z
        subst this
        exact q (.nd p2 .tup ws) H (by rw [T.er]; rfl) oky (frsh_self (by simp) gy (tup_own c3))
      · have : ws = [] := by cases ws with | nil => rfl | cons _ _ => rw [T.rts] at z; cases z
        subst this
        exact q (.nd p1 .tup us) H (by rw [T.er, T.ers, List.append_nil]) okx (frsh_self (by simp) gx (tup_own c2))
      · have hch : ∀ c ∈ us ++ ws, ∃ u ∈ [T.nd p1 .tup us, T.nd p2 .tup ws], Sub0 c u := fun c m => by
          rcases List.mem_append.mp m with m | m
          · exact ⟨_, by simp, Sub0.child gx m (hass_own c2 c m)⟩
          · exact ⟨_, by simp, Sub0.child gy m (hass_own c3 c m)⟩
        have okc : ∀ c ∈ us ++ ws, c.ok K H := fun c m => (List.mem_append.mp m).elim okx.child oky.child
        have okA : ∀ u ∈ [T.nd p1 .tup us, T.nd p2 .tup ws], u.ok K H := fun u m => by
          rcases List.mem_cons.mp m with rfl | m
          · exact okx
          · rcases List.mem_cons.mp m with rfl | m
            · exact oky
            · cases m
        refine q (.nd p .tup (us ++ ws)) _ (by rw [T.er, ers_append]) (ok_new hp ?_ okc) (Frsh.node hp okA hch)
        show SqT K _ p _
        rw [rts_append]
        exact SqT.of upd_same
    · cases e
  · cases e
/-! ### ints -/
theorem int2_ok {K : PySem.W.Frag} {C : Int → Int → Prop} {g : Int → Int → V} {f : D → D → Option D} {r : R2} (hr : ∀ i j H Q, C i j → Q (g i j) H → r (.int i) (.int j) H Q)
    (hf : ∀ x y d, f x y = some d → ∃ i j, x = .v (.int i) ∧ y = .v (.int j) ∧ C i j ∧ d = .v (g i j)) : Op2 K r f := by
  intro H x y d Q okx oky gx gy e q
  obtain ⟨i, j, e1, e2, hc, rfl⟩ := hf _ _ _ e
  have := er_v e1; subst this
  have := er_v e2; subst this
  exact hr i j H Q hc (q (.v _) H rfl trivial Frsh.atom)
def oInt (c : Int → Int → Bool) (g : Int → Int → V) : D → D → Option D
  | .v (.int i), .v (.int j) => if c i j = true then some (.v (g i j)) else none
  | _, _ => none
theorem oInt_ok {K : PySem.W.Frag} {c : Int → Int → Bool} {C : Int → Int → Prop} {g : Int → Int → V} (h : ∀ i j, c i j = true → C i j) : Op2 K (rI C g) (oInt c g) :=
  int2_ok (C := C) (fun i j H Q hc q => ⟨i, j, rfl, rfl, hc, q⟩) fun x y d e => by
    unfold oInt at e
    split at e
    · split at e
      · cases e; exact ⟨_, _, rfl, rfl, h _ _ (by assumption), rfl⟩
      · cases e
    · cases e
def oInt0 (g : Int → Int → V) : D → D → Option D
  | .v (.int i), .v (.int j) => some (.v (g i j))
  | _, _ => none
theorem oInt0_ok {K : PySem.W.Frag} {g : Int → Int → V} : Op2 K (rI0 g) (oInt0 g) :=
  int2_ok (C := fun _ _ => True) (fun i j H Q hc q => ⟨i, j, rfl, rfl, q⟩) fun x y d e => by
    unfold oInt0 at e
    split at e
    · cases e; exact ⟨_, _, rfl, rfl, trivial, rfl⟩
    · cases e
abbrev oSub := oInt0 fun i j => .int (i - j)
abbrev oMod := oInt (fun _ j => decide (0 < j)) fun i j => .int (i % j)
abbrev oDiv := oInt (fun _ j => decide (0 < j ∧ j.natAbs.log2 < 9000)) fun i j => .int (i / j)
abbrev oPow := oInt (fun i j => decide (0 ≤ j ∧ j ≤ 1000000 ∧ i.natAbs < 2 ^ 64)) fun i j => .int (i ^ j.toNat)
abbrev oShl := oInt (fun i j => decide (0 ≤ j ∧ j ≤ 1000000 ∧ i.natAbs < 2 ^ 64)) fun i j => .int (i * 2 ^ j.toNat)
abbrev oShr := oInt (fun _ j => decide (0 ≤ j)) fun i j => .int (i / 2 ^ j.toNat)
abbrev oAnd := oInt0 fun i j => .int (Builtin.bitAnd i j)
abbrev oOr := oInt0 fun i j => .int (Builtin.bitOr i j)
abbrev oXor := oInt0 fun i j => .int (Builtin.bitXor i j)
end VS

namespace VS
open PySem PySem.Spec PyProof.Rows L2

/-! ### tests -/
abbrev B := List D → R (Bool × List D)
def TPost (K : PySem.W.Frag) (W : WX) (io : List Nat) (ρ : Nat → V) (md : List Nat) (ts : List T) (σ : L2.St) (H : Hp) (Q : Bool → Hp → Prop) : R (Bool × List D) → Prop
  | .ok (b, s) => ∀ ts' H', Sim K io ρ ts' σ H' → T.ers ts' = s → Step H ts H' ts' → (∀ j, j ∉ md → ts'[j]? = ts[j]?) → Q b H'
  | .ex c fs s => ∀ ts' H' d, Sim K io ρ ts' σ H' → T.ers ts' = s → Step H ts H' ts' → XRel H' d fs → W c d σ H'
  | .no => False
def TRd (K : PySem.W.Frag) (W : WX) (io : List Nat) (md : List Nat) (t : TT) (d : B) : Prop :=
  ∀ ρ ts σ H Q, Sim K io ρ ts σ H → TPost K W io ρ md ts σ H Q (d (T.ers ts)) → t σ H Q
structure DT (X : Cx) (W : WX) (io : List Nat) (md : List Nat) (e : Expr) (t : TT) (d : B) : Prop where
  pt : PT X e t
  rd : TRd X.K W io md t d
structure DW (X : Cx) (W : WX) (io : List Nat) (md : List Nat) (e : Expr) (t : TT) (d : B) : Prop where
  pw : PW X e t
  rd : TRd X.K W io md t d
def dTv (d : E) : B := fun s => (d s).bind fun q => match q.1 with
  | .v (.bl b) => .ok (b, q.2)
  | _ => .no
/-- truth -/
def D.tru : D → Option Bool
  | .v .non => some false
  | .v (.bl b) => some b
  | .v (.int i) => some (i != 0)
  | .v (.str y) => if y.length ≤ sizeLine then some ((y.length : Int) != 0) else none
  | .nd .tup xs => some (!xs.isEmpty)
  | .nd .scr xs => some (!xs.isEmpty)
  | .nd (.lst _) xs => some (!xs.isEmpty)
  | .nd (.dic _ ks) xs => if ks.length = xs.length then some (!ks.isEmpty) else none
  | _ => none
def dTt (d : E) : B := fun s => (d s).bind fun q => match q.1.tru with
  | some b => .ok (b, q.2)
  | none => .no
theorem isEmpty_rts (us : List T) : (T.rts us).isEmpty = (T.ers us).isEmpty := by cases us <;> rfl
theorem tru_of {K : PySem.W.Frag} {H : Hp} {t : T} {b : Bool} (ok : t.ok K H) (h : t.er.tru = some b) : TruV K t.rt H b := by
  unfold D.tru at h
  split at h
  · rename_i e; have := er_v e; subst this; cases h; exact rfl
  · rename_i e; have := er_v e; subst this; cases h; exact rfl
  · rename_i e; have := er_v e; subst this; cases h; exact rfl
  · rename_i e; have := er_v e; subst this
    split at h
    · cases h; exact ⟨by assumption, rfl⟩
    · cases h
  · rename_i xs e; obtain ⟨a, us, rfl, e2⟩ := er_nd e; cases h
    exact .inr (.inl ⟨_, ok.sqT, by rw [isEmpty_rts, e2]⟩)
  · rename_i xs e; obtain ⟨a, us, rfl, e2⟩ := er_nd e; cases h
    exact .inl ⟨_, ok.sqS, by rw [isEmpty_rts, e2]⟩
  · rename_i o xs e; obtain ⟨a, us, rfl, e2⟩ := er_nd e; cases h
    exact .inl ⟨_, ok.sqL, by rw [isEmpty_rts, e2]⟩
  · rename_i o ks xs e; obtain ⟨a, us, rfl, e2⟩ := er_nd e
    split at h
    · rename_i hl
      cases h
      refine .inr (.inr ⟨_, ok.node.1, ?_⟩)
      have hl2 : us.length = xs.length := by rw [← e2, ers_len]
      cases ks with
      | nil => rfl
      | cons k ks => cases us with
        | nil => rw [List.length_cons] at hl; rw [List.length_nil] at hl2; omega
        | cons u us => rfl
    · cases h
  · cases h
section
variable {K : PySem.W.Frag} {W : WX} {io : List Nat}
theorem trd_v {m : Md} {md : List Nat} {t : TE} {d : E} (h : ERd K W io m md t d) : TRd K W io md (fun σ H Q => t σ H fun x H' => ∃ k, x = .bl k ∧ Q k H') (dTv d) := fun ρ ts σ H Q S q => by
  refine h ρ ts σ H _ S ?_
  unfold dTv at q
  cases ea : d (T.ers ts) with
  | no => rw [ea] at q; exact q
  | ex c fs s => rw [ea] at q; exact q
  | ok p =>
    obtain ⟨x, s⟩ := p
    rw [ea] at q
    intro ts1 t1 H1 S1 e1 et ok1 mr1 st1 pu1
    simp only [R.bind] at q
    split at q
    · rename_i b
      have := er_v et; subst this
      exact ⟨b, rfl, q ts1 H1 S1 e1 st1.tail pu1⟩
    · exact q.elim
theorem trd_t {m : Md} {md : List Nat} {t : TE} {d : E} (h : ERd K W io m md t d) : TRd K W io md (fun σ H Q => t σ H fun x H' => ∃ k, TruV K x H' k ∧ Q k H') (dTt d) := fun ρ ts σ H Q S q => by
  refine h ρ ts σ H _ S ?_
  unfold dTt at q
  cases ea : d (T.ers ts) with
  | no => rw [ea] at q; exact q
  | ex c fs s => rw [ea] at q; exact q
  | ok p =>
    obtain ⟨x, s⟩ := p
    rw [ea] at q
    intro ts1 t1 H1 S1 e1 et ok1 mr1 st1 pu1
    simp only [R.bind] at q
    cases eb : x.tru with
    | none => rw [eb] at q; exact q.elim
    | some b => rw [eb] at q; exact ⟨b, tru_of ok1 (by rw [et]; exact eb), q ts1 H1 S1 e1 st1.tail pu1⟩
def dTand (a b : B) : B := fun s => (a s).bind fun q => if q.1 = true then b q.2 else .ok (false, q.2)
def dTor (a b : B) : B := fun s => (a s).bind fun q => if q.1 = true then .ok (true, q.2) else b q.2
def dTnot (a : B) : B := fun s => (a s).bind fun q => .ok (!q.1, q.2)
theorem TPost.after {ρ : Nat → V} {d1 d2 : List Nat} {ts ts1 : List T} {σ : L2.St} {H H1 : Hp} {Q : Bool → Hp → Prop} {r : R (Bool × List D)} (h : TPost K W io ρ (d1 ++ d2) ts σ H Q r) (st1 : Step H ts H1 ts1) (pu1 : ∀ j, j ∉ d1 → ts1[j]? = ts[j]?) :
    TPost K W io ρ d2 ts1 σ H1 Q r := by
  cases r with
  | no => exact h
  | ex c fs s => exact fun ts2 H2 d S2 e2 st2 x => h ts2 H2 d S2 e2 (st1.trans st2) x
  | ok q => exact fun ts2 H2 S2 e2 st2 pu2 => h ts2 H2 S2 e2 (st1.trans st2) fun j hj => (pu2 j fun z => hj (List.mem_append_right _ z)).trans (pu1 j fun z => hj (List.mem_append_left _ z))
theorem TPost.wide {ρ : Nat → V} {d1 d2 : List Nat} {ts : List T} {σ : L2.St} {H : Hp} {Q : Bool → Hp → Prop} {r : R (Bool × List D)} (h : TPost K W io ρ d2 ts σ H Q r) (hd : ∀ j, j ∈ d1 → j ∈ d2) : TPost K W io ρ d1 ts σ H Q r := by
  cases r with
  | no => exact h
  | ex c fs s => exact h
  | ok q => exact fun ts2 H2 S2 e2 st2 pu2 => h ts2 H2 S2 e2 st2 fun j hj => pu2 j fun z => hj (hd j z)
theorem trd_and {d1 d2 : List Nat} {t u : TT} {a b : B} (ha : TRd K W io d1 t a) (hb : TRd K W io d2 u b) : TRd K W io (d1 ++ d2) (tAnd t u) (dTand a b) := fun ρ ts σ H Q S q => by
  refine ha ρ ts σ H _ S ?_
  unfold dTand at q
  cases ea : a (T.ers ts) with
  | no => rw [ea] at q; exact q
  | ex c fs s => rw [ea] at q; exact q
  | ok p =>
    obtain ⟨x, s⟩ := p
    rw [ea] at q
    intro ts1 H1 S1 e1 st1 pu1
    simp only [R.bind] at q
    cases x with
    | true => rw [if_pos rfl] at q ⊢; exact hb ρ ts1 σ H1 Q S1 (by rw [e1]; exact q.after st1 pu1)
    | false =>
      rw [if_neg Bool.false_ne_true] at q ⊢
      exact q ts1 H1 S1 e1 st1 fun j hj => by rw [List.mem_append, not_or] at hj; exact pu1 j hj.1
theorem trd_or {d1 d2 : List Nat} {t u : TT} {a b : B} (ha : TRd K W io d1 t a) (hb : TRd K W io d2 u b) : TRd K W io (d1 ++ d2) (tOr t u) (dTor a b) := fun ρ ts σ H Q S q => by
  refine ha ρ ts σ H _ S ?_
  unfold dTor at q
  cases ea : a (T.ers ts) with
  | no => rw [ea] at q; exact q
  | ex c fs s => rw [ea] at q; exact q
  | ok p =>
    obtain ⟨x, s⟩ := p
    rw [ea] at q
    intro ts1 H1 S1 e1 st1 pu1
    simp only [R.bind] at q
    cases x with
    | false => rw [if_neg Bool.false_ne_true] at q ⊢; exact hb ρ ts1 σ H1 Q S1 (by rw [e1]; exact q.after st1 pu1)
    | true =>
      rw [if_pos rfl] at q ⊢
      exact q ts1 H1 S1 e1 st1 fun j hj => by rw [List.mem_append, not_or] at hj; exact pu1 j hj.1
theorem trd_not {d1 : List Nat} {t : TT} {a : B} (ha : TRd K W io d1 t a) : TRd K W io d1 (tNot t) (dTnot a) := fun ρ ts σ H Q S q => by
  refine ha ρ ts σ H _ S ?_
  unfold dTnot at q
  cases ea : a (T.ers ts) with
  | no => rw [ea] at q; exact q
  | ex c fs s => rw [ea] at q; exact q
  | ok p => rw [ea] at q; exact fun ts1 H1 S1 e1 st1 pu1 => q ts1 H1 S1 e1 st1 pu1
end
section
variable {X : Cx} {W : WX} {io : List Nat} {e a b : Expr} {rest : List Expr} {pos : Pos} {md d1 d2 : List Nat} {m : Md}
theorem dt_v {t : TE} {d : E} (hp : PT X e (fun σ H Q => t σ H fun x H' => ∃ k, x = .bl k ∧ Q k H')) (h : ERd X.K W io m md t d) : DT X W io md e (fun σ H Q => t σ H fun x H' => ∃ k, x = .bl k ∧ Q k H') (dTv d) := ⟨hp, trd_v h⟩
theorem dt_t {t : TE} {d : E} (h : DE X W io m md e t d) (he : ∀ whole, isTrue e X.env whole = (do let v ← whole; standAt e.pos; holding [v] (truthy v)) := by intro _; rfl) :
    DT X W io md e (fun σ H Q => t σ H fun x H' => ∃ k, TruV X.K x H' k ∧ Q k H') (dTt d) := ⟨pt_truth h.pe he, trd_t h.rd⟩
theorem dw_and1 {t : TT} {d : B} (h : DT X W io md a t d) : DW X W io md (.BoolOp .And [a] pos) t d := ⟨pw_and1 h.pt, h.rd⟩
theorem dw_or1 {t : TT} {d : B} (h : DT X W io md a t d) : DW X W io md (.BoolOp .Or [a] pos) t d := ⟨pw_or1 h.pt, h.rd⟩
theorem dw_and {t u : TT} {da db : B} (ha : DT X W io d1 a t da) (hb : DW X W io d2 (.BoolOp .And (b :: rest) pos) u db) : DW X W io (d1 ++ d2) (.BoolOp .And (a :: b :: rest) pos) (tAnd t u) (dTand da db) := ⟨pw_and ha.pt hb.pw, trd_and ha.rd hb.rd⟩
theorem dw_or {t u : TT} {da db : B} (ha : DT X W io d1 a t da) (hb : DW X W io d2 (.BoolOp .Or (b :: rest) pos) u db) : DW X W io (d1 ++ d2) (.BoolOp .Or (a :: b :: rest) pos) (tOr t u) (dTor da db) := ⟨pw_or ha.pt hb.pw, trd_or ha.rd hb.rd⟩
theorem DW.dt {t : TT} {d : B} (h : DW X W io md e t d) : DT X W io md e t d := ⟨h.pw.pt, h.rd⟩
theorem dt_not {t : TT} {d : B} (h : DT X W io md a t d) : DT X W io md (.UnaryOp .Not a pos) (tNot t) (dTnot d) := ⟨pt_not h.pt, trd_not h.rd⟩
end

/-! ### values of and, or, not, if -/
def dVof (b : B) : E := fun s => (b s).bind fun q => .ok (.v (.bl q.1), q.2)
section
variable {K : PySem.W.Frag} {W : WX} {io : List Nat}
theorem EPost.after {ρ : Nat → V} {d1 d2 : List Nat} {m : Md} {ts ts1 : List T} {σ : L2.St} {H H1 : Hp} {Q : VK} {r : R (D × List D)} (h : EPost K W io ρ m (d1 ++ d2) ts σ H Q r) (st1 : Step H ts H1 ts1) (pu1 : ∀ j, j ∉ d1 → ts1[j]? = ts[j]?) :
    EPost K W io ρ m d2 ts1 σ H1 Q r := by
  cases r with
  | no => exact h
  | ex c fs s => exact fun ts2 H2 d S2 e2 st2 x => h ts2 H2 d S2 e2 (st1.trans st2) x
  | ok q => exact fun ts2 t H2 S2 e2 et ok mr st2 pu2 => h ts2 t H2 S2 e2 et ok mr (st1.trans st2) fun j hj => (pu2 j fun z => hj (List.mem_append_right _ z)).trans (pu1 j fun z => hj (List.mem_append_left _ z))
theorem EPost.wide {ρ : Nat → V} {d1 d2 : List Nat} {m : Md} {ts : List T} {σ : L2.St} {H : Hp} {Q : VK} {r : R (D × List D)} (h : EPost K W io ρ m d2 ts σ H Q r) (hd : ∀ j, j ∈ d1 → j ∈ d2) : EPost K W io ρ m d1 ts σ H Q r := by
  cases r with
  | no => exact h
  | ex c fs s => exact h
  | ok q => exact fun ts2 t H2 S2 e2 et ok mr st2 pu2 => h ts2 t H2 S2 e2 et ok mr st2 fun j hj => pu2 j fun z => hj (hd j z)
theorem trel_v {x : V} {ts : List T} : TRel (.v x) ts := ⟨trivial, fun u _ => ⟨fun a m => (nomatch m), fun a _ m => (nomatch m)⟩⟩
/-- a bool value that a test has given -/
theorem EPost.bool {ρ : Nat → V} {md : List Nat} {ts ts1 : List T} {σ : L2.St} {H H1 : Hp} {Q : VK} {b : Bool} {s : List D} (h : EPost K W io ρ .tmp md ts σ H Q (.ok (.v (.bl b), s))) (S1 : Sim K io ρ ts1 σ H1) (e1 : T.ers ts1 = s) (st1 : Step H ts H1 ts1) (pu1 : ∀ j, j ∉ md → ts1[j]? = ts[j]?) : Q (.bl b) H1 :=
  h ts1 (.v (.bl b)) H1 S1 e1 rfl trivial trel_v st1.consV pu1
def dVand (da db : E) : E := fun s => (da s).bind fun q => match q.1 with
  | .v (.bl true) => db q.2
  | .v (.bl false) => .ok (.v (.bl false), q.2)
  | _ => .no
def dVor (da db : E) : E := fun s => (da s).bind fun q => match q.1 with
  | .v (.bl false) => db q.2
  | .v (.bl true) => .ok (.v (.bl true), q.2)
  | _ => .no
def dVnot (da : E) : E := fun s => (da s).bind fun q => match q.1 with
  | .v (.bl b) => .ok (.v (.bl (!b)), q.2)
  | _ => .no
theorem erd_and {m : Md} {d1 d2 : List Nat} {ta tb : TE} {da db : E} (ha : ERd K W io m d1 ta da) (hb : ERd K W io .tmp d2 tb db) : ERd K W io .tmp (d1 ++ d2) (tAndV ta tb) (dVand da db) := fun ρ ts σ H Q S q => by
  refine ha ρ ts σ H _ S ?_
  unfold dVand at q
  cases ea : da (T.ers ts) with
  | no => rw [ea] at q; exact q
  | ex c fs s => rw [ea] at q; exact q
  | ok p =>
    obtain ⟨x, s⟩ := p
    rw [ea] at q
    intro ts1 t1 H1 S1 e1 et ok1 mr1 st1 pu1
    simp only [R.bind] at q
    split at q
    · have := er_v et; subst this
      refine ⟨true, rfl, ?_⟩
      rw [if_pos rfl]
      exact hb ρ ts1 σ H1 Q S1 (by rw [e1]; exact q.after st1.tail pu1)
    · have := er_v et; subst this
      refine ⟨false, rfl, ?_⟩
      rw [if_neg Bool.false_ne_true]
      exact q.bool S1 e1 st1.tail fun j hj => by rw [List.mem_append, not_or] at hj; exact pu1 j hj.1
    · exact q.elim
theorem erd_or {m : Md} {d1 d2 : List Nat} {ta tb : TE} {da db : E} (ha : ERd K W io m d1 ta da) (hb : ERd K W io .tmp d2 tb db) : ERd K W io .tmp (d1 ++ d2) (tOrV ta tb) (dVor da db) := fun ρ ts σ H Q S q => by
  refine ha ρ ts σ H _ S ?_
  unfold dVor at q
  cases ea : da (T.ers ts) with
  | no => rw [ea] at q; exact q
  | ex c fs s => rw [ea] at q; exact q
  | ok p =>
    obtain ⟨x, s⟩ := p
    rw [ea] at q
    intro ts1 t1 H1 S1 e1 et ok1 mr1 st1 pu1
    simp only [R.bind] at q
    split at q
    · have := er_v et; subst this
      refine ⟨false, rfl, ?_⟩
      rw [if_neg Bool.false_ne_true]
      exact hb ρ ts1 σ H1 Q S1 (by rw [e1]; exact q.after st1.tail pu1)
    · have := er_v et; subst this
      refine ⟨true, rfl, ?_⟩
      rw [if_pos rfl]
      exact q.bool S1 e1 st1.tail fun j hj => by rw [List.mem_append, not_or] at hj; exact pu1 j hj.1
    · exact q.elim
theorem erd_not {m : Md} {d1 : List Nat} {ta : TE} {da : E} (ha : ERd K W io m d1 ta da) : ERd K W io .tmp d1 (tNotV ta) (dVnot da) := fun ρ ts σ H Q S q => by
  refine ha ρ ts σ H _ S ?_
  unfold dVnot at q
  cases ea : da (T.ers ts) with
  | no => rw [ea] at q; exact q
  | ex c fs s => rw [ea] at q; exact q
  | ok p =>
    obtain ⟨x, s⟩ := p
    rw [ea] at q
    intro ts1 t1 H1 S1 e1 et ok1 mr1 st1 pu1
    simp only [R.bind] at q
    split at q
    · rename_i b
      have := er_v et; subst this
      exact ⟨b, rfl, q.bool S1 e1 st1.tail pu1⟩
    · exact q.elim
/-- a view without nodes of its own, as a temporary -/
def dTmp (m : Md) (da : E) : E := fun s => (da s).bind fun q => if (m.isTmp || !q.1.hasOwn) = true then .ok q else .no
theorem erd_tmp {m : Md} {d1 : List Nat} {ta : TE} {da : E} (ha : ERd K W io m d1 ta da) : ERd K W io .tmp d1 ta (dTmp m da) := fun ρ ts σ H Q S q => by
  refine ha ρ ts σ H _ S ?_
  unfold dTmp at q
  cases ea : da (T.ers ts) with
  | no => rw [ea] at q; exact q
  | ex c fs s => rw [ea] at q; exact q
  | ok p =>
    obtain ⟨x, s⟩ := p
    rw [ea] at q
    intro ts1 t1 H1 S1 e1 et ok1 mr1 st1 pu1
    simp only [R.bind] at q
    split at q
    · rename_i hc
      refine q ts1 t1 H1 S1 e1 et ok1 ?_ st1 pu1
      cases m with
      | tmp => exact mr1
      | vw src =>
        have : x.hasOwn = false := by cases z : x.hasOwn with | false => rfl | true => rw [z] at hc; cases hc
        exact mr1.tmp S1.wf (T.own_nil (by rw [et]; exact this))
    · exact q.elim
def dIf (c : B) (da db : E) : E := fun s => (c s).bind fun q => if q.1 = true then da q.2 else db q.2
theorem erd_if {m : Md} {d1 d2 d3 : List Nat} {t : TT} {ta tb : TE} {c : B} {da db : E} (hc : TRd K W io d1 t c) (ha : ERd K W io m d2 ta da) (hb : ERd K W io m d3 tb db) : ERd K W io m (d1 ++ (d2 ++ d3)) (tIf t ta tb) (dIf c da db) := fun ρ ts σ H Q S q => by
  refine hc ρ ts σ H _ S ?_
  unfold dIf at q
  cases ea : c (T.ers ts) with
  | no => rw [ea] at q; exact q
  | ex c fs s => rw [ea] at q; exact q
  | ok p =>
    obtain ⟨x, s⟩ := p
    rw [ea] at q
    intro ts1 H1 S1 e1 st1 pu1
    simp only [R.bind] at q
    cases x with
    | true => rw [if_pos rfl] at q ⊢; exact ha ρ ts1 σ H1 Q S1 (by rw [e1]; exact (q.after st1 pu1).wide fun j hj => List.mem_append_left _ hj)
    | false => rw [if_neg Bool.false_ne_true] at q ⊢; exact hb ρ ts1 σ H1 Q S1 (by rw [e1]; exact (q.after st1 pu1).wide fun j hj => List.mem_append_right _ hj)
end
section
variable {X : Cx} {W : WX} {io : List Nat} {e a b c : Expr} {rest : List Expr} {pos : Pos} {md d1 d2 d3 : List Nat} {m : Md} {op : BoolOp}
theorem de_one1 {t : TE} {d : E} (h : DE X W io m md a t d) : DE X W io .tmp md (.BoolOp op [a] pos) t (dTmp m d) := ⟨pe_one h.pe, erd_tmp h.rd⟩
theorem de_and {ta tb : TE} {da db : E} (ha : DE X W io m d1 a ta da) (hb : DE X W io .tmp d2 (.BoolOp .And (b :: rest) pos) tb db) : DE X W io .tmp (d1 ++ d2) (.BoolOp .And (a :: b :: rest) pos) (tAndV ta tb) (dVand da db) := ⟨pe_and ha.pe hb.pe, erd_and ha.rd hb.rd⟩
theorem de_or {ta tb : TE} {da db : E} (ha : DE X W io m d1 a ta da) (hb : DE X W io .tmp d2 (.BoolOp .Or (b :: rest) pos) tb db) : DE X W io .tmp (d1 ++ d2) (.BoolOp .Or (a :: b :: rest) pos) (tOrV ta tb) (dVor da db) := ⟨pe_or ha.pe hb.pe, erd_or ha.rd hb.rd⟩
theorem de_not {ta : TE} {da : E} (ha : DE X W io m md a ta da) : DE X W io .tmp md (.UnaryOp .Not a pos) (tNotV ta) (dVnot da) := ⟨pe_not ha.pe, erd_not ha.rd⟩
theorem de_if {t : TT} {ta tb : TE} {dc : B} {da db : E} {m1 m2 : Md} (hc : DT X W io d1 c t dc) (ha : DE X W io m1 d2 a ta da) (hb : DE X W io m2 d3 b tb db) :
    DE X W io .tmp (d1 ++ (d2 ++ d3)) (.IfExp c a b pos) (tIf t ta tb) (dIf dc (dTmp m1 da) (dTmp m2 db)) := ⟨pe_ifExp hc.pt ha.pe hb.pe, erd_if hc.rd (erd_tmp ha.rd) (erd_tmp hb.rd)⟩
end
end VS

namespace VS
open PySem PySem.Spec PyProof.Rows L2

/-! ### statements -/
inductive O where
  | nx (s : List D)
  | rt (x : D) (s : List D)
  | bk (s : List D)
  | ct (s : List D)
  | ex (c : Value) (fs : XF) (s : List D)
  | no
abbrev S := List D → O
def RRel (io : List Nat) (t : T) (ts : List T) : Prop := t.good ∧ ∀ i ∈ io, ∀ u, ts[i]? = some u → Dj t u
def SPost (K : PySem.W.Frag) (W : WX) (io : List Nat) (ρ : Nat → V) (md : List Nat) (ts : List T) (H : Hp) (Z : Ends) : O → Prop
  | .nx s => ∀ ts' σ' H', Sim K io ρ ts' σ' H' → T.ers ts' = s → Step H ts H' ts' → (∀ j, j ∉ md → ts'[j]? = ts[j]?) → Z.nx σ' H'
  | .bk s => ∀ ts' σ' H', Sim K io ρ ts' σ' H' → T.ers ts' = s → Step H ts H' ts' → (∀ j, j ∉ md → ts'[j]? = ts[j]?) → Z.bk σ' H'
  | .ct s => ∀ ts' σ' H', Sim K io ρ ts' σ' H' → T.ers ts' = s → Step H ts H' ts' → (∀ j, j ∉ md → ts'[j]? = ts[j]?) → Z.ct σ' H'
  | .rt x s => ∀ ts' σ' t H', Sim K io ρ ts' σ' H' → T.ers ts' = s → t.er = x → t.ok K H' → RRel io t ts' → Step H ts H' (t :: ts') → Z.rt t.rt H'
  | .ex c fs s => ∀ ts' σ' H' d, Sim K io ρ ts' σ' H' → T.ers ts' = s → Step H ts H' ts' → XRel H' d fs → W c d σ' H'
  | .no => False
def SRd (K : PySem.W.Frag) (W : WX) (io : List Nat) (md : List Nat) (t : TS) (d : S) : Prop :=
  ∀ ρ ts σ H Z, Sim K io ρ ts σ H → SPost K W io ρ md ts H Z (d (T.ers ts)) → t Z σ H
structure DS (X : Cx) (W : WX) (io : List Nat) (md : List Nat) (st : Stmt) (t : TS) (d : S) : Prop where
  ps : PS X st t
  rd : SRd X.K W io md t d
structure DSs (X : Cx) (W : WX) (io : List Nat) (md : List Nat) (st : List Stmt) (t : TS) (d : S) : Prop where
  ps : PSs X st t
  rd : SRd X.K W io md t d
def sNx : S := fun s => .nx s
def sBk : S := fun s => .bk s
def sCt : S := fun s => .ct s
def sRtN : S := fun s => .rt (.v .non) s
def sSeq (a b : S) : S := fun s => match a s with
  | .nx s1 => b s1
  | o => o
def sIf (c : B) (a b : S) : S := fun s => match c s with
  | .ok q => if q.1 = true then a q.2 else b q.2
  | .ex c fs s => .ex c fs s
  | .no => .no
def sDrop (d : E) : S := fun s => match d s with
  | .ok q => .nx q.2
  | .ex c fs s => .ex c fs s
  | .no => .no
def sRt (m : Md) (io : List Nat) (d : E) : S := fun s => match d s with
  | .ok q => if (clr m io || !q.1.hasOwn) = true then .rt q.1 q.2 else .no
  | .ex c fs s => .ex c fs s
  | .no => .no
section
variable {K : PySem.W.Frag} {W : WX} {io : List Nat} {ρ : Nat → V}
theorem SPost.after {d1 d2 : List Nat} {ts ts1 : List T} {H H1 : Hp} {Z : Ends} {r : O} (h : SPost K W io ρ (d1 ++ d2) ts H Z r) (st1 : Step H ts H1 ts1) (pu1 : ∀ j, j ∉ d1 → ts1[j]? = ts[j]?) : SPost K W io ρ d2 ts1 H1 Z r := by
  have un : ∀ {ts2 : List T}, (∀ j, j ∉ d2 → ts2[j]? = ts1[j]?) → ∀ j, j ∉ d1 ++ d2 → ts2[j]? = ts[j]? := fun pu2 j hj => (pu2 j fun z => hj (List.mem_append_right _ z)).trans (pu1 j fun z => hj (List.mem_append_left _ z))
  cases r with
  | no => exact h
  | ex c fs s => exact fun ts2 σ2 H2 d S2 e2 st2 x => h ts2 σ2 H2 d S2 e2 (st1.trans st2) x
  | nx s => exact fun ts2 σ2 H2 S2 e2 st2 pu2 => h ts2 σ2 H2 S2 e2 (st1.trans st2) (un pu2)
  | bk s => exact fun ts2 σ2 H2 S2 e2 st2 pu2 => h ts2 σ2 H2 S2 e2 (st1.trans st2) (un pu2)
  | ct s => exact fun ts2 σ2 H2 S2 e2 st2 pu2 => h ts2 σ2 H2 S2 e2 (st1.trans st2) (un pu2)
  | rt x s => exact fun ts2 σ2 t H2 S2 e2 et ok rr st2 => h ts2 σ2 t H2 S2 e2 et ok rr (st1.trans st2)
theorem SPost.wide {d1 d2 : List Nat} {ts : List T} {H : Hp} {Z : Ends} {r : O} (h : SPost K W io ρ d2 ts H Z r) (hd : ∀ j, j ∈ d1 → j ∈ d2) : SPost K W io ρ d1 ts H Z r := by
  have un : ∀ {ts2 : List T}, (∀ j, j ∉ d1 → ts2[j]? = ts[j]?) → ∀ j, j ∉ d2 → ts2[j]? = ts[j]? := fun pu2 j hj => pu2 j fun z => hj (hd j z)
  cases r with
  | no => exact h
  | ex c fs s => exact h
  | nx s => exact fun ts2 σ2 H2 S2 e2 st2 pu2 => h ts2 σ2 H2 S2 e2 st2 (un pu2)
  | bk s => exact fun ts2 σ2 H2 S2 e2 st2 pu2 => h ts2 σ2 H2 S2 e2 st2 (un pu2)
  | ct s => exact fun ts2 σ2 H2 S2 e2 st2 pu2 => h ts2 σ2 H2 S2 e2 st2 (un pu2)
  | rt x s => exact h
theorem srd_nx : SRd K W io [] tNext sNx := fun ρ ts σ H Z S h => h ts σ H S rfl Step.refl fun _ _ => rfl
theorem srd_bk : SRd K W io [] tBreak sBk := fun ρ ts σ H Z S h => h ts σ H S rfl Step.refl fun _ _ => rfl
theorem srd_ct : SRd K W io [] tCont sCt := fun ρ ts σ H Z S h => h ts σ H S rfl Step.refl fun _ _ => rfl
theorem srd_rtN : SRd K W io [] tRetN sRtN := fun ρ ts σ H Z S h => h ts σ (.v .non) H S rfl rfl trivial ⟨trivial, fun i _ u _ => ⟨fun a m => (nomatch m), fun a _ m => (nomatch m)⟩⟩ Step.refl.consV
theorem srd_seq {d1 d2 : List Nat} {t u : TS} {a b : S} (ha : SRd K W io d1 t a) (hb : SRd K W io d2 u b) : SRd K W io (d1 ++ d2) (tSeq t u) (sSeq a b) := fun ρ ts σ H Z S h => by
  refine ha ρ ts σ H _ S ?_
  unfold sSeq at h
  have h1 := h
  cases ea : a (T.ers ts) with
  | nx s =>
    rw [ea] at h
    exact fun ts1 σ1 H1 S1 e1 st1 pu1 => hb ρ ts1 σ1 H1 Z S1 (by rw [e1]; exact h.after st1 pu1)
  | no => rw [ea] at h; exact h
  | ex c fs s => rw [ea] at h; exact h
  | bk s => rw [ea] at h; exact (h.wide (d1 := d1) fun j hj => List.mem_append_left _ hj)
  | ct s => rw [ea] at h; exact (h.wide (d1 := d1) fun j hj => List.mem_append_left _ hj)
  | rt x s => rw [ea] at h; exact h
theorem srd_if {d1 d2 d3 : List Nat} {c : TT} {t u : TS} {dc : B} {a b : S} (hc : TRd K W io d1 c dc) (ha : SRd K W io d2 t a) (hb : SRd K W io d3 u b) : SRd K W io (d1 ++ (d2 ++ d3)) (tIfS c t u) (sIf dc a b) := fun ρ ts σ H Z S h => by
  refine hc ρ ts σ H _ S ?_
  unfold sIf at h
  cases ea : dc (T.ers ts) with
  | no => rw [ea] at h; exact h
  | ex c fs s => rw [ea] at h; exact fun ts1 H1 d S1 e1 st1 x => h ts1 σ H1 d S1 e1 st1 x
  | ok q =>
    obtain ⟨k, s⟩ := q
    rw [ea] at h
    intro ts1 H1 S1 e1 st1 pu1
    cases k with
    | true => rw [if_pos rfl]; simp only [if_true] at h; exact ha ρ ts1 σ H1 Z S1 (by rw [e1]; exact (h.after st1 pu1).wide fun j hj => List.mem_append_left _ hj)
    | false => rw [if_neg Bool.false_ne_true]; simp only [Bool.false_eq_true, if_false] at h; exact hb ρ ts1 σ H1 Z S1 (by rw [e1]; exact (h.after st1 pu1).wide fun j hj => List.mem_append_right _ hj)
theorem srd_drop {m : Md} {d1 : List Nat} {t : TE} {d : E} (hd : ERd K W io m d1 t d) : SRd K W io d1 (tDrop t) (sDrop d) := fun ρ ts σ H Z S h => by
  refine hd ρ ts σ H _ S ?_
  unfold sDrop at h
  cases ea : d (T.ers ts) with
  | no => rw [ea] at h; exact h
  | ex c fs s => rw [ea] at h; exact fun ts1 H1 d S1 e1 st1 x => h ts1 σ H1 d S1 e1 st1 x
  | ok q => rw [ea] at h; exact fun ts1 t1 H1 S1 e1 et ok1 mr1 st1 pu1 => h ts1 σ H1 S1 e1 st1.tail pu1
theorem srd_rt {m : Md} {d1 : List Nat} {t : TE} {d : E} (hd : ERd K W io m d1 t d) : SRd K W io d1 (tRet t) (sRt m io d) := fun ρ ts σ H Z S h => by
  refine hd ρ ts σ H _ S ?_
  unfold sRt at h
  cases ea : d (T.ers ts) with
  | no => rw [ea] at h; exact h
  | ex c fs s => rw [ea] at h; exact fun ts1 H1 d S1 e1 st1 x => h ts1 σ H1 d S1 e1 st1 x
  | ok q =>
    obtain ⟨x, s⟩ := q
    rw [ea] at h
    intro ts1 t1 H1 S1 e1 et ok1 mr1 st1 pu1
    by_cases hc : (clr m io || !x.hasOwn) = true
    · simp only [hc, if_true] at h
      refine h ts1 σ t1 H1 S1 e1 et ok1 ⟨mr1.good S1.wf, fun i mi u eu => ?_⟩ st1
      cases m with
      | tmp => exact mr1.2 u (List.mem_of_getElem? eu)
      | vw src =>
        rcases mr1 with ⟨k, mk, w, ew, sb⟩ | ⟨_, tr⟩
        · by_cases ho : x.hasOwn = false
          · have mr2 : MRel (.vw src) t1 ts1 := .inl ⟨k, mk, w, ew, sb⟩
            exact (mr2.tmp S1.wf (T.own_nil (by rw [et]; exact ho))).2 u (List.mem_of_getElem? eu)
          · have hx : x.hasOwn = true := by cases q : x.hasOwn with | true => rfl | false => exact absurd q ho
            rw [hx, Bool.not_true, Bool.or_false] at hc
            have hk : k ∉ io := by
              have := (List.all_eq_true.mp hc) k mk
              simpa using this
            have ne : k ≠ i := fun z => hk (by rw [z]; exact mi)
            have dj := S1.wf.get ne ew eu
            exact ⟨fun a ma => dj.1 a (sb.col ma), fun a ma z => dj.2 a ma (sb.col z)⟩
        · exact tr.2 u (List.mem_of_getElem? eu)
    · simp only [hc] at h
      exact h.elim
end
section
variable {X : Cx} {W : WX} {io : List Nat} {md d1 d2 d3 : List Nat} {m : Md} {st : Stmt} {rest : List Stmt} {e : Expr} {pos : Pos}
theorem dss_nil : DSs X W io [] [] tNext sNx := ⟨pss_nil, srd_nx⟩
theorem dss_cons {t u : TS} {a b : S} (h1 : DS X W io d1 st t a) (h2 : DSs X W io d2 rest u b) : DSs X W io (d1 ++ d2) (st :: rest) (tSeq t u) (sSeq a b) := ⟨pss_cons h1.ps h2.ps, srd_seq h1.rd h2.rd⟩
theorem dss_one {t : TS} {a : S} (h1 : DS X W io d1 st t a) : DSs X W io d1 [st] t a := ⟨pss_one h1.ps, h1.rd⟩
theorem ds_pass : DS X W io [] (.Pass pos) tNext sNx := ⟨ps_pass, srd_nx⟩
theorem ds_break : DS X W io [] (.Break pos) tBreak sBk := ⟨ps_break, srd_bk⟩
theorem ds_cont : DS X W io [] (.Continue pos) tCont sCt := ⟨ps_continue, srd_ct⟩
theorem ds_rtN : DS X W io [] (.Return none pos) tRetN sRtN := ⟨ps_retN, srd_rtN⟩
theorem ds_rt {t : TE} {d : E} (h : DE X W io m md e t d) : DS X W io md (.Return (some e) pos) (tRet t) (sRt m io d) := ⟨ps_ret h.pe, srd_rt h.rd⟩
theorem ds_expr {t : TE} {d : E} (h : DE X W io m md e t d) (hs : swapsWith e none pos.line X.env = pure false := by rfl) : DS X W io md (.Expr e pos) (tDrop t) (sDrop d) := ⟨ps_expr h.pe hs, srd_drop h.rd⟩
theorem ds_if {c : Expr} {a b : List Stmt} {tc : TT} {t u : TS} {dc : B} {da db : S} (hc : DT X W io d1 c tc dc) (ha : DSs X W io d2 a t da) (hb : DSs X W io d3 b u db) : DS X W io (d1 ++ (d2 ++ d3)) (.If c a b pos) (tIfS tc t u) (sIf dc da db) := ⟨ps_if hc.pt ha.ps hb.ps, srd_if hc.rd ha.rd hb.rd⟩
end

/-! ### targets -/
/-- where the nodes of the slots come from -/
abbrev Gd := D → List D → Option (List D)
def GRd (K : PySem.W.Frag) (io : List Nat) (mg : List Nat) (g : TG) (d : Gd) : Prop :=
  ∀ ρ ts σ H u (Q : L2.St → Hp → Prop), Sim K io ρ ts σ H → u.ok K H → TRel u ts → (∀ s, d u.er (T.ers ts) = some s → ∀ ts' σ', Sim K io ρ ts' σ' H → T.ers ts' = s → Step H (u :: ts) H ts' → (∀ j, j ∉ mg → ts'[j]? = ts[j]?) → (σ'.length = σ.length ∧ ∀ j, j ∉ mg → σ'[j]? = σ[j]?) → Q σ' H) → (d u.er (T.ers ts) ≠ none) → g u.rt σ H Q
theorem ers_set (ts : List T) (i : Nat) (t : T) : T.ers (ts.set i t) = (T.ers ts).set i t.er := by rw [T.ers_map, T.ers_map, List.map_set]
theorem Sim.set {K : PySem.W.Frag} {io : List Nat} {ρ : Nat → V} {ts : List T} {σ : L2.St} {H : Hp} {u : T} {i : Nat} (S : Sim K io ρ ts σ H) (ok : u.ok K H) (tr : TRel u ts) (hi : i ∉ io) : Sim K io ρ (ts.set i u) (σ.set i (some u.rt)) H := by
  refine ⟨by rw [List.length_set, List.length_set]; exact S.len, fun j t e ne => ?_, fun t m => ?_, S.wf.set tr.1 fun j w _ ew => tr.2 w (List.mem_of_getElem? ew), fun j mj => ?_⟩
  · by_cases hj : j = i
    · subst hj
      have hl : j < ts.length := by
        have := (List.getElem?_eq_some_iff.mp e).1
        simpa using this
      rw [List.getElem?_set_self hl] at e
      cases e
      rw [List.getElem?_set_self (by rw [← S.len]; exact hl)]
    · rw [List.getElem?_set_ne (Ne.symm hj)] at e
      rw [List.getElem?_set_ne (Ne.symm hj)]
      exact S.rt j t e ne
  · rcases List.mem_or_eq_of_mem_set m with m | rfl
    · exact S.ok t m
    · exact ok
  · obtain ⟨t, e, ne, r⟩ := S.pin j mj
    have nij : i ≠ j := fun z => hi (by rw [z]; exact mj)
    exact ⟨t, by rw [List.getElem?_set_ne nij]; exact e, ne, r⟩
theorem step_set {H : Hp} {ts : List T} {u : T} {i : Nat} : Step H (u :: ts) H (ts.set i u) :=
  Step.refl.sub fun t m => (List.mem_or_eq_of_mem_set m).elim (fun m => List.mem_cons_of_mem _ m) fun e => by rw [e]; exact List.mem_cons_self
def gdN (i : Nat) : Gd := fun x s => some (s.set i x)
theorem grd_n {K : PySem.W.Frag} {io : List Nat} {i : Nat} (hi : io.contains i = false) : GRd K io [i] (gName i) (gdN i) := fun ρ ts σ H u Q S ok tr h _ => by
  have hi' : i ∉ io := by simpa using hi
  refine h _ rfl (ts.set i u) (σ.set i (some u.rt)) (S.set ok tr hi') (ers_set ts i u) step_set (fun j hj => ?_) ⟨List.length_set, fun j hj => ?_⟩
  · rw [List.getElem?_set_ne (fun z => hj (by rw [z]; simp))]
  · rw [List.getElem?_set_ne (fun z => hj (by rw [z]; simp))]
/-- target = value -/
def sAsg (m : Md) (d : E) (g : Gd) : S := fun s => match d s with
  | .ok q => if (m.isTmp || !q.1.hasOwn) = true then (match g q.1 q.2 with | some s' => .nx s' | none => .no) else .no
  | .ex c fs s => .ex c fs s
  | .no => .no
theorem srd_asg {K : PySem.W.Frag} {W : WX} {io : List Nat} {m : Md} {d1 mg : List Nat} {t : TE} {d : E} {g : TG} {gd : Gd} (hd : ERd K W io m d1 t d) (hg : GRd K io mg g gd) : SRd K W io (d1 ++ mg) (tAsg t g) (sAsg m d gd) := fun ρ ts σ H Z S h => by
  refine hd ρ ts σ H _ S ?_
  unfold sAsg at h
  cases ea : d (T.ers ts) with
  | no => rw [ea] at h; exact h
  | ex c fs s => rw [ea] at h; exact fun ts1 H1 d S1 e1 st1 x => h ts1 σ H1 d S1 e1 st1 x
  | ok q =>
    obtain ⟨x, s⟩ := q
    rw [ea] at h
    intro ts1 t1 H1 S1 e1 et ok1 mr1 st1 pu1
    by_cases hc : (m.isTmp || !x.hasOwn) = true
    · simp only [hc, if_true] at h
      have tr : TRel t1 ts1 := by
        cases m with
        | tmp => exact mr1
        | vw src =>
          have : x.hasOwn = false := by cases z : x.hasOwn with | false => rfl | true => rw [z] at hc; cases hc
          exact mr1.tmp S1.wf (T.own_nil (by rw [et]; exact this))
      refine hg ρ ts1 σ H1 t1 _ S1 ok1 tr (fun s' es ts2 σ2 S2 e2 st2 pu2 _ => ?_) (fun z => ?_)
      · rw [et, e1] at es
        rw [es] at h
        exact h ts2 σ2 H1 S2 e2 (st1.trans st2) fun j hj => (pu2 j fun z => hj (List.mem_append_right _ z)).trans (pu1 j fun z => hj (List.mem_append_left _ z))
      · rw [et, e1] at z
        rw [z] at h
        exact h
    · simp only [hc] at h
      exact h.elim
section
variable {X : Cx} {W : WX} {io : List Nat} {md mg : List Nat} {m : Md} {e tg : Expr} {pos : Pos}
structure DG (X : Cx) (io : List Nat) (mg : List Nat) (tg : Expr) (g : TG) (d : Gd) : Prop where
  pg : PG X tg g
  rd : GRd X.K io mg g d
theorem dg_n (i : Nat) {x : Str} {pos : Pos} (hN : X.N.Nodup) (hi : X.N[i]? = some x := by rfl) (hx : Loc X.env.scope x := by first | exact Or.inl rfl | exact Or.inr rfl)
    (hf : X.fn x = true ∨ X.env.scope.names.lookup x = some .local := by first | exact .inl rfl | exact .inr rfl) (hio : io.contains i = false := by rfl) : DG X io [i] (.Name x pos) (gName i) (gdN i) := ⟨pg_name hN hi hx hf, grd_n hio⟩
theorem ds_asg {te : TE} {d : E} {g : TG} {gd : Gd} (he : DE X W io m md e te d) (hg : DG X io mg tg g gd) (hs : swapsWithSole [tg] e pos.line X.env = pure false := by rfl) (hw : swappedStores [tg] e X.env = pure none := by rfl)
    (h1 : (assignEach [tg] X.env).map (·.2) = [assign tg X.env] := by rfl) : DS X W io (md ++ mg) (.Assign [tg] e pos) (tAsg te g) (sAsg m d gd) := ⟨ps_asg he.pe hg.pg hs hw h1, srd_asg he.rd hg.rd⟩
end
end VS

namespace VS
open PySem PySem.Spec PyProof.Rows L2

/-! ### several names at once -/
def gNames : List Nat → TGs
  | [] => gNil
  | i :: r => gCons (gName i) (gNames r)
def setAll : List Nat → List D → List D → List D
  | i :: r, x :: xs, s => setAll r xs (s.set i x)
  | _, _, s => s
def gdT (is : List Nat) : Gd := fun x s => match x with
  | .nd .tup xs => if xs.length = is.length then some (setAll is xs s) else none
  | _ => none
theorem gNames_rd {K : PySem.W.Frag} {io : List Nat} {ρ : Nat → V} {H : Hp} {A : List T} : ∀ (is : List Nat) (us ts : List T) (σ : L2.St) (Q : L2.St → Hp → Prop), (∀ i ∈ is, i ∉ io) → us.length = is.length → Sim K io ρ ts σ H → (∀ u ∈ us, u.ok K H) → WF us → (∀ u ∈ us, ∀ w ∈ ts, Dj u w) →
    Step H A H (us ++ ts) → (∀ ts' σ', Sim K io ρ ts' σ' H → T.ers ts' = setAll is (T.ers us) (T.ers ts) → Step H A H ts' → (∀ j, j ∉ is → ts'[j]? = ts[j]?) → (σ'.length = σ.length ∧ ∀ j, j ∉ is → σ'[j]? = σ[j]?) → Q σ' H) → gNames is (T.rts us) σ H Q
  | [], [], ts, σ, Q, _, _, S, _, _, _, st, h => ⟨rfl, h ts σ S rfl st (fun _ _ => rfl) ⟨rfl, fun _ _ => rfl⟩⟩
  | i :: r, u :: us, ts, σ, Q, hi, hl, S, ok, wf, dj, st, h => by
    refine ⟨u.rt, T.rts us, rfl, ?_⟩
    have tr : TRel u ts := ⟨wf.head.1, dj u List.mem_cons_self⟩
    have S1 := S.set (ok u List.mem_cons_self) tr (hi i List.mem_cons_self)
    have sub : ∀ w ∈ us ++ ts.set i u, w ∈ u :: us ++ ts := fun w m => by
      rcases List.mem_append.mp m with m | m
      · exact List.mem_append_left _ (List.mem_cons_of_mem _ m)
      · rcases List.mem_or_eq_of_mem_set m with m | m
        · exact List.mem_append_right _ m
        · rw [m]; exact List.mem_append_left _ List.mem_cons_self
    refine gNames_rd r us (ts.set i u) _ Q (fun j m => hi j (List.mem_cons_of_mem _ m)) (by simpa using hl) S1 (fun w m => ok w (List.mem_cons_of_mem _ m)) wf.head.2.2 (fun w mw z mz => ?_) (st.sub sub) fun ts' σ' S' e' st' pu' ps' => ?_
    · rcases List.mem_or_eq_of_mem_set mz with mz | rfl
      · exact dj w (List.mem_cons_of_mem _ mw) z mz
      · exact (wf.head.2.1 w mw).symm
    · refine h ts' σ' S' (by rw [e', ers_set]; rfl) st' (fun j hj => ?_) ⟨by rw [ps'.1, List.length_set], fun j hj => ?_⟩
      · rw [List.mem_cons, not_or] at hj
        rw [pu' j hj.2, List.getElem?_set_ne (Ne.symm hj.1)]
      · rw [List.mem_cons, not_or] at hj
        rw [ps'.2 j hj.2, List.getElem?_set_ne (Ne.symm hj.1)]
  | [], _ :: _, _, _, _, _, hl, _, _, _, _, _, _ => by cases hl
  | _ :: _, [], _, _, _, _, hl, _, _, _, _, _, _ => by cases hl
theorem node_parts {a : Addr} {xs : List T} {ts : List T} (tr : TRel (.nd a .tup xs) ts) : WF xs ∧ ∀ u ∈ xs, ∀ w ∈ ts, Dj u w := by
  have g := tr.1
  rw [T.good] at g
  refine ⟨g.2.2, fun u mu w mw => ?_⟩
  have d := tr.2 w mw
  exact ⟨fun z mz => d.1 z (T.mem_col.mpr (.inr ⟨u, mu, mz⟩)), fun z mz q => d.2 z mz (T.mem_col.mpr (.inr ⟨u, mu, q⟩))⟩
theorem grd_t {K : PySem.W.Frag} {io : List Nat} {is : List Nat} (hi : (is.all fun i => !io.contains i) = true) : GRd K io is (gTup K is.length (gNames is)) (gdT is) := fun ρ ts σ H u Q S ok tr h hn => by
  unfold gdT at h hn
  split at hn
  · rename_i xs e
    obtain ⟨a, us, rfl, e2⟩ := er_nd e
    by_cases hl : xs.length = is.length
    · rw [T.er] at h
      simp only [e2, hl, if_true] at h
      have hul : us.length = is.length := by rw [← hl, ← e2, ers_len]
      obtain ⟨wf, dj⟩ := node_parts tr
      have up : ∀ {p : NK → Bool} {u' : T} {z : Addr}, u' ∈ us → z ∈ u'.col p → z ∈ (T.nd a .tup us).col p := fun mu mz => T.mem_col.mpr (.inr ⟨_, mu, mz⟩)
      have st : Step H (.nd a .tup us :: ts) H (us ++ ts) := ⟨fun _ _ e _ => e, fun _ e => e, fun w m z mz => .inl ((List.mem_append.mp m).elim (fun m => ⟨_, List.mem_cons_self, up m mz⟩) fun m => ⟨w, List.mem_cons_of_mem _ m, mz⟩),
        fun w m z mz => .inl ((List.mem_append.mp m).elim (fun m => ⟨_, List.mem_cons_self, up m mz⟩) fun m => ⟨w, List.mem_cons_of_mem _ m, mz⟩), fun w m z mz => .inl ((List.mem_append.mp m).elim (fun m => ⟨_, List.mem_cons_self, up m mz⟩) fun m => ⟨w, List.mem_cons_of_mem _ m, mz⟩)⟩
      refine ⟨a, T.rts us, rfl, ok.sqT, by rw [rts_len]; exact hul, gNames_rd (A := .nd a .tup us :: ts) is us ts σ Q (fun i m => ?_) hul S (fun w m => ok.child m) wf dj st fun ts' σ' S' e' st' pu' ps' => h _ rfl ts' σ' S' (by rw [e', e2]) st' pu' ps'⟩
      have := List.all_eq_true.mp hi i m
      simpa using this
    · rw [if_neg hl] at hn; exact absurd rfl hn
  · exact absurd rfl hn

/-! ### what is walked -/
/-- the walk J, over the thing t, gives xs -/
structure Yl (K : PySem.W.Frag) (J : It) (t : T) (xs : List D) : Prop where
  go : ∀ H, t.ok K H → ∀ (i : Nat) (d : D), xs[i]? = some d → J.go i H
  yld : ∀ H, t.ok K H → ∀ (i : Nat) (d : D), xs[i]? = some d → ∀ x H', J.yld i H x H' → ∃ u : T, u.er = d ∧ u.rt = x ∧ u.ok K H' ∧ Same H H' ∧ (u.own = [] → ∀ a ∈ u.trk, a ∈ t.trk ∧ (t.good → a ∉ t.own)) ∧ ∀ a ∈ u.imm, a ∈ t.imm
  stop : ∀ H, t.ok K H → J.stop xs.length H
abbrev I := List D → R ((D × List D) × List D)
def IPost (K : PySem.W.Frag) (W : WX) (io : List Nat) (ρ : Nat → V) (m : Md) (md : List Nat) (ts : List T) (σ : L2.St) (H : Hp) (Q : It → Hp → Prop) : R ((D × List D) × List D) → Prop
  | .ok ((w, xs), s) => ∀ ts' t H' J, Sim K io ρ ts' σ H' → T.ers ts' = s → t.er = w → t.ok K H' → MRel m t ts' → Step H ts H' (t :: ts') → (∀ j, j ∉ md → ts'[j]? = ts[j]?) → Yl K J t xs → Q J H'
  | .ex c fs s => ∀ ts' H' d, Sim K io ρ ts' σ H' → T.ers ts' = s → Step H ts H' ts' → XRel H' d fs → W c d σ H'
  | .no => False
def IRd (K : PySem.W.Frag) (W : WX) (io : List Nat) (m : Md) (md : List Nat) (t : TI) (d : I) : Prop :=
  ∀ ρ ts σ H Q, Sim K io ρ ts σ H → IPost K W io ρ m md ts σ H Q (d (T.ers ts)) → t σ H Q
structure DI (X : Cx) (W : WX) (io : List Nat) (m : Md) (md : List Nat) (tg e : Expr) (t : TI) (d : I) : Prop where
  pi : PI X tg e t
  rd : IRd X.K W io m md t d
/-- a list, a tuple, a text, walked -/
def D.items : D → Option (List D)
  | .nd .tup xs => some xs
  | .nd .scr xs => some xs
  | .nd (.lst _) xs => some xs
  | .v (.str z) => some (z.cps.toList.map fun c => .v (.str ⟨#[c]⟩))
  | _ => none
def dIt (d : E) : I := fun s => (d s).bind fun q => match q.1.items with
  | some xs => .ok ((q.1, xs), q.2)
  | none => .no

def iAny (K : PySem.W.Frag) (te : TE) : TI := fun σ H R => te σ H fun x H1 => (∃ a, x = .ref a ∧ (∃ xs, SqL K H1 a xs) ∧ R (Itl K a) H1) ∨ (∃ a, x = .ref a ∧ (∃ xs, SqT K H1 a xs) ∧ R (Itt K a) H1) ∨ ∃ z, x = .str z ∧ R (Its z) H1
theorem pi_any {X : Cx} {tg e : Expr} {te : TE} (he : PE X e te) : PI X tg e (iAny X.K te) := by
  refine ⟨fun pins s σ H R I0 h => thn (he.run pins s σ H _ I0 h) fun v s1 ⟨x, H1, I1, rx, w⟩ => ?_⟩
  rcases w with ⟨a, ex, ⟨xs, hs⟩, q⟩ | ⟨a, ex, ⟨xs, hs⟩, q⟩ | ⟨z, ex, q⟩
  · subst ex; cases rx
    obtain ⟨its, _, pl, _⟩ := I1.list hs
    exact wpAny_pyIter_list pl.isList (pi_one (tk := s1.toks) I1 _ (turn_list a _) ⟨_, Heap.get?_push_size _ rfl, rfl, rfl⟩ q)
  · subst ex; cases rx
    obtain ⟨its, _, pl, _⟩ := I1.tuple hs
    exact wpAny_pyIter_tuple (show s1.heap.IsTuple a its.toArray from pl) (pi_one (tk := s1.toks) I1 _ (turn_tuple a _) ⟨_, Heap.get?_push_size _ rfl, rfl, rfl⟩ q)
  · subst ex
    obtain ⟨t, et⟩ := rx
    subst et
    cases hw : z.cps.all (· < 128)
    · exact wpAny_pyIter_wide hw (pi_one (tk := s1.toks) I1 _ (turn_str _ z t "str_iterator" (.inr rfl)) ⟨_, Heap.get?_push_size _ rfl, rfl, rfl⟩ q)
    · exact wpAny_pyIter_ascii hw (pi_one (tk := s1.toks) I1 _ (turn_str _ z t "str_ascii_iterator" (.inl rfl)) ⟨_, Heap.get?_push_size _ rfl, rfl, rfl⟩ q)
theorem rts_get {us : List T} {i : Nat} {d : D} (h : (T.ers us)[i]? = some d) : ∃ u, us[i]? = some u ∧ u.er = d ∧ (T.rts us)[i]? = some u.rt := by
  obtain ⟨u, e1, e2⟩ := ers_get h
  exact ⟨u, e1, e2, by rw [T.rts_map, List.getElem?_map, e1]; rfl⟩
theorem kid {a : Addr} {k : NK} {us : List T} {u : T} (m : u ∈ us) : (u.own = [] → ∀ z ∈ u.trk, z ∈ (T.nd a k us).trk ∧ ((T.nd a k us).good → z ∉ (T.nd a k us).own)) ∧ ∀ z ∈ u.imm, z ∈ (T.nd a k us).imm :=
  ⟨fun ho z mz => ⟨T.mem_col.mpr (.inr ⟨u, m, mz⟩), fun g => ((Sub0.child g m ho).tr z mz).2⟩, fun z mz => T.mem_col.mpr (.inr ⟨u, m, mz⟩)⟩
theorem yl_list {K : PySem.W.Frag} {a : Addr} {k : NK} {us : List T} (h : ∀ H, (T.nd a k us).ok K H → SqL K H a (T.rts us)) : Yl K (Itl K a) (.nd a k us) (T.ers us) := by
  refine ⟨fun H ok i d e => ?_, fun H ok i d e x H' y => ?_, fun H ok => ⟨_, h H ok, by rw [rts_len, ers_len]; exact Nat.le_refl _⟩⟩
  · obtain ⟨u, e1, e2, e3⟩ := rts_get e
    exact ⟨_, _, h H ok, e3⟩
  · obtain ⟨u, e1, e2, e3⟩ := rts_get e
    obtain ⟨rfl, f⟩ := y
    have ex : x = u.rt := Option.some.inj ((f _ (h H' ok)).symm.trans e3)
    have m := List.mem_of_getElem? e1
    exact ⟨u, e2, ex.symm, ok.child m, Same.refl _, (kid m).1, (kid m).2⟩
theorem yl_tup {K : PySem.W.Frag} {a : Addr} {us : List T} : Yl K (Itt K a) (.nd a .tup us) (T.ers us) := by
  refine ⟨fun H ok i d e => ?_, fun H ok i d e x H' y => ?_, fun H ok => ⟨_, ok.sqT, by rw [rts_len, ers_len]; exact Nat.le_refl _⟩⟩
  · obtain ⟨u, e1, e2, e3⟩ := rts_get e
    exact ⟨_, _, ok.sqT, e3⟩
  · obtain ⟨u, e1, e2, e3⟩ := rts_get e
    obtain ⟨rfl, f⟩ := y
    have ex : x = u.rt := Option.some.inj ((f _ ok.sqT).symm.trans e3)
    have m := List.mem_of_getElem? e1
    exact ⟨u, e2, ex.symm, ok.child m, Same.refl _, (kid m).1, (kid m).2⟩
theorem yl_str {K : PySem.W.Frag} {z : Str} : Yl K (Its z) (.v (.str z)) (z.cps.toList.map fun c => .v (.str ⟨#[c]⟩)) := by
  refine ⟨fun H ok i d e => ?_, fun H ok i d e x H' y => ?_, fun H ok => by show z.cps.size ≤ _; simp⟩
  · have := (List.getElem?_eq_some_iff.mp e).1
    show i < z.cps.size
    simpa using this
  · obtain ⟨rfl, c, hc, rfl⟩ := y
    rw [List.getElem?_map, Array.getElem?_toList, hc] at e
    cases e
    exact ⟨.v _, rfl, rfl, trivial, Same.refl _, fun _ _ m => (nomatch m), fun _ m => (nomatch m)⟩
theorem yl_rng {K : PySem.W.Frag} {lo : Int} {n : Nat} {t : T} : Yl K (Itr lo n) t ((List.range n).map fun (i : Nat) => D.int (lo + i)) := by
  refine ⟨fun H ok i d e => ?_, fun H ok i d e x H' y => ?_, fun H ok => by show n ≤ _; simp⟩
  · have := (List.getElem?_eq_some_iff.mp e).1
    show i < n
    simpa using this
  · obtain ⟨rfl, rfl⟩ := y
    have hi := (List.getElem?_eq_some_iff.mp e).1
    rw [List.length_map, List.length_range] at hi
    rw [List.getElem?_map, List.getElem?_range hi] at e
    cases e
    exact ⟨.v _, rfl, rfl, trivial, Same.refl _, fun _ _ m => (nomatch m), fun _ m => (nomatch m)⟩
section
variable {K : PySem.W.Frag} {W : WX} {io : List Nat}
theorem ird_any {m : Md} {md : List Nat} {t : TE} {d : E} (h : ERd K W io m md t d) : IRd K W io m md (iAny K t) (dIt d) := fun ρ ts σ H Q S q => by
  refine h ρ ts σ H _ S ?_
  unfold dIt at q
  cases ea : d (T.ers ts) with
  | no => rw [ea] at q; exact q
  | ex c fs s => rw [ea] at q; exact q
  | ok p =>
    obtain ⟨x, s⟩ := p
    rw [ea] at q
    intro ts1 t1 H1 S1 e1 et ok1 mr1 st1 pu1
    simp only [R.bind] at q
    cases eb : x.items with
    | none => rw [eb] at q; exact q.elim
    | some xs =>
      rw [eb] at q
      have go := fun J => q ts1 t1 H1 J S1 e1 et ok1 mr1 st1 pu1
      unfold D.items at eb
      split at eb
      · obtain ⟨a, us, rfl, e2⟩ := er_nd et
        cases eb
        exact .inr (.inl ⟨a, rfl, ⟨_, ok1.sqT⟩, go _ (by rw [← e2]; exact yl_tup)⟩)
      · obtain ⟨a, us, rfl, e2⟩ := er_nd et
        cases eb
        exact .inl ⟨a, rfl, ⟨_, ok1.sqS⟩, go _ (by rw [← e2]; exact yl_list fun H ok => ok.sqS)⟩
      · obtain ⟨a, us, rfl, e2⟩ := er_nd et
        cases eb
        exact .inl ⟨a, rfl, ⟨_, ok1.sqL⟩, go _ (by rw [← e2]; exact yl_list fun H ok => ok.sqL)⟩
      · have := er_v et; subst this
        cases eb
        exact .inr (.inr ⟨_, rfl, go _ yl_str⟩)
      · cases eb
/-- ranges -/
def dRg1 (d : EA) : I := fun s => (d s).bind fun q => match q.1 with
  | [.v (.int j)] => if j.natAbs < 4000000000000000000 then .ok ((.v .non, (List.range j.toNat).map fun (i : Nat) => D.int (0 + i)), q.2) else .no
  | _ => .no
def dRg2 (d : EA) : I := fun s => (d s).bind fun q => match q.1 with
  | [.v (.int i), .v (.int j)] => if i.natAbs < 4000000000000000000 ∧ j.natAbs < 4000000000000000000 then .ok ((.v .non, (List.range (j - i).toNat).map fun (k : Nat) => D.int (i + k)), q.2) else .no
  | _ => .no
theorem step_drop {H H' : Hp} {A us B : List T} (st : Step H A H' (us ++ B)) : Step H A H' B := st.sub fun _ m => List.mem_append_right _ m
theorem ird_rg1 {ms : List Md} {md : List Nat} {t : TA} {d : EA} (h : ARd K W io ms md t d) : IRd K W io .tmp md (iRng1 t) (dRg1 d) := fun ρ ts σ H Q S q => by
  refine h ρ ts σ H _ S ?_
  unfold dRg1 at q
  cases ea : d (T.ers ts) with
  | no => rw [ea] at q; exact q
  | ex c fs s => rw [ea] at q; exact q
  | ok p =>
    obtain ⟨xs, s⟩ := p
    rw [ea] at q
    intro ts1 us H1 S1 e1 eu ok1 ar1 st1 pu1
    simp only [R.bind] at q
    split at q
    · obtain ⟨u, r, rfl, e2, e3⟩ := ers_cons eu
      have := er_v e2; subst this
      have := ers_nil e3; subst this
      split at q
      · rename_i hb
        exact ⟨_, rfl, by omega, by omega, q ts1 (.v .non) H1 _ S1 e1 rfl trivial trel_v (step_drop st1).consV pu1 yl_rng⟩
      · exact q.elim
    · exact q.elim
theorem ird_rg2 {ms : List Md} {md : List Nat} {t : TA} {d : EA} (h : ARd K W io ms md t d) : IRd K W io .tmp md (iRng2 t) (dRg2 d) := fun ρ ts σ H Q S q => by
  refine h ρ ts σ H _ S ?_
  unfold dRg2 at q
  cases ea : d (T.ers ts) with
  | no => rw [ea] at q; exact q
  | ex c fs s => rw [ea] at q; exact q
  | ok p =>
    obtain ⟨xs, s⟩ := p
    rw [ea] at q
    intro ts1 us H1 S1 e1 eu ok1 ar1 st1 pu1
    simp only [R.bind] at q
    split at q
    · obtain ⟨u, r, rfl, e2, e3⟩ := ers_cons eu
      have := er_v e2; subst this
      obtain ⟨u, r, rfl, e4, e5⟩ := ers_cons e3
      have := er_v e4; subst this
      have := ers_nil e5; subst this
      split at q
      · rename_i hb
        exact ⟨_, _, rfl, ⟨by omega, by omega, by omega, by omega⟩, q ts1 (.v .non) H1 _ S1 e1 rfl trivial trel_v (step_drop st1).consV pu1 yl_rng⟩
      · exact q.elim
    · exact q.elim
end

/-! ### for -/
def forL (g : Gd) (body : S) : List D → List D → O
  | [], s => .nx s
  | x :: r, s => match g x s with
    | none => .no
    | some s1 => match body s1 with
      | .nx s2 => forL g body r s2
      | .ct s2 => forL g body r s2
      | .bk s2 => .nx s2
      | .rt x s2 => .rt x s2
      | .ex c fs s2 => .ex c fs s2
      | .no => .no
def sFor (m : Md) (mb : List Nat) (it : I) (g : Gd) (body : S) : S := fun s => match it s with
  | .ok q => if ((clr m mb || !q.1.1.hasOwn) && !D.hass NK.isOwn q.1.2) = true then forL g body q.1.2 q.2 else .no
  | .ex c fs s => .ex c fs s
  | .no => .no
/-- a thing held while the slots at mb may change -/
structure Hold (K : PySem.W.Frag) (m : Md) (mb : List Nat) (t : T) (ts : List T) (H : Hp) : Prop where
  ok : t.ok K H
  rel : TRel t ts ∨ ∃ i u, ts[i]? = some u ∧ Sbt t u ∧ i ∉ mb
theorem Hold.of {K : PySem.W.Frag} {m : Md} {mb : List Nat} {t : T} {ts : List T} {H : Hp} (ok : t.ok K H) (mr : MRel m t ts) (wf : WF ts) (h : (clr m mb || !t.er.hasOwn) = true) : Hold K m mb t ts H := by
  refine ⟨ok, ?_⟩
  by_cases ho : t.er.hasOwn = false
  · exact .inl (mr.tmp wf (T.own_nil ho))
  · have hx : t.er.hasOwn = true := by cases q : t.er.hasOwn with | true => rfl | false => exact absurd q ho
    rw [hx, Bool.not_true, Bool.or_false] at h
    cases m with
    | tmp => exact .inl mr
    | vw src =>
      rcases mr with ⟨i, mi, u, eu, sb⟩ | ⟨_, tr⟩
      · refine .inr ⟨i, u, eu, sb, ?_⟩
        have := List.all_eq_true.mp h i mi
        simpa using this
      · exact .inl tr
theorem Hold.step {K : PySem.W.Frag} {m : Md} {mb : List Nat} {t : T} {ts ts' : List T} {H H' : Hp} (h : Hold K m mb t ts H) (okA : ∀ u ∈ ts, u.ok K H) (okB : ∀ u ∈ ts', u.ok K H') (st : Step H ts H' ts') (pu : ∀ j, j ∉ mb → ts'[j]? = ts[j]?) : Hold K m mb t ts' H' := by
  rcases h.rel with tr | ⟨i, u, eu, sb, hi⟩
  · exact ⟨keepT h.ok okA st fun u mu a ma => (tr.2 u mu).2 a ma, .inl ⟨tr.1, djStep h.ok tr.2 st⟩⟩
  · have eu' := (pu i hi).trans eu
    exact ⟨sb.ok (okB u (List.mem_of_getElem? eu')), .inr ⟨i, u, eu', sb, hi⟩⟩
/-- what the slots own is not among the rest of a held thing's nodes -/
theorem Hold.apart {K : PySem.W.Frag} {m : Md} {mb : List Nat} {t : T} {ts : List T} {H : Hp} (h : Hold K m mb t ts H) (wf : WF ts) : t.good ∧ ∀ u ∈ ts, ∀ a ∈ u.own, a ∉ t.own → a ∉ t.trk := by
  rcases h.rel with tr | ⟨i, u, eu, sb, _⟩
  · exact ⟨tr.1, fun u mu a ma _ => (tr.2 u mu).2 a ma⟩
  · have mr : MRel (.vw [i]) t ts := .inl ⟨i, by simp, u, eu, sb⟩
    exact ⟨mr.good wf, mr.own wf⟩
theorem Hold.trk {K : PySem.W.Frag} {m : Md} {mb : List Nat} {t : T} {ts : List T} {H : Hp} (h : Hold K m mb t ts H) {a : Addr} (ha : a ∈ t.trk) : ∃ o, H a = some o := T.trk_s h.ok ha
theorem hass_get {xs : List D} (h : D.hass NK.isOwn xs = false) {i : Nat} {d : D} (e : xs[i]? = some d) : d.hasOwn = false := by
  rw [D.hass_any] at h
  have := List.any_eq_false.mp h d (List.mem_of_getElem? e)
  simpa using this
/-- a turn's thing, ready to be stored -/
theorem turn_item {K : PySem.W.Frag} {io : List Nat} {ρ : Nat → V} {m : Md} {mb : List Nat} {t u : T} {ts : List T} {σ : L2.St} {H H' : Hp} (h : Hold K m mb t ts H) (S : Sim K io ρ ts σ H) (uo : u.own = []) (ok : u.ok K H') (sm : Same H H')
    (ht : ∀ a ∈ u.trk, a ∈ t.trk ∧ (t.good → a ∉ t.own)) : Sim K io ρ ts σ H' ∧ TRel u ts ∧ Hold K m mb t ts H' := by
  obtain ⟨g, ap⟩ := h.apart S.wf
  refine ⟨⟨S.len, S.rt, fun w mw => T.ok_same (S.ok w mw) sm, S.wf, S.pin⟩, ⟨T.good_of uo, fun w mw => ⟨fun a ma => (by rw [uo] at ma; cases ma), fun a ma z => ?_⟩⟩, T.ok_same h.ok sm, h.rel⟩
  obtain ⟨q1, q2⟩ := ht a z
  exact ap w mw a ma (q2 g) q1
end VS

namespace VS
open PySem PySem.Spec PyProof.Rows L2

theorem Hold.store {K : PySem.W.Frag} {m : Md} {mb : List Nat} {t u : T} {ts ts' : List T} {H : Hp} (h : Hold K m mb t ts H) (uo : u.own = []) (ut : ∀ a ∈ u.trk, a ∉ t.own) (okB : ∀ w ∈ ts', w.ok K H) (st : Step H (u :: ts) H ts') (pu : ∀ j, j ∉ mb → ts'[j]? = ts[j]?) : Hold K m mb t ts' H := by
  rcases h.rel with tr | ⟨i, w, ew, sb, hi⟩
  · refine ⟨h.ok, .inl ⟨tr.1, djStep h.ok (A := u :: ts) (fun w mw => ?_) st⟩⟩
    rcases List.mem_cons.mp mw with rfl | mw
    · exact ⟨fun a ma z => ut a z ma, fun a ma => (by rw [uo] at ma; cases ma)⟩
    · exact tr.2 w mw
  · exact ⟨h.ok, .inr ⟨i, w, (pu i hi).trans ew, sb, hi⟩⟩
/-- the slots behind a turn's store, the held thing beside them -/
theorem step_store {H0 H H' : Hp} {A ts ts' : List T} {t u : T} (st : Step H0 A H (t :: ts)) (sm : Same H H') (uo : u.own = []) (ut : ∀ a ∈ u.trk, a ∈ t.trk) (ui : ∀ a ∈ u.imm, a ∈ t.imm) (s2 : Step H' (u :: ts) H' ts') : Step H0 A H' (t :: ts') := by
  have s1 : Step H0 A H' (t :: ts) := ⟨fun b o e n => sm b o (st.fr b o e n), fun b e => st.al b (sm.free e), st.ow, st.tr, st.im⟩
  refine ⟨s1.fr, s1.al, fun w mw a ma => ?_, fun w mw a ma => ?_, fun w mw a ma => ?_⟩
  · rcases List.mem_cons.mp mw with rfl | mw
    · exact s1.ow _ List.mem_cons_self a ma
    · rcases s2.ow w mw a ma with ⟨z, mz, za⟩ | q
      · rcases List.mem_cons.mp mz with rfl | mz
        · rw [uo] at za; cases za
        · exact s1.ow z (List.mem_cons_of_mem _ mz) a za
      · exact .inr (s1.al a q)
  · rcases List.mem_cons.mp mw with rfl | mw
    · exact s1.tr _ List.mem_cons_self a ma
    · rcases s2.tr w mw a ma with ⟨z, mz, za⟩ | q
      · rcases List.mem_cons.mp mz with rfl | mz
        · exact s1.tr t List.mem_cons_self a (ut a za)
        · exact s1.tr z (List.mem_cons_of_mem _ mz) a za
      · exact .inr (s1.al a q)
  · rcases List.mem_cons.mp mw with rfl | mw
    · exact s1.im _ List.mem_cons_self a ma
    · rcases s2.im w mw a ma with ⟨z, mz, za⟩ | q
      · rcases List.mem_cons.mp mz with rfl | mz
        · exact s1.im t List.mem_cons_self a (ui a za)
        · exact s1.im z (List.mem_cons_of_mem _ mz) a za
      · exact .inr (s1.al a q)
/-- a held thing beside the slots that step on -/
theorem step_beside {H0 H H' : Hp} {A ts ts' : List T} {t : T} (st : Step H0 A H (t :: ts)) (s2 : Step H ts H' ts') : Step H0 A H' (t :: ts') :=
  (st.tail.trans s2).cons (st.ow t List.mem_cons_self) (st.tr t List.mem_cons_self) (st.im t List.mem_cons_self)
theorem drop_get {α : Type} {xs : List α} {i : Nat} (h : i < xs.length) : xs.drop i = xs[i] :: xs.drop (i + 1) := by
  rw [List.drop_eq_getElem_cons h]
section
variable {K : PySem.W.Frag} {W : WX} {io : List Nat}
theorem srd_for {m : Md} {mi mg mb : List Nat} {ti : TI} {g : TG} {tb : TS} {it : I} {gd : Gd} {body : S} (hi : IRd K W io m mi ti it) (hg : GRd K io mg g gd) (hb : SRd K W io mb tb body) :
    SRd K W io (mi ++ (mg ++ mb)) (tFor ti g tb) (sFor m (mg ++ mb) it gd body) := fun ρ ts σ H Z S h => by
  refine hi ρ ts σ H _ S ?_
  unfold sFor at h
  cases ea : it (T.ers ts) with
  | no => rw [ea] at h; exact h
  | ex c fs s => rw [ea] at h; exact fun ts1 H1 d S1 e1 st1 x => h ts1 σ H1 d S1 e1 st1 x
  | ok q =>
    obtain ⟨⟨w, xs⟩, s⟩ := q
    rw [ea] at h
    intro ts1 t H1 J S1 e1 et ok1 mr1 st1 pu1 yl
    by_cases hc : ((clr m (mg ++ mb) || !w.hasOwn) && !D.hass NK.isOwn xs) = true
    · simp only [hc, if_true] at h
      rw [Bool.and_eq_true] at hc
      have hxs : D.hass NK.isOwn xs = false := by
        cases q : D.hass NK.isOwn xs with
        | false => rfl
        | true => rw [q] at hc; cases hc.2
      have hold1 : Hold K m (mg ++ mb) t ts1 H1 := Hold.of ok1 mr1 S1.wf (by rw [et]; exact hc.1)
      refine ⟨fun i n σ2 H2 => n = xs.length - i ∧ i ≤ xs.length ∧ ∃ ts2, Sim K io ρ ts2 σ2 H2 ∧ Hold K m (mg ++ mb) t ts2 H2 ∧ Step H ts H2 (t :: ts2) ∧ (∀ j, j ∉ mi ++ (mg ++ mb) → ts2[j]? = ts[j]?) ∧
        SPost K W io ρ (mi ++ (mg ++ mb)) ts H Z (forL gd body (xs.drop i) (T.ers ts2)), ⟨xs.length, rfl, Nat.zero_le _, ts1, S1, hold1, st1, fun j hj => pu1 j fun z => hj (List.mem_append_left _ z), by rw [List.drop_zero, e1]; exact h⟩, ?_⟩
      rintro i n σ2 H2 ⟨rfl, hil, ts2, S2, hold2, st2, pu2, p2⟩
      by_cases hlt : i < xs.length
      · refine .inr ⟨yl.go H2 hold2.ok i _ (List.getElem?_eq_getElem hlt), fun σ' H' => (xs.length - (i + 1) = xs.length - (i + 1)) ∧ i + 1 ≤ xs.length ∧ ∃ ts2, Sim K io ρ ts2 σ' H' ∧ Hold K m (mg ++ mb) t ts2 H' ∧ Step H ts H' (t :: ts2) ∧ (∀ j, j ∉ mi ++ (mg ++ mb) → ts2[j]? = ts[j]?) ∧
          SPost K W io ρ (mi ++ (mg ++ mb)) ts H Z (forL gd body (xs.drop (i + 1)) (T.ers ts2)), fun σ' H' q => ⟨xs.length - (i + 1), by omega, q⟩, fun x H3 y => ?_⟩
        obtain ⟨u, eu, er, oku, sm, ut, ui⟩ := yl.yld H2 hold2.ok i _ (List.getElem?_eq_getElem hlt) x H3 y
        have uo : u.own = [] := T.own_nil (by rw [eu]; exact hass_get hxs (List.getElem?_eq_getElem hlt))
        obtain ⟨S3, tr3, hold3⟩ := turn_item hold2 S2 uo oku sm (ut uo)
        have tg : t.good := (hold2.apart S2.wf).1
        rw [drop_get hlt, forL] at p2
        rw [← er]
        cases eg : gd (xs[i]) (T.ers ts2) with
        | none => rw [eg] at p2; exact p2.elim
        | some s3 =>
          rw [eg] at p2
          simp only at p2
          refine hg ρ ts2 σ2 H3 u _ S3 oku tr3 (fun s4 e4 ts4 σ4 S4 e5 st4 pu4 _ => ?_) (by rw [eu, eg]; intro z; cases z)
          rw [eu, eg] at e4
          cases e4
          have hold4 := hold3.store uo (fun a ma => (ut uo a ma).2 tg) S4.ok st4 fun j hj => pu4 j fun z => hj (List.mem_append_left _ z)
          have st5 := step_store st2 sm uo (fun a ma => (ut uo a ma).1) ui st4
          have pu5 : ∀ j, j ∉ mi ++ (mg ++ mb) → ts4[j]? = ts[j]? := fun j hj => (pu4 j fun z => hj (List.mem_append_right _ (List.mem_append_left _ z))).trans (pu2 j hj)
          have nxt : ∀ {ts6 : List T} {σ6 : L2.St} {H6 : Hp}, Sim K io ρ ts6 σ6 H6 → Step H3 ts4 H6 ts6 → (∀ j, j ∉ mb → ts6[j]? = ts4[j]?) → Hold K m (mg ++ mb) t ts6 H6 ∧ Step H ts H6 (t :: ts6) ∧ ∀ j, j ∉ mi ++ (mg ++ mb) → ts6[j]? = ts[j]? := fun S6 st6 pu6 =>
            ⟨hold4.step S4.ok S6.ok st6 fun j hj => pu6 j fun z => hj (List.mem_append_right _ z), step_beside st5 st6, fun j hj => (pu6 j fun z => hj (List.mem_append_right _ (List.mem_append_right _ z))).trans (pu5 j hj)⟩
          refine hb ρ ts4 σ4 H3 _ S4 ?_
          rw [e5]
          cases eb : body s3 with
          | no => rw [eb] at p2; exact p2
          | ex c fs s6 => rw [eb] at p2; exact fun ts6 σ6 H6 d S6 e6 st6 x => p2 ts6 σ6 H6 d S6 e6 (st5.tail.trans st6) x
          | nx s6 =>
            rw [eb] at p2
            intro ts6 σ6 H6 S6 e6 st6 pu6
            obtain ⟨a1, a2, a3⟩ := nxt S6 st6 pu6
            exact ⟨rfl, hlt, ts6, S6, a1, a2, a3, by rw [e6]; exact p2⟩
          | ct s6 =>
            rw [eb] at p2
            intro ts6 σ6 H6 S6 e6 st6 pu6
            obtain ⟨a1, a2, a3⟩ := nxt S6 st6 pu6
            exact ⟨rfl, hlt, ts6, S6, a1, a2, a3, by rw [e6]; exact p2⟩
          | bk s6 =>
            rw [eb] at p2
            intro ts6 σ6 H6 S6 e6 st6 pu6
            obtain ⟨a1, a2, a3⟩ := nxt S6 st6 pu6
            exact p2 ts6 σ6 H6 S6 e6 a2.tail a3
          | rt x s6 =>
            rw [eb] at p2
            exact fun ts6 σ6 t6 H6 S6 e6 et6 ok6 rr6 st6 => p2 ts6 σ6 t6 H6 S6 e6 et6 ok6 rr6 (st5.tail.trans st6)
      · have hi2 : i = xs.length := by omega
        subst hi2
        rw [List.drop_length, forL] at p2
        exact .inl ⟨yl.stop H2 hold2.ok, p2 ts2 σ2 H2 S2 rfl st2.tail pu2⟩
    · simp only [hc] at h
      exact h.elim
/-! ### while -/
def whL (c : B) (body : S) : Nat → List D → O
  | 0, _ => .no
  | n + 1, s => match c s with
    | .ok q => if q.1 = true then (match body q.2 with
        | .nx s2 => whL c body n s2
        | .ct s2 => whL c body n s2
        | .bk s2 => .nx s2
        | .rt x s2 => .rt x s2
        | .ex c fs s2 => .ex c fs s2
        | .no => .no) else .nx q.2
    | .ex c fs s => .ex c fs s
    | .no => .no
def sWh (n : Nat) (c : B) (body : S) : S := fun s => whL c body n s
theorem srd_wh {mc mb : List Nat} {tc : TT} {tb : TS} {c : B} {body : S} {n : Nat} (hc : TRd K W io mc tc c) (hb : SRd K W io mb tb body) : SRd K W io (mc ++ mb) (tWhile tc tb) (sWh n c body) := fun ρ ts σ H Z S h => by
  refine ⟨fun k σ2 H2 => ∃ ts2, Sim K io ρ ts2 σ2 H2 ∧ Step H ts H2 ts2 ∧ (∀ j, j ∉ mc ++ mb → ts2[j]? = ts[j]?) ∧ SPost K W io ρ (mc ++ mb) ts H Z (whL c body k (T.ers ts2)), ⟨n, ts, S, Step.refl, fun _ _ => rfl, h⟩, ?_⟩
  rintro k σ2 H2 ⟨ts2, S2, st2, pu2, p2⟩
  refine hc ρ ts2 σ2 H2 _ S2 ?_
  cases k with
  | zero => exact p2.elim
  | succ k =>
    rw [whL] at p2
    cases ea : c (T.ers ts2) with
    | no => rw [ea] at p2; exact p2
    | ex c fs s => rw [ea] at p2; exact fun ts1 H1 d S1 e1 st1 x => p2 ts1 σ2 H1 d S1 e1 (st2.trans st1) x
    | ok q =>
      obtain ⟨b, s⟩ := q
      rw [ea] at p2
      intro ts3 H3 S3 e3 st3 pu3
      have st4 := st2.trans st3
      have pu4 : ∀ j, j ∉ mc ++ mb → ts3[j]? = ts[j]? := fun j hj => (pu3 j fun z => hj (List.mem_append_left _ z)).trans (pu2 j hj)
      cases b with
      | false =>
        rw [if_neg Bool.false_ne_true]
        simp only [Bool.false_eq_true, if_false] at p2
        exact p2 ts3 σ2 H3 S3 e3 st4 pu4
      | true =>
        rw [if_pos rfl]
        simp only [if_true] at p2
        refine ⟨fun σ' H' => ∃ ts2, Sim K io ρ ts2 σ' H' ∧ Step H ts H' ts2 ∧ (∀ j, j ∉ mc ++ mb → ts2[j]? = ts[j]?) ∧ SPost K W io ρ (mc ++ mb) ts H Z (whL c body k (T.ers ts2)), fun σ' H' q => ⟨k, Nat.lt_succ_self k, q⟩, ?_⟩
        refine hb ρ ts3 σ2 H3 _ S3 ?_
        rw [e3]
        have un : ∀ {ts6 : List T}, (∀ j, j ∉ mb → ts6[j]? = ts3[j]?) → ∀ j, j ∉ mc ++ mb → ts6[j]? = ts[j]? := fun pu6 j hj => (pu6 j fun z => hj (List.mem_append_right _ z)).trans (pu4 j hj)
        cases eb : body s with
        | no => rw [eb] at p2; exact p2
        | ex c fs s6 => rw [eb] at p2; exact fun ts6 σ6 H6 d S6 e6 st6 x => p2 ts6 σ6 H6 d S6 e6 (st4.trans st6) x
        | nx s6 =>
          rw [eb] at p2
          exact fun ts6 σ6 H6 S6 e6 st6 pu6 => ⟨ts6, S6, st4.trans st6, un pu6, by rw [e6]; exact p2⟩
        | ct s6 =>
          rw [eb] at p2
          exact fun ts6 σ6 H6 S6 e6 st6 pu6 => ⟨ts6, S6, st4.trans st6, un pu6, by rw [e6]; exact p2⟩
        | bk s6 =>
          rw [eb] at p2
          exact fun ts6 σ6 H6 S6 e6 st6 pu6 => p2 ts6 σ6 H6 S6 e6 (st4.trans st6) (un pu6)
        | rt x s6 =>
          rw [eb] at p2
          exact fun ts6 σ6 t6 H6 S6 e6 et6 ok6 rr6 st6 => p2 ts6 σ6 t6 H6 S6 e6 et6 ok6 rr6 (st4.trans st6)
end
section
variable {X : Cx} {W : WX} {io : List Nat} {mi mg mb mc : List Nat} {m : Md} {tg iter c : Expr} {body : List Stmt} {pos : Pos}
theorem di_any {t : TE} {d : E} (h : DE X W io m mi iter t d) : DI X W io m mi tg iter (iAny X.K t) (dIt d) := ⟨pi_any h.pe, ird_any h.rd⟩
theorem di_rg1 {ms : List Md} {a : Expr} {t : TA} {d : EA} {p : Pos} (hg : Gl X "range") (hm : X.mg "range" = none) (h : DA X W io ms mi [a] t d) (hs : starEach [a] X.env = [(false, eval a X.env)] := by rfl) : DI X W io .tmp mi tg (.Call (.Name "range" p) [a] [] pos) (iRng1 t) (dRg1 d) := ⟨pi_range1 hg hm h.pa hs, ird_rg1 h.rd⟩
theorem di_rg2 {ms : List Md} {a b : Expr} {t : TA} {d : EA} {p : Pos} (hg : Gl X "range") (hm : X.mg "range" = none) (h : DA X W io ms mi [a, b] t d) (hs : starEach [a, b] X.env = [(false, eval a X.env), (false, eval b X.env)] := by rfl) (hs2 : starEach [b] X.env = [(false, eval b X.env)] := by rfl) :
    DI X W io .tmp mi tg (.Call (.Name "range" p) [a, b] [] pos) (iRng2 t) (dRg2 d) := ⟨pi_range2 hg hm h.pa hs hs2, ird_rg2 h.rd⟩
theorem ds_for {ti : TI} {g : TG} {tb : TS} {it : I} {gd : Gd} {db : S} (hp : PassesOwn (model X.prog X.w) X.A X.env X.xe) (hcalm : X.calm = true) (hi : DI X W io m mi tg iter ti it) (hg : DG X io mg tg g gd) (hb : DSs X W io mb body tb db)
    (hs : ∀ x, foldedSetIterable iter X.env x = pure x := by intro _; rfl) : DS X W io (mi ++ (mg ++ mb)) (.For tg iter body [] pos) (tFor ti g tb) (sFor m (mg ++ mb) it gd db) := ⟨ps_for hp hcalm hi.pi hg.pg hb.ps hs, srd_for hi.rd hg.rd hb.rd⟩
theorem ds_wh (n : Nat) {tc : TT} {tb : TS} {dc : B} {db : S} (hp : PassesOwn (model X.prog X.w) X.A X.env X.xe) (hc : DT X W io mc c tc dc) (hb : DSs X W io mb body tb db) : DS X W io (mc ++ mb) (.While c body [] pos) (tWhile tc tb) (sWh n dc db) := ⟨ps_while hp hc.pt hb.ps, srd_wh hc.rd hb.rd⟩
theorem dg_t (is : List Nat) {es : List Expr} {k : Nat} (hc : X.calm = true) (h : PGs X es (gNames is)) (hl : (assignEach es X.env).length = is.length := by rfl) (hst : (assignEach es X.env).findIdx? (·.1) = none := by rfl) (hio : (is.all fun i => !io.contains i) = true := by rfl) :
    DG X io is (.Tuple es k pos) (gTup X.K is.length (gNames is)) (gdT is) := ⟨pg_tup hc h hl hst, grd_t hio⟩
end
end VS

namespace VS
open PySem PySem.Spec PyProof.Rows L2

abbrev W0 : WX := fun _ _ _ _ => False
def nox {α : Type} : R α → R α
  | .ok a => .ok a
  | _ => .no
/-! ### the slots of a comprehension's own names -/
def wipeD (vs : List Nat) (s : List D) : List D := vs.foldr (fun v s => s.set v .un) s
def wipeT (vs : List Nat) (ts : List T) : List T := vs.foldr (fun v s => s.set v .un) ts
theorem ers_wipe (vs : List Nat) (ts : List T) : T.ers (wipeT vs ts) = wipeD vs (T.ers ts) := by
  induction vs with
  | nil => rfl
  | cons v vs ih =>
    show T.ers ((wipeT vs ts).set v .un) = (wipeD vs (T.ers ts)).set v .un
    rw [ers_set, ih]; rfl
theorem wipe_out {vs : List Nat} {j : Nat} (h : j ∉ vs) : ∀ (σ : L2.St), (wipe σ vs)[j]? = σ[j]? := by
  intro σ
  induction vs with
  | nil => rfl
  | cons v vs ih =>
    rw [List.mem_cons, not_or] at h
    unfold wipe
    rw [List.getElem?_set_ne (Ne.symm h.1), ih h.2]
theorem wipe_in {vs : List Nat} {j : Nat} (h : j ∈ vs) : ∀ (σ : L2.St), (wipe σ vs)[j]? = if j < σ.length then some none else none := by
  intro σ
  induction vs with
  | nil => cases h
  | cons v vs ih =>
    unfold wipe
    by_cases hv : v = j
    · subst hv
      by_cases hl : v < σ.length
      · rw [if_pos hl, List.getElem?_set_self (by rw [wipe_length]; exact hl)]
      · rw [if_neg hl, List.getElem?_eq_none (by rw [List.length_set, wipe_length]; omega)]
    · rw [List.getElem?_set_ne hv]
      rcases List.mem_cons.mp h with e | h
      · exact absurd e.symm hv
      · exact ih h
theorem wipe_eq {vs : List Nat} {σ σ' : L2.St} (hl : σ'.length = σ.length) (h : ∀ j, j ∉ vs → σ'[j]? = σ[j]?) : wipe σ' vs = wipe σ vs := by
  apply List.ext_getElem?
  intro j
  by_cases hj : j ∈ vs
  · rw [wipe_in hj, wipe_in hj, hl]
  · rw [wipe_out hj, wipe_out hj, h j hj]
theorem wipe_twice {vs : List Nat} {σ : L2.St} : wipe (wipe σ vs) vs = wipe σ vs := wipe_eq (wipe_length σ vs) fun j hj => wipe_out hj σ
theorem wipeT_mem {vs : List Nat} {ts : List T} {t : T} (h : t ∈ wipeT vs ts) : t = .un ∨ t ∈ ts := by
  induction vs with
  | nil => exact .inr h
  | cons v vs ih =>
    rcases List.mem_or_eq_of_mem_set (show t ∈ (wipeT vs ts).set v .un from h) with m | rfl
    · exact ih m
    · exact .inl rfl
theorem wipeT_out {vs : List Nat} {j : Nat} (h : j ∉ vs) (ts : List T) : (wipeT vs ts)[j]? = ts[j]? := by
  induction vs with
  | nil => rfl
  | cons v vs ih =>
    rw [List.mem_cons, not_or] at h
    show ((wipeT vs ts).set v .un)[j]? = _
    rw [List.getElem?_set_ne (Ne.symm h.1), ih h.2]
theorem wipeT_in {vs : List Nat} {j : Nat} (h : j ∈ vs) {ts : List T} {t : T} (e : (wipeT vs ts)[j]? = some t) : t = .un := by
  induction vs with
  | nil => cases h
  | cons v vs ih =>
    have e : ((wipeT vs ts).set v .un)[j]? = some t := e
    by_cases hv : v = j
    · subst hv
      have hl : v < (wipeT vs ts).length := by
        have := (List.getElem?_eq_some_iff.mp e).1
        simpa using this
      rw [List.getElem?_set_self hl] at e
      exact (Option.some.inj e).symm
    · rw [List.getElem?_set_ne hv] at e
      rcases List.mem_cons.mp h with q | h
      · exact absurd q.symm hv
      · exact ih h e
theorem wipeT_len (vs : List Nat) (ts : List T) : (wipeT vs ts).length = ts.length := by
  induction vs with
  | nil => rfl
  | cons v vs ih =>
    show ((wipeT vs ts).set v .un).length = _
    rw [List.length_set, ih]
theorem dj_un {u : T} : Dj .un u := ⟨fun a m => (nomatch m), fun a _ m => (nomatch m)⟩
theorem wf_wipe {vs : List Nat} {ts : List T} (h : WF ts) : WF (wipeT vs ts) := by
  induction vs with
  | nil => exact h
  | cons v vs ih => exact WF.set ih trivial fun j u _ _ => dj_un
theorem Sim.wipe {K : PySem.W.Frag} {io : List Nat} {ρ : Nat → V} {ts : List T} {σ σ' : L2.St} {H : Hp} {vs : List Nat} (S : Sim K io ρ ts σ H) (hv : ∀ i ∈ io, i ∉ vs) (hl : σ'.length = σ.length) (h : ∀ j, j ∉ vs → σ'[j]? = σ[j]?) : Sim K io ρ (wipeT vs ts) σ' H := by
  refine ⟨by rw [wipeT_len, hl]; exact S.len, fun j t e ne => ?_, fun t m => ?_, wf_wipe S.wf, fun i mi => ?_⟩
  · by_cases hj : j ∈ vs
    · exact absurd (wipeT_in hj e) ne
    · rw [wipeT_out hj] at e
      rw [h j hj]
      exact S.rt j t e ne
  · rcases wipeT_mem m with rfl | m
    · exact trivial
    · exact S.ok t m
  · obtain ⟨t, e, ne, r⟩ := S.pin i mi
    exact ⟨t, by rw [wipeT_out (hv i mi)]; exact e, ne, r⟩
theorem step_wipe {H H' : Hp} {A B : List T} {vs : List Nat} (st : Step H A H' B) : Step H A H' (wipeT vs B) :=
  ⟨st.fr, st.al, fun t m a ma => (wipeT_mem m).elim (fun e => by subst e; cases ma) fun m => st.ow t m a ma, fun t m a ma => (wipeT_mem m).elim (fun e => by subst e; cases ma) fun m => st.tr t m a ma, fun t m a ma => (wipeT_mem m).elim (fun e => by subst e; cases ma) fun m => st.im t m a ma⟩

/-! ### list comprehensions -/
def lcL (vs : List Nat) (g : Gd) (c : B) (m : Md) (e : E) : List D → List D → R (List D × List D)
  | [], s => .ok ([], s)
  | x :: r, s => match g x s with
    | none => .no
    | some s1 => (nox (c s1)).bind fun q => if q.1 = true then (nox (e q.2)).bind fun p => if (m.isTmp || !p.1.hasOwn) = true then (lcL vs g c m e r (wipeD vs p.2)).bind fun z => .ok (p.1 :: z.1, z.2) else .no
      else lcL vs g c m e r (wipeD vs q.2)
def dLc (mi : Md) (mb vs : List Nat) (it : I) (g : Gd) (c : B) (m : Md) (e : E) : E := fun s => (it s).bind fun q =>
  if ((clr mi mb || !q.1.1.hasOwn) && !D.hass NK.isOwn q.1.2 && decide (q.1.2.length ≤ sizeLine)) = true then (lcL vs g c m e q.1.2 (wipeD vs q.2)).bind fun z => .ok (.nd (.lst true) z.1, z.2) else .no
def bYes : B := fun s => .ok (true, s)
theorem trd_yes {K : PySem.W.Frag} {W : WX} {io : List Nat} : TRd K W io [] tYes bYes := fun ρ ts σ H Q S h => h ts H S rfl Step.refl fun _ _ => rfl
/-- one more thing at the end of the list at L -/
theorem app_node {K : PySem.W.Frag} {H : Hp} {L : Addr} {cs : List T} {y : T} (okn : (T.nd L (.lst true) cs).ok K H) (oky : y.ok K H) (gn : (T.nd L (.lst true) cs).good) (gy : y.good) (dj : Dj (.nd L (.lst true) cs) y) :
    (T.nd L (.lst true) (cs ++ [y])).ok K (upd H L (.lst (T.rts cs ++ [y.rt]))) ∧ (T.nd L (.lst true) (cs ++ [y])).good ∧ H L = some (.lst (T.rts cs)) ∧ L ∉ y.trk := by
  have hL : L ∈ (T.nd L (.lst true) cs).own := T.mem_col.mpr (.inl ⟨rfl, rfl⟩)
  have ny : L ∉ y.trk := dj.1 L hL
  rw [T.good] at gn
  have nc : L ∉ T.cols NK.isTrk cs := gn.1 rfl
  have keep : ∀ c : T, c.ok K H → L ∉ c.trk → c.ok K (upd H L (.lst (T.rts cs ++ [y.rt]))) := fun c okc nt => T.ok_keep okc fun b o e z => by
    have : b ≠ L := by
      rintro rfl
      rcases z with z | z
      · exact nt z
      · rw [okn.atL] at e; cases e; cases z
    rw [upd_ne this]; exact e
  have up : ∀ {p : NK → Bool} {c : T} {z : Addr}, c ∈ cs → z ∈ c.col p → z ∈ (T.nd L (.lst true) cs).col p := fun m mz => T.mem_col.mpr (.inr ⟨_, m, mz⟩)
  refine ⟨?_, ?_, okn.atL, ny⟩
  · rw [T.ok]
    refine ⟨?_, T.oks_all.mpr fun c m => ?_⟩
    · show upd H L _ L = _
      rw [upd_same, rts_append]; rfl
    · rcases List.mem_append.mp m with m | m
      · exact keep c (okn.child m) fun z => nc (T.mem_cols.mpr ⟨c, m, z⟩)
      · have : c = y := by simpa using m
        subst this
        exact keep c oky ny
  · rw [T.good]
    refine ⟨fun _ z => ?_, fun _ z => ?_, WF.append gn.2.2 (WF.cons gy (fun _ m => nomatch m) WF.nil) fun c mc w mw => ?_⟩
    · obtain ⟨c, mc, mz⟩ := T.mem_cols.mp z
      rcases List.mem_append.mp mc with mc | mc
      · exact nc (T.mem_cols.mpr ⟨c, mc, mz⟩)
      · have : c = y := by simpa using mc
        subst this; exact ny mz
    · obtain ⟨c, mc, mz⟩ := T.mem_cols.mp z
      rcases List.mem_append.mp mc with mc | mc
      · exact nc (T.mem_cols.mpr ⟨c, mc, T.own_trk mz⟩)
      · have : c = y := by simpa using mc
        subst this; exact ny (T.own_trk mz)
    · have : w = y := by simpa using mw
      subst this
      exact ⟨fun z mz => dj.1 z (up mc mz), fun z mz q => dj.2 z mz (up mc q)⟩
theorem keep_upd {K : PySem.W.Frag} {H : Hp} {L : Addr} {xs ys : List V} {t : T} (ok : t.ok K H) (hL : H L = some (.lst xs)) (n : L ∉ t.trk) : t.ok K (upd H L (.lst ys)) := T.ok_keep ok fun b o e z => by
  have : b ≠ L := by
    rintro rfl
    rcases z with z | z
    · exact n z
    · rw [hL] at e; cases e; cases z
  rw [upd_ne this]; exact e
theorem dj_app {L : Addr} {k : NK} {cs : List T} {y w : T} (h1 : Dj (.nd L k cs) w) (h2 : Dj y w) : Dj (.nd L k (cs ++ [y])) w := by
  have inv : ∀ {p : NK → Bool} {z : Addr}, z ∈ (T.nd L k (cs ++ [y])).col p → z ∈ (T.nd L k cs).col p ∨ z ∈ y.col p := fun m => by
    rcases T.mem_col.mp m with ⟨a, b⟩ | ⟨c, mc, mz⟩
    · exact .inl (T.mem_col.mpr (.inl ⟨a, b⟩))
    · rcases List.mem_append.mp mc with mc | mc
      · exact .inl (T.mem_col.mpr (.inr ⟨c, mc, mz⟩))
      · have : c = y := by simpa using mc
        subst this; exact .inr mz
  exact ⟨fun a ma => (inv ma).elim (h1.1 a) (h2.1 a), fun a ma z => (inv z).elim (h1.2 a ma) (h2.2 a ma)⟩
theorem app_inv {L : Addr} {k : NK} {cs : List T} {y : T} {p : NK → Bool} {z : Addr} (m : z ∈ (T.nd L k (cs ++ [y])).col p) : z ∈ (T.nd L k cs).col p ∨ z ∈ y.col p := by
  rcases T.mem_col.mp m with ⟨a, b⟩ | ⟨c, mc, mz⟩
  · exact .inl (T.mem_col.mpr (.inl ⟨a, b⟩))
  · rcases List.mem_append.mp mc with mc | mc
    · exact .inl (T.mem_col.mpr (.inr ⟨c, mc, mz⟩))
    · have : c = y := by simpa using mc
      subst this; exact .inr mz
/-- what holds at a turn of a comprehension: t is walked, the new list stands at L with the trees cs -/
structure LcI (K : PySem.W.Frag) (io : List Nat) (ρ : Nat → V) (mi : Md) (mb : List Nat) (ts : List T) (H : Hp) (L : Addr) (t : T) (cs ts2 : List T) (σ2 : L2.St) (H2 : Hp) : Prop where
  sim : Sim K io ρ ts2 σ2 H2
  hold : Hold K mi mb t ts2 H2
  dnt : ∀ a ∈ (T.nd L (.lst true) cs).own, a ∉ t.trk
  okn : (T.nd L (.lst true) cs).ok K H2
  rel : TRel (.nd L (.lst true) cs) ts2
  step : Step H ts H2 (t :: .nd L (.lst true) cs :: ts2)
theorem own_head {L : Addr} {cs : List T} : L ∈ (T.nd L (.lst true) cs).own := T.mem_col.mpr (.inl ⟨rfl, rfl⟩)
theorem Step.three {H H1 H' : Hp} {A B C : List T} {t n : T} (s : Step H A H1 (t :: n :: B)) (s2 : Step H A H' C) : Step H A H' (t :: n :: C) :=
  (s2.cons (s.ow n (by simp)) (s.tr n (by simp)) (s.im n (by simp))).cons (s.ow t (by simp)) (s.tr t (by simp)) (s.im t (by simp))
theorem Step.sm {H H1 H' : Hp} {A B : List T} (s : Step H A H1 B) (sm : Same H1 H') : Step H A H' B :=
  ⟨fun b o e n => sm b o (s.fr b o e n), fun b e => s.al b (sm.free e), s.ow, s.tr, s.im⟩
/-- the slots step on beside what is walked and the new list -/
theorem LcI.on {K : PySem.W.Frag} {io : List Nat} {ρ : Nat → V} {mi : Md} {mb : List Nat} {ts : List T} {H : Hp} {L : Addr} {t : T} {cs ts2 ts5 : List T} {σ2 : L2.St} {H2 H5 : Hp} {B : List T} (I : LcI K io ρ mi mb ts H L t cs ts2 σ2 H2) (S5 : Sim K io ρ ts5 σ2 H5) (st : Step H2 ts2 H5 (B ++ ts5)) (pu : ∀ j, j ∉ mb → ts5[j]? = ts2[j]?) :
    LcI K io ρ mi mb ts H L t cs ts5 σ2 H5 ∧ ∀ y ∈ B, Dj (.nd L (.lst true) cs) y := by
  have st' : Step H2 ts2 H5 ts5 := st.sub fun _ m => List.mem_append_right _ m
  have dj := djStep I.okn I.rel.2 st
  refine ⟨⟨S5, I.hold.step I.sim.ok S5.ok st' pu, I.dnt, keepT I.okn I.sim.ok st' fun u mu a ma => (I.rel.2 u mu).2 a ma, ⟨I.rel.1, fun u mu => dj u (List.mem_append_right _ mu)⟩, ?_⟩, fun y my => dj y (List.mem_append_left _ my)⟩
  exact I.step.three ((I.step.sub fun _ m => List.mem_cons_of_mem _ (List.mem_cons_of_mem _ m)).trans st')
theorem lc_turn {K : PySem.W.Frag} {io : List Nat} {ρ : Nat → V} {mi m : Md} {mg mt me mb vs : List Nat} {ts : List T} {H : Hp} {L : Addr} {t : T} {g : TG} {tt : TT} {te : TE} {gd : Gd} {c : B} {e : E} {σ : L2.St}
    (hg : GRd K io mg g gd) (ht : TRd K W0 io mt tt c) (he : ERd K W0 io m me te e) (hmg : ∀ j, j ∈ mg → j ∈ vs) (hio : ∀ i ∈ io, i ∉ vs) (hb : ∀ j, j ∈ mg ++ (mt ++ me) ++ vs → j ∈ mb) (HL : H L = none)
    {cs ts2 : List T} {H2 : Hp} (I : LcI K io ρ mi mb ts H L t cs ts2 (wipe σ vs) H2) {x : D} {r : List D} (hx : x.hasOwn = false) (hz : cs.length < sizeLine) {z : List D × List D} (hl : lcL vs gd c m e (x :: r) (T.ers ts2) = .ok z)
    {xv : V} {H3 : Hp} {u : T} (eu : u.er = x) (er : u.rt = xv) (oku : u.ok K H3) (sm : Same H2 H3) (ut : u.own = [] → ∀ a ∈ u.trk, a ∈ t.trk ∧ (t.good → a ∉ t.own)) (ui : ∀ a ∈ u.imm, a ∈ t.imm)
    (Nx : Hp → Prop) (hN : ∀ cs' ts' H' z', LcI K io ρ mi mb ts H L t cs' ts' (wipe σ vs) H' → cs'.length ≤ cs.length + 1 → lcL vs gd c m e r (T.ers ts') = .ok z' → T.ers cs' ++ z'.1 = T.ers cs ++ z.1 → z'.2 = z.2 → (∀ j, j ∉ mb → ts'[j]? = ts2[j]?) → Nx H') :
    g xv (wipe σ vs) H3 fun σ4 H4 => wipe σ4 vs = wipe σ vs ∧ tt σ4 H4 fun b H5 => if b = true then te σ4 H5 fun y H6 => ∃ acc, H6 L = some (.lst acc) ∧ acc.length < sizeLine ∧ Nx (upd H6 L (.lst (acc ++ [y]))) else Nx H5 := by
  have uo : u.own = [] := T.own_nil (by rw [eu]; exact hx)
  obtain ⟨S3, tr3, hold3⟩ := turn_item I.hold I.sim uo oku sm (ut uo)
  have tg : t.good := (I.hold.apart I.sim.wf).1
  rw [lcL] at hl
  rw [← er]
  cases eg : gd x (T.ers ts2) with
  | none => rw [eg] at hl; cases hl
  | some s3 =>
    rw [eg] at hl
    simp only at hl
    refine hg ρ ts2 _ H3 u _ S3 oku tr3 (fun s4 e4 ts4 σ4 S4 e5 st4 pu4 ps4 => ?_) (by rw [eu, eg]; intro z; cases z)
    rw [eu, eg] at e4
    cases e4
    have hw : wipe σ4 vs = wipe σ vs := (wipe_eq ps4.1 fun j hj => ps4.2 j fun z => hj (hmg j z)).trans wipe_twice
    refine ⟨hw, ?_⟩
    have hold4 := hold3.store uo (fun a ma => (ut uo a ma).2 tg) S4.ok st4 fun j hj => pu4 j fun z => hj (hb j (List.mem_append_left _ (List.mem_append_left _ z)))
    have ok3 : (T.nd L (.lst true) cs).ok K H3 := T.ok_same I.okn sm
    have dju : Dj (.nd L (.lst true) cs) u := ⟨fun a ma z => I.dnt a ma (ut uo a z).1, fun a ma => (by rw [uo] at ma; cases ma)⟩
    have dj4 := djStep (A := u :: ts2) ok3 (fun w mw => (List.mem_cons.mp mw).elim (fun e => by rw [e]; exact dju) (I.rel.2 w)) st4
    have I4 : LcI K io ρ mi mb ts H L t cs ts4 σ4 H3 := ⟨S4, hold4, I.dnt, ok3, ⟨I.rel.1, dj4⟩,
      (I.step.sm sm).three (step_store (I.step.sub fun w mw => (List.mem_cons.mp mw).elim (fun e => by rw [e]; exact List.mem_cons_self) fun mw => List.mem_cons_of_mem _ (List.mem_cons_of_mem _ mw)) sm uo (fun a ma => (ut uo a ma).1) ui st4).tail⟩
    have pv4 : ∀ j, j ∉ mb → ts4[j]? = ts2[j]? := fun j hj => pu4 j fun z => hj (hb j (List.mem_append_left _ (List.mem_append_left _ z)))
    -- the slots wiped behind a turn
    have wiped : ∀ {cs5 ts5 : List T} {H5 : Hp}, LcI K io ρ mi mb ts H L t cs5 ts5 σ4 H5 → LcI K io ρ mi mb ts H L t cs5 (wipeT vs ts5) (wipe σ vs) H5 := fun {cs5 ts5 H5} J => by
      refine ⟨J.sim.wipe hio (by rw [← hw, wipe_length]) (fun j hj => by rw [← hw, wipe_out hj]), ⟨J.hold.ok, ?_⟩, J.dnt, J.okn, ⟨J.rel.1, fun w mw => ?_⟩, J.step.three (step_wipe (J.step.sub fun _ m => List.mem_cons_of_mem _ (List.mem_cons_of_mem _ m)))⟩
      · rcases J.hold.rel with tr | ⟨i, w, ew, sb, hi⟩
        · exact .inl ⟨tr.1, fun w mw => (wipeT_mem mw).elim (fun e => by rw [e]; exact dj_un.symm) (tr.2 w)⟩
        · exact .inr ⟨i, w, by rw [wipeT_out fun z => hi (hb i (List.mem_append_right _ z))]; exact ew, sb, hi⟩
      · exact (wipeT_mem mw).elim (fun e => by rw [e]; exact dj_un.symm) (J.rel.2 w)
    have pw : ∀ {ts5 : List T}, (∀ j, j ∉ mb → ts5[j]? = ts2[j]?) → ∀ j, j ∉ mb → (wipeT vs ts5)[j]? = ts2[j]? := fun h j hj => by
      rw [wipeT_out fun z => hj (hb j (List.mem_append_right _ z))]; exact h j hj
    refine ht ρ ts4 σ4 H3 _ S4 ?_
    rw [e5]
    cases ec : c s3 with
    | no => rw [ec] at hl; cases hl
    | ex _ _ _ => rw [ec] at hl; cases hl
    | ok q =>
      obtain ⟨b, s5⟩ := q
      rw [ec] at hl
      simp only [nox, R.bind] at hl
      intro ts5 H5 S5 e5' st5 pu5
      have hmt : ∀ j, j ∉ mb → ts5[j]? = ts4[j]? := fun j hj => pu5 j fun z => hj (hb j (List.mem_append_left _ (List.mem_append_right _ (List.mem_append_left _ z))))
      have I5 := (I4.on (B := []) S5 (by simpa using st5) hmt).1
      have pv5 : ∀ j, j ∉ mb → ts5[j]? = ts2[j]? := fun j hj => (hmt j hj).trans (pv4 j hj)
      cases b with
      | false =>
        rw [if_neg Bool.false_ne_true]
        simp only [Bool.false_eq_true, if_false] at hl
        exact hN cs (wipeT vs ts5) H5 z (wiped I5) (Nat.le_succ _) (by rw [ers_wipe, e5']; exact hl) rfl rfl (pw pv5)
      | true =>
        rw [if_pos rfl]
        simp only [if_true] at hl
        refine he ρ ts5 σ4 H5 _ S5 ?_
        rw [e5']
        cases ee : e s5 with
        | no => rw [ee] at hl; cases hl
        | ex _ _ _ => rw [ee] at hl; cases hl
        | ok p =>
          obtain ⟨y, s6⟩ := p
          rw [ee] at hl
          simp only [nox, R.bind] at hl
          intro ts6 ty H6 S6 e6 et6 ok6 mr6 st6 pu6
          by_cases hc : (m.isTmp || !y.hasOwn) = true
          · rw [if_pos hc] at hl
            have try6 : TRel ty ts6 := by
              cases m with
              | tmp => exact mr6
              | vw src =>
                have : y.hasOwn = false := by cases z : y.hasOwn with | false => rfl | true => rw [z] at hc; cases hc
                exact mr6.tmp S6.wf (T.own_nil (by rw [et6]; exact this))
            have hme : ∀ j, j ∉ mb → ts6[j]? = ts5[j]? := fun j hj => pu6 j fun z => hj (hb j (List.mem_append_left _ (List.mem_append_right _ (List.mem_append_right _ z))))
            obtain ⟨I6, djy⟩ := I5.on (B := [ty]) S6 (by simpa using st6) hme
            have dny : Dj (.nd L (.lst true) cs) ty := djy ty (by simp)
            obtain ⟨okn', gn', atL, nLy⟩ := app_node I6.okn ok6 I6.rel.1 try6.1 dny
            refine ⟨T.rts cs, atL, by rw [rts_len]; exact hz, ?_⟩
            cases el : lcL vs gd c m e r (wipeD vs s6) with
            | no => rw [el] at hl; cases hl
            | ex _ _ _ => rw [el] at hl; cases hl
            | ok z' =>
              rw [el] at hl
              injection hl with hl
              subst hl
              have kp : ∀ w : T, w.ok K H6 → L ∉ w.trk → w.ok K (upd H6 L (.lst (T.rts cs ++ [ty.rt]))) := fun w okw n => keep_upd okw atL n
              have S7 : Sim K io ρ ts6 σ4 (upd H6 L (.lst (T.rts cs ++ [ty.rt]))) := ⟨S6.len, S6.rt, fun w mw => kp w (S6.ok w mw) ((I6.rel.2 w mw).1 L own_head), S6.wf, S6.pin⟩
              have I7 : LcI K io ρ mi mb ts H L t (cs ++ [ty]) ts6 σ4 (upd H6 L (.lst (T.rts cs ++ [ty.rt]))) := by
                refine ⟨S7, ⟨kp t I6.hold.ok (I6.dnt L own_head), I6.hold.rel⟩, fun a ma z => ?_, okn', ⟨gn', fun w mw => dj_app (I6.rel.2 w mw) (try6.2 w mw)⟩, ?_⟩
                · rcases app_inv ma with ma | ma
                  · exact I6.dnt a ma z
                  · rcases I6.hold.rel with tr | ⟨i, w, ew, sb, hi⟩
                    · rcases st6.ow ty List.mem_cons_self a ma with ⟨w, mw, zw⟩ | q
                      · rcases I5.hold.rel with tr5 | ⟨i5, w5, ew5, sb5, hi5⟩
                        · exact (tr5.2 w mw).2 a zw z
                        · exact (try6.2 w5 (List.mem_of_getElem? ((hme i5 hi5).trans ew5))).1 a ma (sb5.col z)
                      · obtain ⟨o, eo⟩ := T.trk_s I5.hold.ok z
                        rw [q] at eo; cases eo
                    · exact (try6.2 w (List.mem_of_getElem? ew)).1 a ma (sb.col z)
                · have st7 : Step H ts H6 (ty :: t :: .nd L (.lst true) cs :: ts6) := by
                    have q := (I5.step.sub fun _ m => List.mem_cons_of_mem _ (List.mem_cons_of_mem _ m)).trans st6
                    exact I6.step.cons (q.ow ty List.mem_cons_self) (q.tr ty List.mem_cons_self) (q.im ty List.mem_cons_self)
                  have nb : ∀ b o, H b = some o → b ≠ L := fun b o e z => by rw [z, HL] at e; cases e
                  have src : ∀ {p : NK → Bool} {w : T} {a : Addr}, w ∈ t :: .nd L (.lst true) (cs ++ [ty]) :: ts6 → a ∈ w.col p → ∃ w' ∈ ty :: t :: .nd L (.lst true) cs :: ts6, a ∈ w'.col p := fun mw ma => by
                    rcases List.mem_cons.mp mw with rfl | mw
                    · exact ⟨_, by simp, ma⟩
                    · rcases List.mem_cons.mp mw with rfl | mw
                      · rcases app_inv ma with ma | ma
                        · exact ⟨_, by simp, ma⟩
                        · exact ⟨_, by simp, ma⟩
                      · exact ⟨_, by simp [mw], ma⟩
                  refine ⟨fun b o e n => ?_, fun b e => ?_, fun w mw a ma => ?_, fun w mw a ma => ?_, fun w mw a ma => ?_⟩
                  · rw [upd_ne (nb b o e)]; exact st7.fr b o e n
                  · by_cases hb : b = L
                    · rw [hb, upd_same] at e; cases e
                    · rw [upd_ne hb] at e; exact st7.al b e
                  · obtain ⟨w', mw', ma'⟩ := src mw ma; exact st7.ow w' mw' a ma'
                  · obtain ⟨w', mw', ma'⟩ := src mw ma; exact st7.tr w' mw' a ma'
                  · obtain ⟨w', mw', ma'⟩ := src mw ma; exact st7.im w' mw' a ma'
              refine hN (cs ++ [ty]) (wipeT vs ts6) _ z' (wiped I7) (by rw [List.length_append]; exact Nat.le_refl _) (by rw [ers_wipe, e6]; exact el) ?_ rfl (pw fun j hj => (hme j hj).trans (pv5 j hj))
              rw [ers_append, T.ers, T.ers, et6, List.append_assoc]; rfl
          · rw [if_neg hc] at hl; cases hl
theorem erd_lc {K : PySem.W.Frag} {W : WX} {io : List Nat} {mi m : Md} {md mg mt me vs : List Nat} {ti : TI} {g : TG} {tt : TT} {te : TE} {it : I} {gd : Gd} {c : B} {e : E}
    (hi : IRd K W io mi md ti it) (hg : GRd K io mg g gd) (ht : TRd K W0 io mt tt c) (he : ERd K W0 io m me te e) (hmg : (mg.all fun j => vs.contains j) = true) (hio : (io.all fun i => !vs.contains i) = true) :
    ERd K W io .tmp (md ++ (mg ++ (mt ++ me) ++ vs)) (tLc ti g tt te vs) (dLc mi (mg ++ (mt ++ me) ++ vs) vs it gd c m e) := fun ρ ts σ H Q S h => by
  have hmg' : ∀ j, j ∈ mg → j ∈ vs := fun j hj => by simpa using List.all_eq_true.mp hmg j hj
  have hio' : ∀ i ∈ io, i ∉ vs := fun i mi => by simpa using List.all_eq_true.mp hio i mi
  refine hi ρ ts σ H _ S ?_
  unfold dLc at h
  cases ea : it (T.ers ts) with
  | no => rw [ea] at h; exact h
  | ex c fs s => rw [ea] at h; exact h
  | ok q =>
    obtain ⟨⟨w, xs⟩, s⟩ := q
    rw [ea] at h
    simp only [R.bind] at h
    intro ts1 t H1 J S1 e1 et ok1 mr1 st1 pu1 yl L hL
    by_cases hc : ((clr mi (mg ++ (mt ++ me) ++ vs) || !w.hasOwn) && !D.hass NK.isOwn xs && decide (xs.length ≤ sizeLine)) = true
    · rw [if_pos hc] at h
      rw [Bool.and_eq_true, Bool.and_eq_true] at hc
      have hz := of_decide_eq_true hc.2
      have hxs : D.hass NK.isOwn xs = false := by
        cases q : D.hass NK.isOwn xs with
        | false => rfl
        | true => rw [q] at hc; cases hc.1.2
      cases el : lcL vs gd c m e xs (wipeD vs s) with
      | no => rw [el] at h; exact h.elim
      | ex c' fs s' =>
        exfalso
        -- an exception does not come out of a comprehension
        have nex : ∀ (xs : List D) (s : List D) c' fs s', lcL vs gd c m e xs s ≠ .ex c' fs s' := by
          intro xs
          induction xs with
          | nil => intro s c' fs s' z; rw [lcL] at z; cases z
          | cons x r ih =>
            intro s c' fs s' z
            rw [lcL] at z
            split at z
            · cases z
            · rename_i s1 _
              cases ec : c s1 with
              | no => rw [ec] at z; cases z
              | ex _ _ _ => rw [ec] at z; cases z
              | ok q =>
                rw [ec] at z
                simp only [nox, R.bind] at z
                split at z
                · cases ee : e q.2 with
                  | no => rw [ee] at z; cases z
                  | ex _ _ _ => rw [ee] at z; cases z
                  | ok p =>
                    rw [ee] at z
                    simp only [nox, R.bind] at z
                    split at z
                    · cases el : lcL vs gd c m e r (wipeD vs p.2) with
                      | no => rw [el] at z; cases z
                      | ok _ => rw [el] at z; cases z
                      | ex _ _ _ => exact ih _ _ _ _ el
                    · cases z
                · exact ih _ _ _ _ z
        exact nex _ _ _ _ _ el
      | ok z =>
        rw [el] at h
        simp only [R.bind] at h
        have hold1 : Hold K mi (mg ++ (mt ++ me) ++ vs) t ts1 H1 := Hold.of ok1 mr1 S1.wf (by rw [et]; exact hc.1.1)
        have HLn : H L = none := st1.al L hL
        have nLt : L ∉ t.trk := fun z => by obtain ⟨o, e⟩ := T.trk_s ok1 z; rw [hL] at e; cases e
        have sm0 : Same H1 (upd H1 L (.lst [])) := same_upd hL
        have S1' : Sim K io ρ ts1 σ (upd H1 L (.lst [])) := ⟨S1.len, S1.rt, fun u m => T.ok_same (S1.ok u m) sm0, S1.wf, S1.pin⟩
        have nLts : ∀ u ∈ ts1, L ∉ u.trk := fun u mu z => by obtain ⟨o, e⟩ := T.trk_s (S1.ok u mu) z; rw [hL] at e; cases e
        have node0 : ∀ {p : NK → Bool} {a : Addr}, a ∈ (T.nd L (.lst true) []).col p → a = L := fun m => by
          rcases T.mem_col.mp m with ⟨_, e⟩ | ⟨c, mc, _⟩
          · exact e
          · cases mc
        have I0 : LcI K io ρ mi (mg ++ (mt ++ me) ++ vs) ts H L t [] (wipeT vs ts1) (wipe σ vs) (upd H1 L (.lst [])) := by
          refine ⟨S1'.wipe hio' (wipe_length σ vs) (fun j hj => wipe_out hj σ), ⟨T.ok_same ok1 sm0, ?_⟩, fun a ma => by rw [node0 ma]; exact nLt, ?_, ⟨?_, fun u mu => ?_⟩, ?_⟩
          · rcases hold1.rel with tr | ⟨i, w, ew, sb, hi⟩
            · exact .inl ⟨tr.1, fun w mw => (wipeT_mem mw).elim (fun e => by rw [e]; exact dj_un.symm) (tr.2 w)⟩
            · exact .inr ⟨i, w, by rw [wipeT_out fun z => hi (List.mem_append_right _ z)]; exact ew, sb, hi⟩
          · rw [T.ok]; exact ⟨upd_same, by rw [T.oks]; trivial⟩
          · rw [T.good]; exact ⟨fun _ m => (nomatch m), fun _ m => (nomatch m), WF.nil⟩
          · rcases wipeT_mem mu with rfl | mu
            · exact dj_un.symm
            · exact ⟨fun a ma => by rw [node0 ma]; exact nLts u mu, fun a ma z => nLts u mu (by rw [← node0 z]; exact T.own_trk ma)⟩
          · have s2 : Step H ts (upd H1 L (.lst [])) (t :: ts1) := st1.sm sm0
            exact ((step_wipe s2.tail).cons (fun a ma => .inr (by rw [node0 ma]; exact HLn)) (fun a ma => .inr (by rw [node0 ma]; exact HLn)) (fun a ma => by
              rcases T.mem_col.mp ma with ⟨e, _⟩ | ⟨c, mc, _⟩
              · cases e
              · cases mc)).cons (s2.ow t List.mem_cons_self) (s2.tr t List.mem_cons_self) (s2.im t List.mem_cons_self)
        refine ⟨fun i n H2 => n = xs.length - i ∧ i ≤ xs.length ∧ ∃ cs ts2 z2, LcI K io ρ mi (mg ++ (mt ++ me) ++ vs) ts H L t cs ts2 (wipe σ vs) H2 ∧ cs.length ≤ i ∧ lcL vs gd c m e (xs.drop i) (T.ers ts2) = .ok z2 ∧ T.ers cs ++ z2.1 = z.1 ∧ z2.2 = z.2 ∧ ∀ j, j ∉ mg ++ (mt ++ me) ++ vs → ts2[j]? = ts1[j]?,
          ⟨xs.length, rfl, Nat.zero_le _, [], wipeT vs ts1, z, I0, Nat.le_refl _, by rw [List.drop_zero, ers_wipe, e1]; exact el, rfl, rfl, fun j hj => wipeT_out (fun z => hj (List.mem_append_right _ z)) ts1⟩, ?_⟩
        rintro i n H2 ⟨rfl, hil, cs, ts2, z2, I2, hcs, hl2, hz2, hs2, pu2⟩
        by_cases hlt : i < xs.length
        · refine .inr ⟨yl.go H2 I2.hold.ok i _ (List.getElem?_eq_getElem hlt), fun H' => (xs.length - (i + 1) = xs.length - (i + 1)) ∧ i + 1 ≤ xs.length ∧ ∃ cs ts2 z2, LcI K io ρ mi (mg ++ (mt ++ me) ++ vs) ts H L t cs ts2 (wipe σ vs) H' ∧ cs.length ≤ i + 1 ∧ lcL vs gd c m e (xs.drop (i + 1)) (T.ers ts2) = .ok z2 ∧ T.ers cs ++ z2.1 = z.1 ∧ z2.2 = z.2 ∧ ∀ j, j ∉ mg ++ (mt ++ me) ++ vs → ts2[j]? = ts1[j]?,
            fun H' q => ⟨xs.length - (i + 1), by omega, q⟩, fun x H3 y => ?_⟩
          obtain ⟨u, eu, er, oku, sm, ut, ui⟩ := yl.yld H2 I2.hold.ok i _ (List.getElem?_eq_getElem hlt) x H3 y
          rw [drop_get hlt] at hl2
          refine lc_turn hg ht he hmg' hio' (fun j hj => hj) HLn I2 (hass_get hxs (List.getElem?_eq_getElem hlt)) (by omega) hl2 eu er oku sm ut ui _ fun cs' ts' H' z' I' hc' hl' hz' hs' pu' => ?_
          exact ⟨rfl, hlt, cs', ts', z', I', by omega, hl', hz'.trans hz2, hs'.trans hs2, fun j hj => (pu' j hj).trans (pu2 j hj)⟩
        · have hi2 : i = xs.length := by omega
          subst hi2
          rw [List.drop_length, lcL] at hl2
          injection hl2 with hl2
          subst hl2
          refine .inl ⟨yl.stop H2 I2.hold.ok, ?_⟩
          have e2 : T.ers cs = z.1 := by rw [← hz2, List.append_nil]
          -- the frame's slots, the block's own names wiped
          have S2 : Sim K io ρ ts2 σ H2 := by
            have q := I2.sim
            refine ⟨by rw [q.len, wipe_length], fun j w ew ne => ?_, q.ok, q.wf, q.pin⟩
            have r := q.rt j w ew ne
            by_cases hj : j ∈ vs
            · rw [wipe_in hj] at r
              split at r <;> cases r
            · rw [wipe_out hj] at r; exact r
          refine h ts2 (.nd L (.lst true) cs) H2 S2 hs2 (by rw [T.er, e2]) I2.okn I2.rel (I2.step.sub fun w mw => List.mem_cons_of_mem _ mw) fun j hj => ?_
          rw [List.mem_append, not_or] at hj
          exact (pu2 j hj.2).trans (pu1 j hj.1)
    · rw [if_neg hc] at h; exact h.elim
end VS

namespace VS
open PySem PySem.Spec PyProof.Rows L2

/-! ### arguments of a def -/
inductive AK where
  | val (m : Md)
  | io (i : Nat)
  | mv (i : Nat)
inductive PM where
  | val | io | mv
  deriving DecidableEq
def AK.pm : AK → PM
  | .val _ => .val
  | .io _ => .io
  | .mv _ => .mv
def ixs : List AK → List Nat
  | [] => []
  | .val _ :: r => ixs r
  | .io i :: r => i :: ixs r
  | .mv i :: r => i :: ixs r
abbrev EC := List D → R (List (Option D) × List D)
def oer : List (Option T) → List (Option D) := List.map (Option.map T.er)
abbrev fl (us : List (Option T)) : List T := us.filterMap id
def CRel : List AK → List (Option T) → List V → List T → L2.St → Prop
  | [], [], [], _, _ => True
  | .val m :: ks, some u :: us, v :: vs, ts, σ => v = u.rt ∧ MRel m u ts ∧ CRel ks us vs ts σ
  | .io i :: ks, none :: us, v :: vs, ts, σ => σ[i]? = some (some v) ∧ CRel ks us vs ts σ
  | .mv i :: ks, none :: us, v :: vs, ts, σ => σ[i]? = some (some v) ∧ CRel ks us vs ts σ
  | _, _, _, _, _ => False
def CPost (K : PySem.W.Frag) (W : WX) (io : List Nat) (ρ : Nat → V) (ks : List AK) (md : List Nat) (ts : List T) (σ : L2.St) (H : Hp) (Q : List V → Hp → Prop) : R (List (Option D) × List D) → Prop
  | .ok (xs, s) => ∀ ts' us vs H', Sim K io ρ ts' σ H' → T.ers ts' = s → oer us = xs → (∀ u ∈ fl us, u.ok K H') → CRel ks us vs ts' σ → Step H ts H' (fl us ++ ts') → (∀ j, j ∉ md → ts'[j]? = ts[j]?) → Q vs H'
  | .ex c fs s => ∀ ts' H' d, Sim K io ρ ts' σ H' → T.ers ts' = s → Step H ts H' ts' → XRel H' d fs → W c d σ H'
  | .no => False
def CRd (K : PySem.W.Frag) (W : WX) (io : List Nat) (ks : List AK) (md : List Nat) (t : TA) (d : EC) : Prop :=
  ∀ ρ ts σ H Q, Sim K io ρ ts σ H → CPost K W io ρ ks md ts σ H Q (d (T.ers ts)) → t σ H Q
structure DC (X : Cx) (W : WX) (io : List Nat) (ks : List AK) (md : List Nat) (es : List Expr) (t : TA) (d : EC) : Prop where
  pa : PA X es t
  rd : CRd X.K W io ks md t d
def dCnil : EC := fun s => .ok ([], s)
def dCval (m : Md) (mr : List Nat) (de : E) (dr : EC) : EC := fun s => (de s).bind fun q => if (clr m mr || !q.1.hasOwn) = true then (dr q.2).bind fun r => .ok (some q.1 :: r.1, r.2) else .no
def dCvalC (chk : D → Bool) (m : Md) (mr : List Nat) (de : E) (dr : EC) : EC := fun s => (de s).bind fun q => if chk q.1 = true then (if (clr m mr || !q.1.hasOwn) = true then (dr q.2).bind fun r => .ok (some q.1 :: r.1, r.2) else .no) else .no
def dCslot (i : Nat) (dr : EC) : EC := fun s => (dn i s).bind fun q => (dr q.2).bind fun r => .ok (none :: r.1, r.2)
section
variable {K : PySem.W.Frag} {W : WX} {io : List Nat}
theorem crd_nil : CRd K W io [] [] tNil dCnil := fun ρ ts σ H Q S h => h ts [] [] H S rfl rfl (fun _ m => nomatch m) trivial Step.refl fun _ _ => rfl
theorem ccons_tail {m : Md} {ks : List AK} {md mr : List Nat} {tr : TA} {dr : EC} {ρ : Nat → V} {ts ts1 : List T} {σ : L2.St} {H H1 : Hp} {Q : List V → Hp → Prop} {x : D} {s : List D} {t : T} (hr : CRd K W io ks mr tr dr)
    (h : CPost K W io ρ (.val m :: ks) (md ++ mr) ts σ H Q (if (clr m mr || !x.hasOwn) = true then (dr s).bind fun r => .ok (some x :: r.1, r.2) else .no))
    (S1 : Sim K io ρ ts1 σ H1) (e1 : T.ers ts1 = s) (et : t.er = x) (ok1 : t.ok K H1) (mr1 : MRel m t ts1) (st1 : Step H ts H1 (t :: ts1)) (pu1 : ∀ j, j ∉ md → ts1[j]? = ts[j]?) :
    tr σ H1 fun xs H2 => Q (t.rt :: xs) H2 := by
  by_cases hc : (clr m mr || !x.hasOwn) = true
  · rw [if_pos hc] at h
    refine hr ρ ts1 σ H1 _ S1 ?_
    rw [e1]
    cases eb : dr s with
    | no => rw [eb] at h; exact h
    | ex c fs s2 =>
      rw [eb] at h
      exact fun ts2 H2 d S2 e2 st2 xr => h ts2 H2 d S2 e2 (st1.tail.trans st2) xr
    | ok q2 =>
      obtain ⟨xs, s2⟩ := q2
      rw [eb] at h
      intro ts2 us vs H2 S2 e2 eus okus cr st2 pu2
      have key : t.ok K H2 ∧ MRel m t ts2 := by
        have free : (∀ u ∈ ts1, Dj t u) → t.ok K H2 ∧ ∀ u ∈ ts2, Dj t u := fun hd =>
          ⟨keepT ok1 S1.ok st2 fun u mu a ma => (hd u mu).2 a ma, fun u mu => djStep ok1 hd st2 u (List.mem_append_right _ mu)⟩
        have fr2 : t.own = [] → t.ok K H2 ∧ MRel m t ts2 := fun on => by
          obtain ⟨k1, k2⟩ := free (mr1.tmp S1.wf on).2
          exact ⟨k1, TRel.of ⟨mr1.good S1.wf, k2⟩ on⟩
        cases m with
        | tmp =>
          obtain ⟨k1, k2⟩ := free mr1.2
          exact ⟨k1, mr1.1, k2⟩
        | vw src =>
          rcases mr1 with ⟨i, mi, u, eu, sb⟩ | ⟨on, _⟩
          · by_cases ho : x.hasOwn = false
            · exact fr2 (T.own_nil (by rw [et]; exact ho))
            · have hx : x.hasOwn = true := by cases q : x.hasOwn with | true => rfl | false => exact absurd q ho
              rw [hx, Bool.not_true, Bool.or_false] at hc
              have hi : i ∉ mr := by
                have := (List.all_eq_true.mp hc) i mi
                simpa using this
              have e2' : ts2[i]? = some u := (pu2 i hi).trans eu
              exact ⟨sb.ok (S2.ok u (List.mem_of_getElem? e2')), .inl ⟨i, mi, u, e2', sb⟩⟩
          · exact fr2 on
      obtain ⟨k1, k2⟩ := key
      refine h ts2 (some t :: us) (t.rt :: vs) H2 S2 e2 (by rw [← et, ← eus]; rfl) (fun u mu => ?_) ⟨rfl, k2, cr⟩ ?_ fun j hj => ?_
      · rcases List.mem_cons.mp (show u ∈ t :: fl us from mu) with rfl | mu
        · exact k1
        · exact okus u mu
      · have s3 := st1.tail.trans st2
        exact s3.cons (st1.ow _ List.mem_cons_self) (st1.tr _ List.mem_cons_self) (st1.im _ List.mem_cons_self)
      · rw [List.mem_append, not_or] at hj
        exact (pu2 j hj.2).trans (pu1 j hj.1)
  · rw [if_neg hc] at h; exact h.elim
theorem crd_val {m : Md} {ks : List AK} {md mr : List Nat} {te : TE} {tr : TA} {de : E} {dr : EC} (he : ERd K W io m md te de) (hr : CRd K W io ks mr tr dr) : CRd K W io (.val m :: ks) (md ++ mr) (tCons te tr) (dCval m mr de dr) := by
  refine fun ρ ts σ H Q S h => ?_
  refine he ρ ts σ H _ S ?_
  unfold dCval at h
  cases ea : de (T.ers ts) with
  | no => rw [ea] at h; exact h
  | ex c fs s => rw [ea] at h; exact h
  | ok q =>
    rw [ea] at h
    exact fun ts1 t H1 S1 e1 et ok1 mr1 st1 pu1 => ccons_tail hr h S1 e1 et ok1 mr1 st1 pu1
theorem crd_valC {C : V → Hp → Prop} {chk : D → Bool} {m : Md} {ks : List AK} {md mr : List Nat} {te : TE} {tr : TA} {de : E} {dr : EC} (he : ERd K W io m md te de) (hr : CRd K W io ks mr tr dr)
    (hC : ∀ (H : Hp) (t : T), t.ok K H → chk t.er = true → C t.rt H) : CRd K W io (.val m :: ks) (md ++ mr) (tConsC C te tr) (dCvalC chk m mr de dr) := by
  refine fun ρ ts σ H Q S h => ?_
  refine he ρ ts σ H _ S ?_
  unfold dCvalC at h
  cases ea : de (T.ers ts) with
  | no => rw [ea] at h; exact h
  | ex c fs s => rw [ea] at h; exact h
  | ok q =>
    rw [ea] at h
    obtain ⟨x, s⟩ := q
    intro ts1 t H1 S1 e1 et ok1 mr1 st1 pu1
    simp only [R.bind] at h
    by_cases hk : chk x = true
    · rw [if_pos hk] at h
      exact ⟨hC H1 t ok1 (by rw [et]; exact hk), ccons_tail hr h S1 e1 et ok1 mr1 st1 pu1⟩
    · rw [if_neg hk] at h; exact h.elim
theorem crd_slot {k : AK} {i : Nat} {ks : List AK} {mr : List Nat} {tr : TA} {dr : EC} (hk : k = .io i ∨ k = .mv i) (hr : CRd K W io ks mr tr dr) : CRd K W io (k :: ks) mr (tCons (tVar i) tr) (dCslot i dr) := fun ρ ts σ H Q S h => by
  unfold dCslot dn at h
  cases e : (T.ers ts)[i]? with
  | none => rw [e] at h; exact h.elim
  | some d =>
    obtain ⟨t, et, ed⟩ := ers_get e
    rw [e] at h
    have go : t ≠ .un → CPost K W io ρ (k :: ks) mr ts σ H Q ((dr (T.ers ts)).bind fun r => .ok (none :: r.1, r.2)) → tCons (tVar i) tr σ H Q := fun ne h => by
      have ev := S.rt i t et ne
      refine ⟨t.rt, ev, hr ρ ts σ H _ S ?_⟩
      cases eb : dr (T.ers ts) with
      | no => rw [eb] at h; exact h
      | ex c fs s2 => rw [eb] at h; exact h
      | ok q2 =>
        obtain ⟨xs, s2⟩ := q2
        rw [eb] at h
        intro ts2 us vs H2 S2 e2 eus okus cr st2 pu2
        refine h ts2 (none :: us) (t.rt :: vs) H2 S2 e2 (by rw [← eus]; rfl) okus ?_ st2 pu2
        rcases hk with rfl | rfl
        · exact ⟨ev, cr⟩
        · exact ⟨ev, cr⟩
    cases d with
    | un => exact h.elim
    | v x => exact go (er_un (by rw [ed]; intro z; cases z)) h
    | nd k xs => exact go (er_un (by rw [ed]; intro z; cases z)) h
end
section
variable {X : Cx} {W : WX} {io : List Nat}
theorem dc_nil : DC X W io [] [] [] tNil dCnil := ⟨pa_nil, crd_nil⟩
theorem dc_val {m : Md} {ks : List AK} {md mr : List Nat} {e : Expr} {es : List Expr} {te : TE} {tr : TA} {de : E} {dr : EC} (he : DE X W io m md e te de) (hr : DC X W io ks mr es tr dr)
    (hs : starEach (e :: es) X.env = (false, eval e X.env) :: starEach es X.env := by rfl) : DC X W io (.val m :: ks) (md ++ mr) (e :: es) (tCons te tr) (dCval m mr de dr) := ⟨pa_cons he.pe hr.pa hs, crd_val he.rd hr.rd⟩
theorem dc_io (i : Nat) {ks : List AK} {mr : List Nat} {x : Str} {pos : Pos} {es : List Expr} {tr : TA} {dr : EC} (hr : DC X W io ks mr es tr dr) (hN : X.N[i]? = some x := by rfl) (hv : Vis X.env.scope x := by first | exact Or.inl rfl | exact Or.inr (Or.inl rfl) | exact Or.inr (Or.inr rfl)) (hd : (x == ("__debug__" : Str)) = false := by decide)
    (hcd : (x == ("__classdict__" : Str)) = false := by decide) (hs : starEach (.Name x pos :: es) X.env = (false, eval (.Name x pos) X.env) :: starEach es X.env := by rfl) : DC X W io (.io i :: ks) mr (.Name x pos :: es) (tCons (tVar i) tr) (dCslot i dr) := ⟨pa_cons (pe_var hN hv hd hcd) hr.pa hs, crd_slot (.inl rfl) hr.rd⟩
theorem dc_mv (i : Nat) {ks : List AK} {mr : List Nat} {x : Str} {pos : Pos} {es : List Expr} {tr : TA} {dr : EC} (hr : DC X W io ks mr es tr dr) (hN : X.N[i]? = some x := by rfl) (hv : Vis X.env.scope x := by first | exact Or.inl rfl | exact Or.inr (Or.inl rfl) | exact Or.inr (Or.inr rfl)) (hd : (x == ("__debug__" : Str)) = false := by decide)
    (hcd : (x == ("__classdict__" : Str)) = false := by decide) (hs : starEach (.Name x pos :: es) X.env = (false, eval (.Name x pos) X.env) :: starEach es X.env := by rfl) : DC X W io (.mv i :: ks) mr (.Name x pos :: es) (tCons (tVar i) tr) (dCslot i dr) := ⟨pa_cons (pe_var hN hv hd hcd) hr.pa hs, crd_slot (.inr rfl) hr.rd⟩
end

/-! ### what the callee is handed -/
def asmD : List AK → List (Option D) → List D → Option (List D)
  | [], [], _ => some []
  | .val _ :: ks, some x :: xs, s => (asmD ks xs s).map fun r => x.fz :: r
  | .io i :: ks, none :: xs, s => match s[i]? with
    | none => none
    | some .un => none
    | some d => (asmD ks xs s).map fun r => d :: r
  | .mv i :: ks, none :: xs, s => match s[i]? with
    | none => none
    | some .un => none
    | some d => (asmD ks xs s).map fun r => d :: r
  | _, _, _ => none
def valOk (is : List Nat) : List AK → List (Option D) → Bool
  | .val m :: ks, some x :: xs => (clr m is || !x.hasOwn) && valOk is ks xs
  | _ :: ks, _ :: xs => valOk is ks xs
  | _, _ => true
def valFree : List AK → List (Option D) → Bool
  | .val m :: ks, some x :: xs => (m.isTmp || !x.hasOwn) && valFree ks xs
  | _ :: ks, _ :: xs => valFree ks xs
  | _, _ => true
/-- a callee's tree: a view, frozen; or the slot's own -/
inductive Arg (is : List Nat) (ts : List T) (us : List T) : T → Prop
  | val {u : T} (m : u ∈ us) : Arg is ts us u.fz
  | slot {i : Nat} {t : T} (m : i ∈ is) (e : ts[i]? = some t) (ne : t ≠ .un) : Arg is ts us t
theorem asm_ok {K : PySem.W.Frag} {io : List Nat} {ρ : Nat → V} {ts : List T} {σ : L2.St} {H : Hp} (S : Sim K io ρ ts σ H) : ∀ (ks : List AK) (us : List (Option T)) (vs : List V) (args : List D) (is : List Nat), CRel ks us vs ts σ → asmD ks (oer us) (T.ers ts) = some args → (∀ i ∈ ixs ks, i ∈ is) → valOk is ks (oer us) = true → (ixs ks).Nodup →
    ∃ cs : List T, T.ers cs = args ∧ vs = T.rts cs ∧ (∀ c ∈ cs, Arg (ixs ks) ts (fl us) c) ∧ WF cs ∧ cs.length = ks.length ∧ (∀ (i : Nat) (c : T), cs[i]? = some c → (ks.map AK.pm)[i]? = some PM.val → c.own = []) := by
  intro ks
  induction ks with
  | nil =>
    intro us vs args is cr ha _ _ _
    cases us with
    | cons _ _ => exact (by cases vs <;> exact cr.elim)
    | nil => cases vs with
      | cons _ _ => exact cr.elim
      | nil => cases ha; exact ⟨[], rfl, rfl, fun _ m => (nomatch m), WF.nil, rfl, fun i c e => by simp at e⟩
  | cons k ks ih =>
    intro us vs args is cr ha hi hv hn
    have wide : ∀ {is2 : List Nat} {c : T}, (∀ i ∈ ixs ks, i ∈ is2) → ∀ {us2 us3 : List T}, (∀ u ∈ us2, u ∈ us3) → Arg (ixs ks) ts us2 c → Arg is2 ts us3 c := by
      intro is2 c hh us2 us3 hu a
      cases a with
      | val m => exact .val (hu _ m)
      | slot m e ne => exact .slot (hh _ m) e ne
    -- a slot's tree
    have slotCase : ∀ (i : Nat) (us' : List (Option T)) (v : V) (vs' : List V) (pmk : PM), σ[i]? = some (some v) → CRel ks us' vs' ts σ → pmk ≠ .val → i ∉ ixs ks → i ∈ is →
        (match (T.ers ts)[i]? with
          | none => none
          | some .un => none
          | some d => (asmD ks (oer us') (T.ers ts)).map fun r => d :: r) = some args → (∀ i ∈ ixs ks, i ∈ is) → valOk is ks (oer us') = true → (ixs ks).Nodup →
        ∃ cs : List T, T.ers cs = args ∧ v :: vs' = T.rts cs ∧ (∀ c ∈ cs, Arg (i :: ixs ks) ts (fl us') c) ∧ WF cs ∧ cs.length = ks.length + 1 ∧ (∀ (j : Nat) (c : T), cs[j]? = some c → (pmk :: ks.map AK.pm)[j]? = some PM.val → c.own = []) := by
      intro i us' v vs' pmk hσ cr' hpm hni hii ha' hi' hv' hn'
      cases e : (T.ers ts)[i]? with
      | none => rw [e] at ha'; cases ha'
      | some d =>
        obtain ⟨t, et, ed⟩ := ers_get e
        rw [e] at ha'
        have ne : t ≠ .un := fun z => by
          rw [z] at ed
          rw [← ed] at ha'
          cases ha'
        have ha2 : (asmD ks (oer us') (T.ers ts)).map (fun r => d :: r) = some args := by
          cases d with
          | un => cases ha'
          | v x => exact ha'
          | nd k xs => exact ha'
        cases eb : asmD ks (oer us') (T.ers ts) with
        | none => rw [eb] at ha2; cases ha2
        | some r =>
          rw [eb] at ha2
          cases ha2
          obtain ⟨cs, c1, c2, c3, c4, c5, c6⟩ := ih us' vs' r is cr' eb hi' hv' hn'
          have hrt : v = t.rt := by
            have := S.rt i t et ne
            rw [hσ] at this
            cases this; rfl
          refine ⟨t :: cs, by rw [T.ers, ed, c1], by rw [T.rts, ← c2, hrt], fun c mc => ?_, WF.cons (S.wf.mem (List.mem_of_getElem? et)) (fun c mc => ?_) c4, by rw [List.length_cons, c5], fun j c ej pj => ?_⟩
          · rcases List.mem_cons.mp mc with rfl | mc
            · exact .slot (by simp) et ne
            · exact wide (fun j mj => List.mem_cons_of_mem _ mj) (fun _ m => m) (c3 c mc)
          · cases c3 c mc with
            | slot m e' ne' => exact S.wf.get (fun z => hni (by rw [z]; exact m)) et e'
            | @val u m =>
              refine ⟨fun a ma z => ?_, fun a ma => (by rw [T.fz_own] at ma; cases ma)⟩
              rw [T.fz_trk] at z
              -- the view's own nodes are not this slot's
              obtain ⟨j, ej⟩ := List.getElem?_of_mem (List.mem_filterMap.mp m).choose_spec.1
              have go : ∀ (ks : List AK) (us' : List (Option T)) (vs' : List V), CRel ks us' vs' ts σ → valOk is ks (oer us') = true → ∀ u ∈ fl us', a ∉ u.trk := by
                intro ks
                induction ks with
                | nil =>
                  intro us' vs' cr _ u mu
                  cases us' with
                  | nil => cases mu
                  | cons _ _ => exact (by cases vs' <;> exact cr.elim)
                | cons k ks ih2 =>
                  intro us' vs' cr hv u mu
                  cases us' with
                  | nil => cases mu
                  | cons o us' =>
                    cases vs' with
                    | nil => exact (by cases k <;> cases o <;> exact cr.elim)
                    | cons v vs' =>
                      cases k with
                      | val m =>
                        cases o with
                        | none => exact cr.elim
                        | some w =>
                          obtain ⟨_, mr, cr⟩ := cr
                          have hv : ((clr m is || !w.er.hasOwn) && valOk is ks (oer us')) = true := hv
                          rw [Bool.and_eq_true] at hv
                          rcases List.mem_cons.mp (show u ∈ w :: fl us' from mu) with rfl | mu
                          · by_cases ho : u.er.hasOwn = false
                            · exact mr.own S.wf t (List.mem_of_getElem? et) a ma (by rw [T.own_nil ho]; simp)
                            · have hx : u.er.hasOwn = true := by cases q : u.er.hasOwn with | true => rfl | false => exact absurd q ho
                              have hv1 := hv.1
                              rw [hx, Bool.not_true, Bool.or_false] at hv1
                              cases m with
                              | tmp => exact (mr.2 t (List.mem_of_getElem? et)).2 a ma
                              | vw src =>
                                rcases mr with ⟨q, mq, w', ew, sb⟩ | ⟨_, tr⟩
                                · have nq : q ∉ is := by
                                    have := List.all_eq_true.mp hv1 q mq
                                    simpa using this
                                  exact fun z => (S.wf.get (fun y => nq (by rw [y]; exact hii)) ew et).2 a ma (sb.col z)
                                · exact (tr.2 t (List.mem_of_getElem? et)).2 a ma
                          · exact ih2 us' vs' cr hv.2 u mu
                      | io q =>
                        cases o with
                        | some _ => exact cr.elim
                        | none => exact ih2 us' vs' cr.2 hv u mu
                      | mv q =>
                        cases o with
                        | some _ => exact cr.elim
                        | none => exact ih2 us' vs' cr.2 hv u mu
              exact go ks us' vs' cr' hv' u m z
          · cases j with
            | zero =>
              have : pmk = PM.val := by simpa using pj
              exact absurd this hpm
            | succ j => exact c6 j c (by simpa using ej) (by simpa using pj)
    cases us with
    | nil => exact (by cases k <;> cases vs <;> exact cr.elim)
    | cons o us =>
      cases vs with
      | nil => exact (by cases k <;> cases o <;> exact cr.elim)
      | cons v vs =>
        cases k with
        | val mm =>
          cases o with
          | none => exact cr.elim
          | some u =>
            obtain ⟨rfl, mr, cr⟩ := cr
            have hv : ((clr mm is || !u.er.hasOwn) && valOk is ks (oer us)) = true := hv
            rw [Bool.and_eq_true] at hv
            have ha : (asmD ks (oer us) (T.ers ts)).map (fun r => u.er.fz :: r) = some args := ha
            cases eb : asmD ks (oer us) (T.ers ts) with
            | none => rw [eb] at ha; cases ha
            | some r =>
              rw [eb] at ha
              cases ha
              obtain ⟨cs, c1, c2, c3, c4, c5, c6⟩ := ih us vs r is cr eb hi hv.2 hn
              refine ⟨u.fz :: cs, by rw [T.ers, T.fz_er, c1], by rw [T.rts, T.fz_rt, ← c2], fun c mc => ?_, WF.cons (T.fz_good u) (fun c mc => ?_) c4, by rw [List.length_cons, List.length_cons, c5], fun j c ej pj => ?_⟩
              · rcases List.mem_cons.mp mc with rfl | mc
                · exact .val (show u ∈ u :: fl us from List.mem_cons_self)
                · exact wide (fun j mj => mj) (fun w m => (show w ∈ u :: fl us from List.mem_cons_of_mem _ m)) (c3 c mc)
              · refine ⟨fun a ma => (by rw [T.fz_own] at ma; cases ma), fun a ma z => ?_⟩
                rw [T.fz_trk] at z
                cases c3 c mc with
                | val m => rw [T.fz_own] at ma; cases ma
                | @slot i _ m e ne =>
                  by_cases ho : u.er.hasOwn = false
                  · exact mr.own S.wf c (List.mem_of_getElem? e) a ma (by rw [T.own_nil ho]; simp) z
                  · have hx : u.er.hasOwn = true := by cases q : u.er.hasOwn with | true => rfl | false => exact absurd q ho
                    have hv1 := hv.1
                    rw [hx, Bool.not_true, Bool.or_false] at hv1
                    cases mm with
                    | tmp => exact (mr.2 c (List.mem_of_getElem? e)).2 a ma z
                    | vw src =>
                      rcases mr with ⟨q, mq, w', ew, sb⟩ | ⟨_, tr⟩
                      · have nq : q ∉ is := by
                          have := List.all_eq_true.mp hv1 q mq
                          simpa using this
                        exact (S.wf.get (fun y => nq (by rw [y]; exact hi i m)) ew e).2 a ma (sb.col z)
                      · exact (tr.2 c (List.mem_of_getElem? e)).2 a ma z
              · cases j with
                | zero =>
                  have : u.fz = c := by simpa using ej
                  subst this
                  exact T.fz_own u
                | succ j => exact c6 j c (by simpa using ej) (by simpa using pj)
        | io i =>
          cases o with
          | some _ => exact cr.elim
          | none =>
            have hn2 := List.nodup_cons.mp (show (i :: ixs ks).Nodup from hn)
            exact slotCase i us v vs .io cr.1 cr.2 (by intro z; cases z) hn2.1 (hi i List.mem_cons_self) ha (fun j mj => hi j (List.mem_cons_of_mem _ mj)) hv hn2.2
        | mv i =>
          cases o with
          | some _ => exact cr.elim
          | none =>
            have hn2 := List.nodup_cons.mp (show (i :: ixs ks).Nodup from hn)
            exact slotCase i us v vs .mv cr.1 cr.2 (by intro z; cases z) hn2.1 (hi i List.mem_cons_self) ha (fun j mj => hi j (List.mem_cons_of_mem _ mj)) hv hn2.2
end VS

namespace VS
open PySem PySem.Spec PyProof.Rows L2

def D.isUn : D → Bool
  | .un => true
  | _ => false
theorem isUn_er {t : T} (h : t.er.isUn = false) : t ≠ .un := fun z => by rw [z] at h; cases h
/-! ### behind a call -/
def putD' : List AK → List D → List D → List D
  | .val _ :: ks, os, s => putD' ks os s
  | .mv _ :: ks, os, s => putD' ks os s
  | .io i :: ks, o :: os, s => putD' ks os (s.set i o)
  | _, _, s => s
def putT' : List AK → List T → List T → List T
  | .val _ :: ks, os, s => putT' ks os s
  | .mv _ :: ks, os, s => putT' ks os s
  | .io i :: ks, o :: os, s => putT' ks os (s.set i o)
  | _, _, s => s
def putD (ks : List AK) (os s : List D) : List D := putD' ks os (wipeD (ixs ks) s)
theorem ers_put : ∀ (ks : List AK) (us ts : List T), T.ers (putT' ks us ts) = putD' ks (T.ers us) (T.ers ts)
  | .val _ :: ks, us, ts => by rw [putT', putD', ers_put ks us ts]
  | .mv _ :: ks, us, ts => by rw [putT', putD', ers_put ks us ts]
  | .io i :: ks, u :: us, ts => by rw [putT', ers_put ks us, ers_set, T.ers, putD']
  | .io i :: ks, [], ts => by rw [putT', T.ers, putD'] <;> (intros; simp_all)
  | [], us, ts => by rw [putT', putD'] <;> (intros; simp_all)
theorem put_len : ∀ (ks : List AK) (us ts : List T), (putT' ks us ts).length = ts.length
  | .val _ :: ks, us, ts => by rw [putT', put_len ks us ts]
  | .mv _ :: ks, us, ts => by rw [putT', put_len ks us ts]
  | .io i :: ks, u :: us, ts => by rw [putT', put_len ks us, List.length_set]
  | .io i :: ks, [], ts => by rw [putT'] <;> (intros; simp_all)
  | [], us, ts => by rw [putT'] <;> (intros; simp_all)
theorem put_mem : ∀ (ks : List AK) (us ts : List T) (w : T), w ∈ putT' ks us ts → w ∈ ts ∨ w ∈ us
  | .val _ :: ks, us, ts, w, h => by rw [putT'] at h; exact put_mem ks us ts w h
  | .mv _ :: ks, us, ts, w, h => by rw [putT'] at h; exact put_mem ks us ts w h
  | .io i :: ks, u :: us, ts, w, h => by
    rw [putT'] at h
    rcases put_mem ks us _ w h with m | m
    · rcases List.mem_or_eq_of_mem_set m with m | rfl
      · exact .inl m
      · exact .inr List.mem_cons_self
    · exact .inr (List.mem_cons_of_mem _ m)
  | .io i :: ks, [], ts, w, h => by
    have e : putT' (.io i :: ks) [] ts = ts := by rw [putT'] <;> (intros; simp_all)
    rw [e] at h; exact .inl h
  | [], us, ts, w, h => by
    have e : putT' [] us ts = ts := by rw [putT'] <;> (intros; simp_all)
    rw [e] at h; exact .inl h
theorem put_out : ∀ (ks : List AK) (us ts : List T) (j : Nat), j ∉ ixs ks → (putT' ks us ts)[j]? = ts[j]?
  | .val _ :: ks, us, ts, j, h => by rw [putT']; exact put_out ks us ts j h
  | .mv _ :: ks, us, ts, j, h => by
    rw [putT']
    have h : j ∉ _ :: ixs ks := h
    rw [List.mem_cons, not_or] at h
    exact put_out ks us ts j h.2
  | .io i :: ks, u :: us, ts, j, h => by
    have h : j ∉ i :: ixs ks := h
    rw [List.mem_cons, not_or] at h
    rw [putT', put_out ks us _ j h.2, List.getElem?_set_ne (Ne.symm h.1)]
  | .io i :: ks, [], ts, j, h => by
    have e : putT' (.io i :: ks) [] ts = ts := by rw [putT'] <;> (intros; simp_all)
    rw [e]
  | [], us, ts, j, h => by
    have e : putT' [] us ts = ts := by rw [putT'] <;> (intros; simp_all)
    rw [e]
theorem wf_put : ∀ (ks : List AK) (us ts : List T), WF us → WF ts → (∀ u ∈ us, ∀ w ∈ ts, Dj u w) → WF (putT' ks us ts)
  | .val _ :: ks, us, ts, h1, h2, h => by rw [putT']; exact wf_put ks us ts h1 h2 h
  | .mv _ :: ks, us, ts, h1, h2, h => by rw [putT']; exact wf_put ks us ts h1 h2 h
  | .io i :: ks, u :: us, ts, h1, h2, h => by
    rw [putT']
    refine wf_put ks us _ h1.head.2.2 (h2.set h1.head.1 fun j w _ e => h u List.mem_cons_self w (List.mem_of_getElem? e)) fun v mv w mw => ?_
    rcases List.mem_or_eq_of_mem_set mw with mw | rfl
    · exact h v (List.mem_cons_of_mem _ mv) w mw
    · exact (h1.head.2.1 v mv).symm
  | .io i :: ks, [], ts, h1, h2, h => by
    have e : putT' (.io i :: ks) [] ts = ts := by rw [putT'] <;> (intros; simp_all)
    rw [e]; exact h2
  | [], us, ts, h1, h2, h => by
    have e : putT' [] us ts = ts := by rw [putT'] <;> (intros; simp_all)
    rw [e]; exact h2
def iov : List PM → List V → List V
  | .io :: ps, v :: vs => v :: iov ps vs
  | .val :: ps, _ :: vs => iov ps vs
  | .mv :: ps, _ :: vs => iov ps vs
  | _, _ => []
/-- the roots at the slots -/
theorem put_rt {ts1 : List T} {σ : L2.St} : ∀ (ks : List AK) (os : List (Option T)) (us : List T) (vs : List V) (ts : List T), CRel ks os vs ts1 σ → T.rts us = iov (ks.map AK.pm) vs → ∀ (j : Nat) (w : T), (putT' ks us ts)[j]? = some w → ts[j]? = some w ∨ σ[j]? = some (some w.rt)
  | [], _, us, vs, ts, _, _, j, w, e => by
    have q : putT' [] us ts = ts := by rw [putT'] <;> (intros; simp_all)
    rw [q] at e; exact .inl e
  | k :: ks, [], us, vs, ts, cr, _, j, w, e => by cases k <;> cases vs <;> exact cr.elim
  | k :: ks, o :: os, us, [], ts, cr, _, j, w, e => by cases k <;> cases o <;> exact cr.elim
  | .val m :: ks, o :: os, us, v :: vs, ts, cr, hr, j, w, e => by
    cases o with
    | none => exact cr.elim
    | some u =>
      rw [putT'] at e
      exact put_rt ks os us vs ts cr.2.2 hr j w e
  | .mv i :: ks, o :: os, us, v :: vs, ts, cr, hr, j, w, e => by
    cases o with
    | some u => exact cr.elim
    | none =>
      rw [putT'] at e
      exact put_rt ks os us vs ts cr.2 hr j w e
  | .io i :: ks, o :: os, us, v :: vs, ts, cr, hr, j, w, e => by
    cases o with
    | some u => exact cr.elim
    | none =>
      cases us with
      | nil => rw [T.rts] at hr; cases hr
      | cons u us =>
        rw [T.rts] at hr
        have hr : u.rt :: T.rts us = v :: iov (ks.map AK.pm) vs := hr
        injection hr with h1 h2
        rw [putT'] at e
        rcases put_rt ks os us vs _ cr.2 h2 j w e with q | q
        · by_cases hj : i = j
          · subst hj
            have hl : i < ts.length := by
              have := (List.getElem?_eq_some_iff.mp q).1
              simpa using this
            rw [List.getElem?_set_self hl] at q
            cases q
            exact .inr (by rw [h1]; exact cr.1)
          · rw [List.getElem?_set_ne hj] at q
            exact .inl q
        · exact .inr q
/-- each slot that was handed in and comes back stands again -/
def ioIx : List AK → List Nat
  | [] => []
  | .io i :: r => i :: ioIx r
  | .val _ :: r => ioIx r
  | .mv _ :: r => ioIx r
theorem ioIx_sub : ∀ {ks : List AK} {i : Nat}, i ∈ ioIx ks → i ∈ ixs ks
  | .io j :: r, i, h => by
    rcases List.mem_cons.mp (show i ∈ j :: ioIx r from h) with e | h
    · exact List.mem_cons.mpr (.inl e)
    · exact List.mem_cons_of_mem _ (ioIx_sub h)
  | .val _ :: r, i, h => ioIx_sub (ks := r) h
  | .mv _ :: r, i, h => List.mem_cons_of_mem _ (ioIx_sub (ks := r) h)
theorem put_in {ts1 : List T} {σ : L2.St} : ∀ (ks : List AK) (os : List (Option T)) (us : List T) (vs : List V) (ts : List T), CRel ks os vs ts1 σ → T.rts us = iov (ks.map AK.pm) vs → (ixs ks).Nodup → ∀ (j : Nat), j ∈ ioIx ks → j < ts.length → ∃ w ∈ us, (putT' ks us ts)[j]? = some w
  | k :: ks, [], us, vs, ts, cr, _, _, j, _, _ => by cases k <;> cases vs <;> exact cr.elim
  | k :: ks, o :: os, us, [], ts, cr, _, _, j, _, _ => by cases k <;> cases o <;> exact cr.elim
  | .val m :: ks, o :: os, us, v :: vs, ts, cr, hr, hn, j, hj, hl => by
    cases o with
    | none => exact cr.elim
    | some u => rw [putT']; exact put_in ks os us vs ts cr.2.2 hr hn j hj hl
  | .mv i :: ks, o :: os, us, v :: vs, ts, cr, hr, hn, j, hj, hl => by
    cases o with
    | some u => exact cr.elim
    | none => rw [putT']; exact put_in ks os us vs ts cr.2 hr (List.nodup_cons.mp (show (i :: ixs ks).Nodup from hn)).2 j hj hl
  | .io i :: ks, o :: os, us, v :: vs, ts, cr, hr, hn, j, hj, hl => by
    cases o with
    | some u => exact cr.elim
    | none =>
      cases us with
      | nil => rw [T.rts] at hr; cases hr
      | cons u us =>
        rw [T.rts] at hr
        have hr : u.rt :: T.rts us = v :: iov (ks.map AK.pm) vs := hr
        injection hr with h1 h2
        have hn2 := List.nodup_cons.mp (show (i :: ixs ks).Nodup from hn)
        rw [putT']
        rcases List.mem_cons.mp (show j ∈ i :: ioIx ks from hj) with rfl | hj
        · exact ⟨u, List.mem_cons_self, by rw [put_out ks us _ j hn2.1, List.getElem?_set_self hl]⟩
        · obtain ⟨w, mw, e⟩ := put_in ks os us vs (ts.set i u) cr.2 h2 hn2.2 j hj (by rw [List.length_set]; exact hl)
          exact ⟨w, List.mem_cons_of_mem _ mw, e⟩

/-! ### what a def promises -/
abbrev FD := List D → R (D × List D)
def FPost (K : PySem.W.Frag) (pm : List PM) (ts : List T) (vs : List V) (H : Hp) (Q : VK) (E : XK) : R (D × List D) → Prop
  | .ok (x, os) => ∀ t us H', t.er = x → T.ers us = os → T.rts us = iov pm vs → (∀ u ∈ us, u ≠ .un) → t.ok K H' → (∀ u ∈ us, u.ok K H') → WF (t :: us) → Step H ts H' (t :: us) → Q t.rt H'
  | .ex c fs os => ∀ us H' d, T.ers us = os → T.rts us = iov pm vs → (∀ u ∈ us, u ≠ .un) → (∀ u ∈ us, u.ok K H') → WF us → Step H ts H' us → XRel H' d fs → E c d H'
  | .no => False
def spOf (K : PySem.W.Frag) (pm : List PM) (F : FD) : Sp := fun vs H Q E => ∃ ts : List T, vs = T.rts ts ∧ (∀ t ∈ ts, t.ok K H) ∧ WF ts ∧ ts.length = pm.length ∧
  (∀ (i : Nat) (t : T), ts[i]? = some t → pm[i]? = some PM.val → t.own = []) ∧ (∀ t ∈ ts, t ≠ .un) ∧ FPost K pm ts vs H Q E (F (T.ers ts))
/-- a call's denotation -/
def dCall (F : FD) (ks : List AK) (dc : EC) : E := fun s => (dc s).bind fun q => match asmD ks q.1 q.2 with
  | none => .no
  | some args => if (valOk (ixs ks) ks q.1 && args.all fun x => !x.isUn) = true then (match F args with
      | .ok r => if (valFree ks q.1 || (!r.1.hasShr && !D.hass NK.isShr r.2)) = true then .ok (r.1, putD ks r.2 q.2) else .no
      | .ex c fs os => if (valFree ks q.1 || !D.hass NK.isShr os) = true then .ex c fs (putD ks os q.2) else .no
      | .no => .no)
    else .no
/-- what the caller's other slots own is not among what comes back -/
theorem after_call {K : PySem.W.Frag} {io : List Nat} {ρ : Nat → V} {ts1 cs B : List T} {us : List (Option T)} {vs : List V} {σ : L2.St} {H1 H' : Hp} {ks : List AK} (S1 : Sim K io ρ ts1 σ H1) (cr : CRel ks us vs ts1 σ) (ha : ∀ c ∈ cs, Arg (ixs ks) ts1 (fl us) c) (st : Step H1 cs H' B)
    (hf : valFree ks (oer us) = true ∨ ∀ b ∈ B, b.col NK.isShr = []) {j : Nat} {w : T} (hj : j ∉ ixs ks) (ej : ts1[j]? = some w) : ∀ b ∈ B, Dj b w := by
  have okw := S1.ok w (List.mem_of_getElem? ej)
  -- the views
  have views : ∀ u ∈ fl us, (∀ a ∈ w.own, a ∉ u.own → a ∉ u.trk) ∧ u.good := by
    have go : ∀ (ks : List AK) (us : List (Option T)) (vs : List V), CRel ks us vs ts1 σ → ∀ u ∈ fl us, (∀ a ∈ w.own, a ∉ u.own → a ∉ u.trk) ∧ u.good := by
      intro ks
      induction ks with
      | nil =>
        intro us vs cr u mu
        cases us with
        | nil => cases mu
        | cons _ _ => exact (by cases vs <;> exact cr.elim)
      | cons k ks ih =>
        intro us vs cr u mu
        cases us with
        | nil => cases mu
        | cons o us =>
          cases vs with
          | nil => exact (by cases k <;> cases o <;> exact cr.elim)
          | cons v vs =>
            cases k with
            | val m =>
              cases o with
              | none => exact cr.elim
              | some z =>
                rcases List.mem_cons.mp (show u ∈ z :: fl us from mu) with rfl | mu
                · exact ⟨cr.2.1.own S1.wf w (List.mem_of_getElem? ej), cr.2.1.good S1.wf⟩
                · exact ih us vs cr.2.2 u mu
            | io i =>
              cases o with
              | some _ => exact cr.elim
              | none => exact ih us vs cr.2 u mu
            | mv i =>
              cases o with
              | some _ => exact cr.elim
              | none => exact ih us vs cr.2 u mu
    exact go ks us vs cr
  have free : valFree ks (oer us) = true → ∀ u ∈ fl us, ∀ a ∈ w.own, a ∉ u.trk := by
    have go : ∀ (ks : List AK) (us : List (Option T)) (vs : List V), CRel ks us vs ts1 σ → valFree ks (oer us) = true → ∀ u ∈ fl us, ∀ a ∈ w.own, a ∉ u.trk := by
      intro ks
      induction ks with
      | nil =>
        intro us vs cr _ u mu
        cases us with
        | nil => cases mu
        | cons _ _ => exact (by cases vs <;> exact cr.elim)
      | cons k ks ih =>
        intro us vs cr hv u mu
        cases us with
        | nil => cases mu
        | cons o us =>
          cases vs with
          | nil => exact (by cases k <;> cases o <;> exact cr.elim)
          | cons v vs =>
            cases k with
            | val m =>
              cases o with
              | none => exact cr.elim
              | some z =>
                have hv : ((m.isTmp || !z.er.hasOwn) && valFree ks (oer us)) = true := hv
                rw [Bool.and_eq_true] at hv
                rcases List.mem_cons.mp (show u ∈ z :: fl us from mu) with rfl | mu
                · intro a ma
                  have mr := cr.2.1
                  cases m with
                  | tmp => exact (mr.2 w (List.mem_of_getElem? ej)).2 a ma
                  | vw src =>
                    have : u.er.hasOwn = false := by
                      cases q : u.er.hasOwn with
                      | false => rfl
                      | true => rw [q] at hv; cases hv.1
                    exact mr.own S1.wf w (List.mem_of_getElem? ej) a ma (by rw [T.own_nil this]; simp)
                · exact ih us vs cr.2.2 hv.2 u mu
            | io i =>
              cases o with
              | some _ => exact cr.elim
              | none => exact ih us vs cr.2 hv u mu
            | mv i =>
              cases o with
              | some _ => exact cr.elim
              | none => exact ih us vs cr.2 hv u mu
    exact go ks us vs cr
  have slotDj : ∀ {i : Nat} {t : T}, i ∈ ixs ks → ts1[i]? = some t → Dj t w := fun {i t} mi ei => S1.wf.get (fun z => hj (by rw [← z]; exact mi)) ei ej
  have ownB : ∀ b ∈ B, ∀ a ∈ b.own, a ∉ w.trk := fun b mb a ma z => by
    rcases st.ow b mb a ma with ⟨c, mc, zc⟩ | q
    · cases ha c mc with
      | val m => rw [T.fz_own] at zc; cases zc
      | slot m e ne => exact (slotDj m e).1 a zc z
    · obtain ⟨o, e⟩ := T.trk_s okw z
      rw [q] at e; cases e
  intro b mb
  refine ⟨ownB b mb, fun a ma z => ?_⟩
  have some : ∃ o, H1 a = some o := let ⟨o, e, _⟩ := T.own_m okw ma; ⟨o, e⟩
  have viaTrk : (∀ u ∈ fl us, a ∉ u.trk) → False := fun hu => by
    rcases st.tr b mb a z with ⟨c, mc, zc⟩ | q
    · cases ha c mc with
      | @val u m => rw [T.fz_trk] at zc; exact hu u m zc
      | slot m e ne => exact (slotDj m e).2 a ma zc
    · obtain ⟨o, e⟩ := some
      rw [q] at e; cases e
  rcases hf with hf | hf
  · exact viaTrk fun u mu => free hf u mu a ma
  · rcases T.trk_cases b a z with y | y | y
    · exact ownB b mb a y (T.own_trk ma)
    · rcases st.im b mb a y with ⟨c, mc, zc⟩ | q
      · cases ha c mc with
        | @val u m =>
          rw [T.fz_imm] at zc
          by_cases ho : a ∈ u.own
          · exact (T.good_own (views u m).2 ho).1 zc
          · exact (views u m).1 a ma ho (T.imm_trk zc)
        | slot m e ne => exact (slotDj m e).2 a ma (T.imm_trk zc)
      · obtain ⟨o, e⟩ := some
        rw [q] at e; cases e
    · rw [hf b mb] at y; cases y
end VS

namespace VS
open PySem PySem.Spec PyProof.Rows L2

/-- the caller's slots behind a call -/
theorem slots_after {K : PySem.W.Frag} {io : List Nat} {ρ : Nat → V} {ts ts1 cs us' B : List T} {us : List (Option T)} {vs : List V} {σ : L2.St} {H H1 H' : Hp} {ks : List AK} {md : List Nat}
    (S1 : Sim K io ρ ts1 σ H1) (ok1 : ∀ u ∈ fl us, u.ok K H1) (cr : CRel ks us vs ts1 σ) (st1 : Step H ts H1 (fl us ++ ts1)) (pu1 : ∀ j, j ∉ md → ts1[j]? = ts[j]?) (hn : (ixs ks).Nodup) (hmv : ((ixs ks).all fun i => !io.contains i || (ioIx ks).contains i) = true)
    (ha : ∀ c ∈ cs, Arg (ixs ks) ts1 (fl us) c) (okc : ∀ c ∈ cs, c.ok K H1) (hr : T.rts us' = iov (ks.map AK.pm) vs) (nu : ∀ u ∈ us', u ≠ .un) (oku : ∀ u ∈ us', u.ok K H') (sub : ∀ u ∈ us', u ∈ B) (wf : WF us') (st : Step H1 cs H' B)
    (hf : valFree ks (oer us) = true ∨ ∀ b ∈ B, b.col NK.isShr = []) :
    Sim K io ρ (putT' ks us' (wipeT (ixs ks) ts1)) σ H' ∧ Step H ts H' (B ++ putT' ks us' (wipeT (ixs ks) ts1)) ∧ (∀ j, j ∉ md ++ ixs ks → (putT' ks us' (wipeT (ixs ks) ts1))[j]? = ts[j]?) ∧ ∀ b ∈ B, (∀ u ∈ us', Dj b u) → ∀ w ∈ putT' ks us' (wipeT (ixs ks) ts1), Dj b w := by
  have wip : ∀ {w : T}, w ∈ wipeT (ixs ks) ts1 → w = .un ∨ ∃ j, j ∉ ixs ks ∧ ts1[j]? = some w := fun {w} m => by
    obtain ⟨j, ej⟩ := List.getElem?_of_mem m
    by_cases hj : j ∈ ixs ks
    · exact .inl (wipeT_in hj ej)
    · rw [wipeT_out hj] at ej; exact .inr ⟨j, hj, ej⟩
  have dj : ∀ b ∈ B, ∀ w ∈ wipeT (ixs ks) ts1, Dj b w := fun b mb w mw => by
    rcases wip mw with rfl | ⟨j, hj, ej⟩
    · exact dj_un.symm
    · exact after_call S1 cr ha st hf hj ej b mb
  have keepW : ∀ w ∈ wipeT (ixs ks) ts1, w.ok K H' := fun w mw => by
    rcases wip mw with rfl | ⟨j, hj, ej⟩
    · exact trivial
    · refine keepT (S1.ok w (List.mem_of_getElem? ej)) okc st fun c mc a ma z => ?_
      cases ha c mc with
      | val m => rw [T.fz_own] at ma; cases ma
      | slot m e ne => exact (S1.wf.get (fun y => hj (by rw [← y]; exact m)) e ej).1 a ma z
  -- where the nodes come from
  have srcO : ∀ c ∈ cs, ∀ a ∈ c.own, ∃ w ∈ fl us ++ ts1, a ∈ w.own := fun c mc a ma => by
    cases ha c mc with
    | val m => rw [T.fz_own] at ma; cases ma
    | slot m e ne => exact ⟨c, List.mem_append_right _ (List.mem_of_getElem? e), ma⟩
  have srcT : ∀ c ∈ cs, ∀ a ∈ c.trk, ∃ w ∈ fl us ++ ts1, a ∈ w.trk := fun c mc a ma => by
    cases ha c mc with
    | @val u m => rw [T.fz_trk] at ma; exact ⟨u, List.mem_append_left _ m, ma⟩
    | slot m e ne => exact ⟨c, List.mem_append_right _ (List.mem_of_getElem? e), ma⟩
  have srcI : ∀ c ∈ cs, ∀ a ∈ c.imm, ∃ w ∈ fl us ++ ts1, a ∈ w.imm := fun c mc a ma => by
    cases ha c mc with
    | @val u m => rw [T.fz_imm] at ma; exact ⟨u, List.mem_append_left _ m, ma⟩
    | slot m e ne => exact ⟨c, List.mem_append_right _ (List.mem_of_getElem? e), ma⟩
  have st2 : Step H1 (fl us ++ ts1) H' B := ⟨fun b o e n => st.fr b o e fun c mc z => by
      obtain ⟨w, mw, zw⟩ := srcO c mc b z
      exact n w mw zw, st.al, fun b mb a ma => (st.ow b mb a ma).imp (fun ⟨c, mc, zc⟩ => srcO c mc a zc) id, fun b mb a ma => (st.tr b mb a ma).imp (fun ⟨c, mc, zc⟩ => srcT c mc a zc) id, fun b mb a ma => (st.im b mb a ma).imp (fun ⟨c, mc, zc⟩ => srcI c mc a zc) id⟩
  have stB : Step H ts H' B := st1.trans st2
  have old : ∀ w ∈ wipeT (ixs ks) ts1, w = .un ∨ w ∈ ts1 := fun w mw => (wip mw).imp id fun ⟨j, _, e⟩ => List.mem_of_getElem? e
  have cases3 : ∀ w ∈ putT' ks us' (wipeT (ixs ks) ts1), w = .un ∨ w ∈ ts1 ∨ w ∈ B := fun w mw => by
    rcases put_mem ks us' _ w mw with m | m
    · exact (old w m).imp id .inl
    · exact .inr (.inr (sub w m))
  refine ⟨⟨by rw [put_len, wipeT_len]; exact S1.len, fun j w e ne => ?_, fun w mw => ?_, wf_put ks us' _ wf (wf_wipe S1.wf) fun u mu w mw => dj u (sub u mu) w mw, fun i mi => ?_⟩, ?_, fun j hj => ?_, fun b mb hb w mw => ?_⟩
  · rcases put_rt ks us us' vs (wipeT (ixs ks) ts1) cr hr j w e with q | q
    · by_cases hj : j ∈ ixs ks
      · exact absurd (wipeT_in hj q) ne
      · rw [wipeT_out hj] at q
        exact S1.rt j w q ne
    · exact q
  · rcases put_mem ks us' _ w mw with m | m
    · exact keepW w m
    · exact oku w m
  · obtain ⟨t, e, ne, r⟩ := S1.pin i mi
    by_cases hi : i ∈ ixs ks
    · have q := List.all_eq_true.mp hmv i hi
      have hio : i ∈ ioIx ks := by
        have : io.contains i = true := by simpa using mi
        rw [this, Bool.not_true, Bool.false_or] at q
        simpa using q
      have hl : i < (wipeT (ixs ks) ts1).length := by rw [wipeT_len]; exact (List.getElem?_eq_some_iff.mp e).1
      obtain ⟨w, mw, ew⟩ := put_in ks us us' vs (wipeT (ixs ks) ts1) cr hr hn i hio hl
      refine ⟨w, ew, nu w mw, ?_⟩
      rcases put_rt ks us us' vs (wipeT (ixs ks) ts1) cr hr i w ew with q | q
      · exact absurd (wipeT_in hi q) (nu w mw)
      · have := S1.rt i t e ne
        rw [q] at this
        have h2 : w.rt = t.rt := Option.some.inj (Option.some.inj this)
        rw [h2, r]
    · exact ⟨t, by rw [put_out ks us' _ i hi, wipeT_out hi]; exact e, ne, r⟩
  · -- the whole step
    have fromTs1 : ∀ w ∈ ts1, w ∈ fl us ++ ts1 := fun w m => List.mem_append_right _ m
    refine ⟨stB.fr, stB.al, fun w mw a ma => ?_, fun w mw a ma => ?_, fun w mw a ma => ?_⟩
    · rcases List.mem_append.mp mw with m | m
      · exact stB.ow w m a ma
      · rcases cases3 w m with rfl | m | m
        · cases ma
        · exact st1.ow w (fromTs1 w m) a ma
        · exact stB.ow w m a ma
    · rcases List.mem_append.mp mw with m | m
      · exact stB.tr w m a ma
      · rcases cases3 w m with rfl | m | m
        · cases ma
        · exact st1.tr w (fromTs1 w m) a ma
        · exact stB.tr w m a ma
    · rcases List.mem_append.mp mw with m | m
      · exact stB.im w m a ma
      · rcases cases3 w m with rfl | m | m
        · cases ma
        · exact st1.im w (fromTs1 w m) a ma
        · exact stB.im w m a ma
  · rw [List.mem_append, not_or] at hj
    rw [put_out ks us' _ j hj.2, wipeT_out hj.2]
    exact pu1 j hj.1
  · rcases put_mem ks us' _ w mw with m | m
    · exact dj b mb w m
    · exact hb w m
theorem arg_ok {K : PySem.W.Frag} {io : List Nat} {ρ : Nat → V} {ts1 : List T} {us : List T} {σ : L2.St} {H1 : Hp} {is : List Nat} (S1 : Sim K io ρ ts1 σ H1) (ok1 : ∀ u ∈ us, u.ok K H1) {c : T} (a : Arg is ts1 us c) : c.ok K H1 := by
  cases a with
  | val m => exact T.ok_fz (ok1 _ m)
  | slot m e ne => exact S1.ok _ (List.mem_of_getElem? e)
theorem shr_of {t : T} (h : t.er.hasShr = false) : t.col NK.isShr = [] := T.shr_nil h
theorem hass_shr {xs : List T} (h : D.hass NK.isShr (T.ers xs) = false) : ∀ c ∈ xs, c.col NK.isShr = [] := fun c m => by
  have e := (T.hass_er xs).mp h
  cases q : c.col NK.isShr with
  | nil => rfl
  | cons z r =>
    have : z ∈ T.cols NK.isShr xs := T.mem_cols.mpr ⟨c, m, by rw [q]; simp⟩
    rw [e] at this; cases this
theorem erd_call {K : PySem.W.Frag} {W : WX} {io : List Nat} {ks : List AK} {md : List Nat} {t : TA} {dc : EC} {F : FD} {Ef : L2.St → XK} (hc : CRd K W io ks md t dc) (hE : ∀ σ c d H', W c d σ H' → Ef σ c d H') (hn : (ixs ks).Nodup)
    (hmv : ((ixs ks).all fun i => !io.contains i || (ioIx ks).contains i) = true) : ERd K W io .tmp (md ++ ixs ks) (tCallSD (spOf K (ks.map AK.pm) F) [] Ef t) (dCall F ks dc) := fun ρ ts σ H Q S h => by
  refine hc ρ ts σ H _ S ?_
  unfold dCall at h
  cases ea : dc (T.ers ts) with
  | no => rw [ea] at h; exact h
  | ex c fs s => rw [ea] at h; exact h
  | ok q =>
    obtain ⟨xs, s⟩ := q
    rw [ea] at h
    simp only [R.bind] at h
    intro ts1 us vs H1 S1 e1 eus ok1 cr st1 pu1
    rw [List.append_nil]
    cases em : asmD ks xs s with
    | none => rw [em] at h; exact h.elim
    | some args =>
      rw [em] at h
      simp only at h
      by_cases hk : (valOk (ixs ks) ks xs && args.all fun x => !x.isUn) = true
      · rw [if_pos hk] at h
        rw [Bool.and_eq_true] at hk
        obtain ⟨cs, c1, c2, c3, c4, c5, c6⟩ := asm_ok S1 ks us vs args (ixs ks) cr (by rw [eus, e1]; exact em) (fun _ m => m) (by rw [eus]; exact hk.1) hn
        refine ⟨cs, c2, fun c mc => arg_ok S1 ok1 (c3 c mc), c4, by rw [c5, List.length_map], c6, fun c mc => isUn_er ?_, ?_⟩
        · have := List.all_eq_true.mp hk.2 c.er (by rw [← c1, T.ers_map]; exact List.mem_map.mpr ⟨c, mc, rfl⟩)
          simpa using this
        · rw [c1]
          cases ef : F args with
          | no => rw [ef] at h; exact h
          | ok r =>
            obtain ⟨x, os⟩ := r
            rw [ef] at h
            simp only at h
            by_cases hz : (valFree ks xs || (!x.hasShr && !D.hass NK.isShr os)) = true
            · rw [if_pos hz] at h
              intro t' us' H' et eu hr nu okt oku wf st
              have hf : valFree ks (oer us) = true ∨ ∀ b ∈ t' :: us', b.col NK.isShr = [] := by
                rw [Bool.or_eq_true] at hz
                rcases hz with z | z
                · exact .inl (by rw [eus]; exact z)
                · rw [Bool.and_eq_true] at z
                  refine .inr fun b mb => ?_
                  rcases List.mem_cons.mp mb with rfl | mb
                  · exact shr_of (by rw [et]; simpa using z.1)
                  · exact hass_shr (by rw [eu]; simpa using z.2) b mb
              obtain ⟨S2, st2, pu2, dj2⟩ := slots_after (B := t' :: us') S1 ok1 cr st1 pu1 hn hmv c3 (fun c mc => arg_ok S1 ok1 (c3 c mc)) hr nu oku (fun u m => List.mem_cons_of_mem _ m) wf.head.2.2 st hf
              refine h _ t' H' S2 ?_ et okt ⟨wf.head.1, dj2 t' List.mem_cons_self wf.head.2.1⟩ (st2.sub fun w mw => ?_) pu2
              · rw [ers_put, ers_wipe, e1, eu]; rfl
              · rcases List.mem_cons.mp mw with rfl | mw
                · simp
                · exact List.mem_append_right _ mw
            · rw [if_neg hz] at h; exact h.elim
          | ex c fs os =>
            rw [ef] at h
            simp only at h
            by_cases hz : (valFree ks xs || !D.hass NK.isShr os) = true
            · rw [if_pos hz] at h
              intro us' H' d eu hr nu oku wf st xr
              have hf : valFree ks (oer us) = true ∨ ∀ b ∈ us', b.col NK.isShr = [] := by
                rw [Bool.or_eq_true] at hz
                rcases hz with z | z
                · exact .inl (by rw [eus]; exact z)
                · exact .inr fun b mb => hass_shr (by rw [eu]; simpa using z) b mb
              obtain ⟨S2, st2, pu2, dj2⟩ := slots_after (B := us') S1 ok1 cr st1 pu1 hn hmv c3 (fun c mc => arg_ok S1 ok1 (c3 c mc)) hr nu oku (fun u m => m) wf st hf
              exact hE σ c d H' (h _ H' d S2 (by rw [ers_put, ers_wipe, e1, eu]; rfl) (st2.sub fun w mw => List.mem_append_right _ mw) xr)
            · rw [if_neg hz] at h; exact h.elim
      · rw [if_neg hk] at h; exact h.elim

/-! ### a def by its body -/
def outs (io : List Nat) (s : List D) : List D := io.map fun i => s.getD i .un
def fnD (n : Nat) (io : List Nat) (body : S) : FD := fun args => match body (args ++ List.replicate (n - args.length) .un) with
  | .rt x s => .ok (x, outs io s)
  | .nx s => .ok (.v .non, outs io s)
  | .ex c fs s => .ex c fs (outs io s)
  | _ => .no
def pmIx (b : Nat) : List PM → List Nat
  | [] => []
  | .io :: r => b :: pmIx (b + 1) r
  | .val :: r => pmIx (b + 1) r
  | .mv :: r => pmIx (b + 1) r
theorem pick_all {K : PySem.W.Frag} {io : List Nat} {ρ : Nat → V} {ts : List T} {σ : L2.St} {H : Hp} (S : Sim K io ρ ts σ H) (hn : io.Nodup) : ∃ us : List T, T.ers us = outs io (T.ers ts) ∧ T.rts us = io.map ρ ∧ (∀ u ∈ us, u ≠ .un ∧ ∃ i ∈ io, ts[i]? = some u) ∧ WF us := by
  have go : ∀ l : List Nat, (∀ i ∈ l, i ∈ io) → l.Nodup → ∃ us : List T, T.ers us = outs l (T.ers ts) ∧ T.rts us = l.map ρ ∧ (∀ u ∈ us, u ≠ .un ∧ ∃ i ∈ l, ts[i]? = some u) ∧ WF us := by
    intro l
    induction l with
    | nil => exact fun _ _ => ⟨[], rfl, rfl, fun _ m => (nomatch m), WF.nil⟩
    | cons i r ih =>
      intro hi hn
      obtain ⟨us, u1, u2, u3, u4⟩ := ih (fun j m => hi j (List.mem_cons_of_mem _ m)) (List.nodup_cons.mp hn).2
      obtain ⟨t, e, ne, er⟩ := S.pin i (hi i List.mem_cons_self)
      refine ⟨t :: us, ?_, by rw [T.rts, u2, er]; rfl, fun u m => ?_, WF.cons (S.wf.mem (List.mem_of_getElem? e)) (fun u m => ?_) u4⟩
      · rw [T.ers, u1]
        show _ = (T.ers ts).getD i .un :: outs r (T.ers ts)
        rw [T.ers_map, List.getD_eq_getElem?_getD, List.getElem?_map, e]; rfl
      · rcases List.mem_cons.mp m with rfl | m
        · exact ⟨ne, i, List.mem_cons_self, e⟩
        · obtain ⟨q1, j, q2, q3⟩ := u3 u m
          exact ⟨q1, j, List.mem_cons_of_mem _ q2, q3⟩
      · obtain ⟨_, j, mj, ej⟩ := u3 u m
        exact S.wf.get (fun z => (List.nodup_cons.mp hn).1 (by rw [z]; exact mj)) e ej
  exact go io (fun _ m => m) hn
end VS

namespace VS
open PySem PySem.Spec PyProof.Rows L2

theorem iov_ix : ∀ (pm : List PM) (pre vs : List V), pm.length = vs.length → iov pm vs = (pmIx pre.length pm).map fun i => (pre ++ vs).getD i .non
  | [], pre, vs, h => by
    cases vs with
    | nil => rfl
    | cons _ _ => cases h
  | p :: pm, pre, [], h => by cases h
  | p :: pm, pre, v :: vs, h => by
    have ih := iov_ix pm (pre ++ [v]) vs (by simpa using h)
    rw [List.length_append, List.append_assoc] at ih
    have ih : iov pm vs = (pmIx (pre.length + 1) pm).map fun i => (pre ++ v :: vs).getD i .non := ih
    cases p with
    | val => exact ih
    | mv => exact ih
    | io =>
      show v :: iov pm vs = (pre.length :: pmIx (pre.length + 1) pm).map _
      rw [List.map_cons, ih]
      congr 1
      rw [List.getD_eq_getElem?_getD, List.getElem?_append_right (Nat.le_refl _), Nat.sub_self]; rfl
theorem pmIx_lt : ∀ (pm : List PM) (b i : Nat), i ∈ pmIx b pm → b ≤ i ∧ i < b + pm.length
  | [], b, i, h => by cases h
  | p :: pm, b, i, h => by
    have go : i ∈ pmIx (b + 1) pm → b ≤ i ∧ i < b + (p :: pm).length := fun h => by
      have := pmIx_lt pm (b + 1) i h
      rw [List.length_cons]; omega
    cases p with
    | val => exact go h
    | mv => exact go h
    | io =>
      rcases List.mem_cons.mp (show i ∈ b :: pmIx (b + 1) pm from h) with rfl | h
      · rw [List.length_cons]; omega
      · exact go h
theorem pmIx_nd : ∀ (pm : List PM) (b : Nat), (pmIx b pm).Nodup
  | [], b => List.nodup_nil
  | .val :: pm, b => pmIx_nd pm (b + 1)
  | .mv :: pm, b => pmIx_nd pm (b + 1)
  | .io :: pm, b => List.nodup_cons.mpr ⟨fun h => by have := (pmIx_lt pm (b + 1) b h).1; omega, pmIx_nd pm (b + 1)⟩
theorem wf_un (n : Nat) : WF (List.replicate n T.un) := by
  induction n with
  | zero => exact WF.nil
  | succ n ih =>
    rw [List.replicate_succ]
    exact WF.cons trivial (fun u m => by rw [List.eq_of_mem_replicate m]; exact dj_un) ih
theorem ers_un (n : Nat) : T.ers (List.replicate n T.un) = List.replicate n D.un := by rw [T.ers_map, List.map_replicate]; rfl
/-- a body keeps what its def promises -/
theorem body_ok {K : PySem.W.Frag} {pm : List PM} {md : List Nat} {d : S} {t : TS} {N : List Str} {vs : List V} {H : Hp} {Q : VK} {E : XK} (hl : pm.length ≤ N.length) (hb : SRd K (fun c d _ H => E c d H) (pmIx 0 pm) md t d)
    (h : spOf K pm (fnD N.length (pmIx 0 pm) d) vs H Q E) : t { nx := fun _ H' => Q .non H', rt := Q } (L2.start N vs) H := by
  obtain ⟨ts, hv, ok, wf, len, val, nu, post⟩ := h
  have lv : vs.length = ts.length := by rw [hv, rts_len]
  have iox : iov pm vs = (pmIx 0 pm).map fun i => vs.getD i .non := iov_ix pm [] vs (by rw [lv, len])
  have S0 : Sim K (pmIx 0 pm) (fun i => vs.getD i .non) (ts ++ List.replicate (N.length - ts.length) .un) (L2.start N vs) H := by
    refine ⟨?_, fun i w e ne => ?_, fun w m => ?_, WF.append wf (wf_un _) fun u _ w mw => ?_, fun i mi => ?_⟩
    · unfold L2.start
      rw [List.length_append, List.length_append, List.length_replicate, List.length_replicate, List.length_map, lv]
    · by_cases hi : i < ts.length
      · rw [List.getElem?_append_left hi] at e
        unfold L2.start
        rw [List.getElem?_append_left (by rw [List.length_map, lv]; exact hi), List.getElem?_map, hv, T.rts_map, List.getElem?_map, e]; rfl
      · rw [List.getElem?_append_right (by omega), List.getElem?_replicate] at e
        split at e
        · exact absurd (Option.some.inj e).symm ne
        · cases e
    · rcases List.mem_append.mp m with m | m
      · exact ok w m
      · rw [List.eq_of_mem_replicate m]; exact trivial
    · rw [List.eq_of_mem_replicate mw]; exact dj_un.symm
    · have := pmIx_lt pm 0 i mi
      have hi : i < ts.length := by omega
      refine ⟨ts[i], by rw [List.getElem?_append_left hi, List.getElem?_eq_getElem hi], nu _ (List.getElem_mem hi), ?_⟩
      rw [List.getD_eq_getElem?_getD, hv, T.rts_map, List.getElem?_map, List.getElem?_eq_getElem hi]; rfl
  have unA : ∀ {H' : Hp} {B : List T}, Step H (ts ++ List.replicate (N.length - ts.length) .un) H' B → Step H ts H' B := fun {H' B} st => by
    have back : ∀ {p : NK → Bool} {a : Addr}, (∃ u ∈ ts ++ List.replicate (N.length - ts.length) T.un, a ∈ u.col p) → ∃ u ∈ ts, a ∈ u.col p := fun ⟨u, mu, ma⟩ => by
      rcases List.mem_append.mp mu with m | m
      · exact ⟨u, m, ma⟩
      · rw [List.eq_of_mem_replicate m] at ma; cases ma
    refine ⟨fun b o e n => st.fr b o e fun u mu => ?_, st.al, fun b mb a ma => (st.ow b mb a ma).imp back id, fun b mb a ma => (st.tr b mb a ma).imp back id, fun b mb a ma => (st.im b mb a ma).imp back id⟩
    rcases List.mem_append.mp mu with m | m
    · exact n u m
    · rw [List.eq_of_mem_replicate m]; intro z; cases z
  have ee : T.ers (ts ++ List.replicate (N.length - ts.length) .un) = T.ers ts ++ List.replicate (N.length - (T.ers ts).length) .un := by rw [ers_append, ers_un, ers_len]
  refine hb _ _ _ _ _ S0 ?_
  rw [ee]
  unfold fnD at post
  have fin : ∀ {x : D} {s : List D} {ts' : List T} {σ' : L2.St} {t' : T} {H' : Hp}, FPost K pm ts vs H Q E (.ok (x, outs (pmIx 0 pm) s)) → Sim K (pmIx 0 pm) (fun i => vs.getD i .non) ts' σ' H' → T.ers ts' = s → t'.er = x → t'.ok K H' → RRel (pmIx 0 pm) t' ts' →
      Step H (ts ++ List.replicate (N.length - ts.length) .un) H' (t' :: ts') → Q t'.rt H' := fun post S' e' et okt rr st => by
    obtain ⟨us, u1, u2, u3, u4⟩ := pick_all S' (pmIx_nd pm 0)
    refine post _ us _ et (by rw [u1, e']) (by rw [u2, iox]) (fun u m => (u3 u m).1) okt (fun u m => ?_) (WF.cons rr.1 (fun u m => ?_) u4) ((unA st).sub fun w m => ?_)
    · obtain ⟨_, i, _, e⟩ := u3 u m
      exact S'.ok u (List.mem_of_getElem? e)
    · obtain ⟨_, i, mi, e⟩ := u3 u m
      exact rr.2 i mi u e
    · rcases List.mem_cons.mp m with rfl | m
      · exact List.mem_cons_self
      · obtain ⟨_, i, _, e⟩ := u3 w m
        exact List.mem_cons_of_mem _ (List.mem_of_getElem? e)
  cases ed : d (T.ers ts ++ List.replicate (N.length - (T.ers ts).length) .un) with
  | no => rw [ed] at post; exact post
  | bk s => rw [ed] at post; exact post.elim
  | ct s => rw [ed] at post; exact post.elim
  | rt x s =>
    rw [ed] at post
    exact fun ts' σ' t' H' S' e' et okt rr st => fin post S' e' et okt rr st
  | nx s =>
    rw [ed] at post
    exact fun ts' σ' H' S' e' st pu => fin (t' := .v .non) post S' e' rfl trivial ⟨trivial, fun i _ u _ => ⟨fun a m => (nomatch m), fun a _ m => (nomatch m)⟩⟩ st.consV
  | ex c fs s =>
    rw [ed] at post
    intro ts' σ' H' dd S' e' st xr
    obtain ⟨us, u1, u2, u3, u4⟩ := pick_all S' (pmIx_nd pm 0)
    refine post us H' dd (by rw [u1, e']) (by rw [u2, iox]) (fun u m => (u3 u m).1) (fun u m => ?_) u4 ((unA st).sub fun w m => ?_) xr
    · obtain ⟨_, i, _, e⟩ := u3 u m
      exact S'.ok u (List.mem_of_getElem? e)
    · obtain ⟨_, i, _, e⟩ := u3 w m
      exact List.mem_of_getElem? e
theorem sp_len {K : PySem.W.Frag} {pm : List PM} {F : FD} {vs : List V} {H : Hp} {Q : VK} {E : XK} (h : spOf K pm F vs H Q E) : vs.length = pm.length := by
  obtain ⟨ts, hv, _, _, len, _⟩ := h
  rw [hv, rts_len, len]
section
variable {P : Program} {w : World} {K : PySem.W.Frag} {mg : Str → Option Value} {base : Heap}
def fnN (n : Nat) (io : List Nat) (body : S) : FD := fun a => nox (fnD n io body a)
/-- THE RULE for a def that lets nothing out -/
theorem fn_vs {x qual : Str} {st : Stmt} {f : Addr} {fd : FuncData} {N ps : List Str} {k : Nat} (pm : List PM) {d : S} (F : Fun K x qual st f fd) (S : FnScope N ps (defScope st)) (hp : pm.length = ps.length) (hl : pm.length ≤ N.length)
    (hbody : ∀ (cdv : Value) (A : Around) (outer : List Env) (s : Shared) (H : Hp) (E : XK), Room k (A.deeper (envOfC qual (defScope st) s.heap.objs.size f cdv)) →
      ∃ t md, DSs (cxOf CX0 P w K mg base N qual (defScope st) f cdv A outer s H E).nox W0 (pmIx 0 pm) md (defBody st) t d) : FnOk P w K mg base CX0 (k + 1) f fd ps (spOf K pm (fnN N.length (pmIx 0 pm) d)) := by
  refine F.ok S (fun vs H Q E h => by rw [sp_len h, hp]) fun cdv A outer s H vs Q E hr h => ?_
  obtain ⟨t, md, hb⟩ := hbody cdv A outer s H E hr
  refine ⟨t, hb.ps, ?_⟩
  obtain ⟨ts, hv, ok, wf, len, val, nu, post⟩ := h
  have post0 : FPost K pm ts vs H Q (fun _ _ _ => False) (fnD N.length (pmIx 0 pm) d (T.ers ts)) := by
    unfold fnN at post
    cases e : fnD N.length (pmIx 0 pm) d (T.ers ts) with
    | no => rw [e] at post; exact post.elim
    | ok r => rw [e] at post; exact post
    | ex c fs os => rw [e] at post; exact post.elim
  exact body_ok (E := fun _ _ _ => False) hl hb.rd ⟨ts, hv, ok, wf, len, val, nu, post0⟩
end
end VS

namespace VS
open PySem PySem.Spec PyProof.Rows L2

/-! ### a place within a slot's tree -/
def D.at : List Nat → D → Option D
  | [], d => some d
  | c :: p, .nd _ xs => match xs[c]? with
    | some x => D.at p x
    | none => none
  | _ :: _, _ => none
def T.at : List Nat → T → Option T
  | [], d => some d
  | c :: p, .nd _ _ xs => match xs[c]? with
    | some x => T.at p x
    | none => none
  | _ :: _, _ => none
def D.put (y : D) : List Nat → D → D
  | [], _ => y
  | c :: p, .nd k xs => match xs[c]? with
    | some x => .nd k (xs.set c (D.put y p x))
    | none => .nd k xs
  | _ :: _, d => d
def T.put (y : T) : List Nat → T → T
  | [], _ => y
  | c :: p, .nd a k xs => match xs[c]? with
    | some x => .nd a k (xs.set c (T.put y p x))
    | none => .nd a k xs
  | _ :: _, d => d
theorem at_er : ∀ (p : List Nat) (t : T) (d : D), D.at p t.er = some d → ∃ n, T.at p t = some n ∧ n.er = d
  | [], t, d, h => ⟨t, rfl, Option.some.inj h⟩
  | c :: p, .un, d, h => by cases h
  | c :: p, .v x, d, h => by cases h
  | c :: p, .nd a k xs, d, h => by
    rw [T.er, D.at] at h
    cases e : (T.ers xs)[c]? with
    | none => rw [e] at h; cases h
    | some y =>
      rw [e] at h
      obtain ⟨u, e1, e2⟩ := ers_get e
      rw [← e2] at h
      obtain ⟨n, h1, h2⟩ := at_er p u d h
      exact ⟨n, by rw [T.at, e1]; exact h1, h2⟩
theorem put_er (y : T) : ∀ (p : List Nat) (t : T), (T.put y p t).er = D.put y.er p t.er
  | [], t => rfl
  | c :: p, .un => rfl
  | c :: p, .v x => rfl
  | c :: p, .nd a k xs => by
    rw [T.put, T.er, D.put]
    cases e : xs[c]? with
    | none =>
      have : (T.ers xs)[c]? = none := by rw [T.ers_map, List.getElem?_map, e]; rfl
      rw [this]; rfl
    | some x =>
      have : (T.ers xs)[c]? = some x.er := by rw [T.ers_map, List.getElem?_map, e]; rfl
      rw [this]
      show T.er (.nd a k (xs.set c (T.put y p x))) = _
      rw [T.er, ers_set, put_er y p x]
theorem at_sbt : ∀ (p : List Nat) (t n : T), T.at p t = some n → Sbt n t
  | [], t, n, h => by cases h; exact .refl _
  | c :: p, .un, n, h => by cases h
  | c :: p, .v x, n, h => by cases h
  | c :: p, .nd a k xs, n, h => by
    rw [T.at] at h
    cases e : xs[c]? with
    | none => rw [e] at h; cases h
    | some x => rw [e] at h; exact .child (List.mem_of_getElem? e) (at_sbt p x n h)
/-- the nodes of x' are nodes of x or of ys -/
structure Frm (x' x : T) (ys : List T) : Prop where
  ow : ∀ a ∈ x'.own, a ∈ x.own ∨ ∃ y ∈ ys, a ∈ y.own
  tr : ∀ a ∈ x'.trk, a ∈ x.trk ∨ ∃ y ∈ ys, a ∈ y.trk
  im : ∀ a ∈ x'.imm, a ∈ x.imm ∨ ∃ y ∈ ys, a ∈ y.imm
theorem Frm.dj {x' x w : T} {ys : List T} (f : Frm x' x ys) (h : Dj x w) (hy : ∀ y ∈ ys, Dj y w) : Dj x' w :=
  ⟨fun a ma => (f.ow a ma).elim (h.1 a) fun ⟨y, my, m⟩ => (hy y my).1 a m, fun a ma z => (f.tr a z).elim (h.2 a ma) fun ⟨y, my, m⟩ => (hy y my).2 a ma m⟩
theorem rts_set_same {xs : List T} {c : Nat} {x y : T} (e : xs[c]? = some x) (h : y.rt = x.rt) : T.rts (xs.set c y) = T.rts xs := by
  rw [T.rts_map, T.rts_map, List.map_set, h]
  apply List.ext_getElem?
  intro j
  by_cases hj : c = j
  · subst hj
    have hl := (List.getElem?_eq_some_iff.mp e).1
    rw [List.getElem?_set_self (by rw [List.length_map]; exact hl), List.getElem?_map, e]; rfl
  · rw [List.getElem?_set_ne hj]
theorem keep_updA {K : PySem.W.Frag} {H : Hp} {a : Addr} {u o : HO} {t : T} (ok : t.ok K H) (ha : H a = some u) (hm : isM u = true) (n : a ∉ t.trk) : t.ok K (upd H a o) := T.ok_keep ok fun b q e z => by
  have : b ≠ a := by
    rintro rfl
    rcases z with z | z
    · exact n z
    · rw [ha] at e; cases e; rw [hm] at z; cases z
  rw [upd_ne this]; exact e
/-- the node at the path is changed: the whole tree -/
theorem put_ok {K : PySem.W.Frag} {H : Hp} {a : Addr} {o u : HO} {k k' : NK} {xs xs' : List T} {ys : List T} (ha : H a = some u) (hm : isM u = true) (hown : k.isOwn = true) (okn : (T.nd a k' xs').ok K (upd H a o)) (gn : (T.nd a k' xs').good) (fr : Frm (.nd a k' xs') (.nd a k xs) ys) :
    ∀ (p : List Nat) (t : T), t.ok K H → t.good → (∀ y ∈ ys, Dj y t) → T.at p t = some (.nd a k xs) → (T.put (.nd a k' xs') p t).ok K (upd H a o) ∧ (T.put (.nd a k' xs') p t).good ∧ (T.put (.nd a k' xs') p t).rt = t.rt ∧ Frm (T.put (.nd a k' xs') p t) t ys
  | [], t, ok, g, dy, h => by
    cases h
    exact ⟨okn, gn, rfl, fr⟩
  | c :: p, .un, ok, g, dy, h => by cases h
  | c :: p, .v x, ok, g, dy, h => by cases h
  | c :: p, .nd b kb zs, ok, g, dy, h => by
    rw [T.at] at h
    cases e : zs[c]? with
    | none => rw [e] at h; cases h
    | some x =>
      rw [e] at h
      have mx := List.mem_of_getElem? e
      have up : ∀ {q : NK → Bool} {z : Addr} {w : T}, w ∈ zs → z ∈ w.col q → z ∈ (T.nd b kb zs).col q := fun mw mz => T.mem_col.mpr (.inr ⟨_, mw, mz⟩)
      have g0 := g
      rw [T.good] at g
      have dyx : ∀ y ∈ ys, Dj y x := fun y my => ⟨fun z mz q => (dy y my).1 z mz (up mx q), fun z mz q => (dy y my).2 z (up mx mz) q⟩
      obtain ⟨i1, i2, i3, i4⟩ := put_ok ha hm hown okn gn fr p x (ok.child mx) (goods_mem g.2.2 mx) dyx h
      have ax : a ∈ x.own := (at_sbt p x _ h).col (T.mem_col.mpr (.inl ⟨hown, rfl⟩))
      rw [T.put, e]
      -- the siblings
      have sib : ∀ (j : Nat) (w : T), j ≠ c → zs[j]? = some w → Dj x w := fun j w hj ew => WF.get g.2.2 (Ne.symm hj) e ew
      have dys : ∀ w ∈ zs, ∀ y ∈ ys, Dj y w := fun w mw y my => ⟨fun z mz q => (dy y my).1 z mz (up mw q), fun z mz q => (dy y my).2 z (up mw mz) q⟩
      have inv : ∀ {w : T}, w ∈ zs.set c (T.put (.nd a k' xs') p x) → w = T.put (.nd a k' xs') p x ∨ ∃ j, j ≠ c ∧ zs[j]? = some w := fun {w} m => by
        obtain ⟨j, ej⟩ := List.getElem?_of_mem m
        by_cases hj : j = c
        · subst hj
          rw [List.getElem?_set_self (List.getElem?_eq_some_iff.mp e).1] at ej
          exact .inl (Option.some.inj ej).symm
        · rw [List.getElem?_set_ne (Ne.symm hj)] at ej
          exact .inr ⟨j, hj, ej⟩
      have frAll : Frm (.nd b kb (zs.set c (T.put (.nd a k' xs') p x))) (.nd b kb zs) ys := by
        have go : ∀ {q : NK → Bool}, (∀ z ∈ (T.put (.nd a k' xs') p x).col q, z ∈ x.col q ∨ ∃ y ∈ ys, z ∈ y.col q) → ∀ z ∈ (T.nd b kb (zs.set c (T.put (.nd a k' xs') p x))).col q, z ∈ (T.nd b kb zs).col q ∨ ∃ y ∈ ys, z ∈ y.col q := fun hq z mz => by
          rcases T.mem_col.mp mz with m | ⟨w, mw, m⟩
          · exact .inl (T.mem_col.mpr (.inl m))
          · rcases inv mw with rfl | ⟨j, _, ej⟩
            · exact (hq z m).imp (up mx) id
            · exact .inl (up (List.mem_of_getElem? ej) m)
        exact ⟨go i4.ow, go i4.tr, go i4.im⟩
      refine ⟨?_, ?_, rfl, frAll⟩
      · show T.ok K (upd H a o) (.nd b kb (zs.set c (T.put (.nd a k' xs') p x)))
        rw [T.ok, rts_set_same e i3]
        refine ⟨ok.node.keep fun q eq hz => ?_, T.oks_all.mpr fun w mw => ?_⟩
        · have : b ≠ a := by
            rintro rfl
            cases hk : kb.isTrk with
            | true => exact g.2.1 hk (T.mem_cols.mpr ⟨x, mx, ax⟩)
            | false => rw [ha] at eq; cases eq; rw [hz hk] at hm; cases hm
          rw [upd_ne this]; exact eq
        · rcases inv mw with rfl | ⟨j, hj, ej⟩
          · exact i1
          · exact keep_updA (ok.child (List.mem_of_getElem? ej)) ha hm ((sib j w hj ej).1 a ax)
      · show T.good (.nd b kb (zs.set c (T.put (.nd a k' xs') p x)))
        rw [T.good]
        refine ⟨fun hk m => ?_, fun hk m => ?_, WF.set g.2.2 i2 fun j w hj ew => i4.dj (sib j w hj ew) (dys w (List.mem_of_getElem? ew))⟩
        · obtain ⟨w, mw, mz⟩ := T.mem_cols.mp m
          rcases inv mw with rfl | ⟨j, hj, ej⟩
          · rcases i4.tr b mz with q | ⟨y, my, q⟩
            · exact g.1 hk (T.mem_cols.mpr ⟨x, mx, q⟩)
            · exact (dy y my).2 b (T.mem_col.mpr (.inl ⟨hk, rfl⟩)) q
          · exact g.1 hk (T.mem_cols.mpr ⟨w, List.mem_of_getElem? ej, mz⟩)
        · obtain ⟨w, mw, mz⟩ := T.mem_cols.mp m
          rcases inv mw with rfl | ⟨j, hj, ej⟩
          · rcases i4.ow b mz with q | ⟨y, my, q⟩
            · exact g.2.1 hk (T.mem_cols.mpr ⟨x, mx, q⟩)
            · exact (dy y my).1 b q (T.mem_col.mpr (.inl ⟨hk, rfl⟩))
          · exact g.2.1 hk (T.mem_cols.mpr ⟨w, List.mem_of_getElem? ej, mz⟩)
/-- a slot's node changed: the slots, the step -/
theorem mut_fin {K : PySem.W.Frag} {io : List Nat} {ρ : Nat → V} {ts : List T} {σ : L2.St} {H : Hp} {i : Nat} {tr : T} {p : List Nat} {a : Addr} {o u : HO} {k k' : NK} {xs xs' : List T} {ys : List T} (S : Sim K io ρ ts σ H) (ei : ts[i]? = some tr) (hat : T.at p tr = some (.nd a k xs)) (ha : H a = some u) (hm : isM u = true) (hown : k.isOwn = true)
    (okn : (T.nd a k' xs').ok K (upd H a o)) (gn : (T.nd a k' xs').good) (fr : Frm (.nd a k' xs') (.nd a k xs) ys) (rel : ∀ y ∈ ys, TRel y ts) :
    Sim K io ρ (ts.set i (T.put (.nd a k' xs') p tr)) σ (upd H a o) ∧ (∀ {H0 : Hp} {A B : List T}, Step H0 A H (B ++ ts) → (∀ y ∈ ys, y ∈ B) → (∀ w ∈ B, True) → Step H0 A (upd H a o) (B ++ ts.set i (T.put (.nd a k' xs') p tr))) ∧ ∀ t : T, t.ok K H → TRel t ts → (∀ y ∈ ys, Dj t y) → t.ok K (upd H a o) ∧ TRel t (ts.set i (T.put (.nd a k' xs') p tr)) := by
  have mi := List.mem_of_getElem? ei
  obtain ⟨p1, p2, p3, p4⟩ := put_ok ha hm hown okn gn fr p tr (S.ok tr mi) (S.wf.mem mi) (fun y my => (rel y my).2 tr mi) hat
  have atr : a ∈ tr.own := (at_sbt p tr _ hat).col (T.mem_col.mpr (.inl ⟨hown, rfl⟩))
  have other : ∀ (j : Nat) (w : T), j ≠ i → ts[j]? = some w → Dj tr w := fun j w hj ew => S.wf.get (Ne.symm hj) ei ew
  have trun : tr ≠ .un := fun z => by rw [z] at atr; cases atr
  have inv : ∀ {w : T}, w ∈ ts.set i (T.put (.nd a k' xs') p tr) → w = T.put (.nd a k' xs') p tr ∨ ∃ j, j ≠ i ∧ ts[j]? = some w := fun {w} m => by
    obtain ⟨j, ej⟩ := List.getElem?_of_mem m
    by_cases hj : j = i
    · subst hj
      rw [List.getElem?_set_self (List.getElem?_eq_some_iff.mp ei).1] at ej
      exact .inl (Option.some.inj ej).symm
    · rw [List.getElem?_set_ne (Ne.symm hj)] at ej
      exact .inr ⟨j, hj, ej⟩
  have pun : T.put (.nd a k' xs') p tr ≠ .un := fun z => by
    cases p with
    | nil => cases z
    | cons c p =>
      cases tr with
      | un => exact trun rfl
      | v x => cases hat
      | nd b kb zs =>
        rw [T.put] at z
        cases e : zs[c]? with
        | none => rw [e] at z; cases z
        | some x => rw [e] at z; cases z
  refine ⟨⟨by rw [List.length_set]; exact S.len, fun j w e ne => ?_, fun w mw => ?_, S.wf.set p2 fun j w hj ew => p4.dj (other j w hj ew) fun y my => (rel y my).2 w (List.mem_of_getElem? ew), fun j mj => ?_⟩, fun {H0 A B} st hB _ => ?_, fun t okt rt dt => ?_⟩
  · by_cases hj : j = i
    · subst hj
      rw [List.getElem?_set_self (List.getElem?_eq_some_iff.mp ei).1] at e
      cases e
      rw [p3]; exact S.rt j tr ei trun
    · rw [List.getElem?_set_ne (Ne.symm hj)] at e
      exact S.rt j w e ne
  · rcases inv mw with rfl | ⟨j, hj, ej⟩
    · exact p1
    · exact keep_updA (S.ok w (List.mem_of_getElem? ej)) ha hm ((other j w hj ej).1 a atr)
  · obtain ⟨w, e, ne, r⟩ := S.pin j mj
    by_cases hj : j = i
    · subst hj
      rw [ei] at e; cases e
      exact ⟨_, by rw [List.getElem?_set_self (List.getElem?_eq_some_iff.mp ei).1], pun, by rw [p3]; exact r⟩
    · exact ⟨w, by rw [List.getElem?_set_ne (Ne.symm hj)]; exact e, ne, r⟩
  · have up : ∀ {q : NK → Bool}, (∀ z ∈ (T.put (.nd a k' xs') p tr).col q, z ∈ tr.col q ∨ ∃ y ∈ ys, z ∈ y.col q) → ∀ w ∈ B ++ ts.set i (T.put (.nd a k' xs') p tr), ∀ z ∈ w.col q, ∃ w' ∈ B ++ ts, z ∈ w'.col q := fun hq w mw z mz => by
      rcases List.mem_append.mp mw with m | m
      · exact ⟨w, List.mem_append_left _ m, mz⟩
      · rcases inv m with rfl | ⟨j, hj, ej⟩
        · rcases hq z mz with m | ⟨y, my, m⟩
          · exact ⟨tr, List.mem_append_right _ mi, m⟩
          · exact ⟨y, List.mem_append_left _ (hB y my), m⟩
        · exact ⟨w, List.mem_append_right _ (List.mem_of_getElem? ej), mz⟩
    refine ⟨fun b q e n => ?_, fun b e => ?_, fun w mw z mz => ?_, fun w mw z mz => ?_, fun w mw z mz => ?_⟩
    · by_cases hb : b = a
      · subst hb
        rcases st.ow tr (List.mem_append_right _ mi) b atr with ⟨w, mw, zw⟩ | q'
        · exact absurd zw (n w mw)
        · rw [e] at q'; cases q'
      · rw [upd_ne hb]; exact st.fr b q e n
    · by_cases hb : b = a
      · rw [hb, upd_same] at e; cases e
      · rw [upd_ne hb] at e; exact st.al b e
    · obtain ⟨w', mw', m⟩ := up p4.ow w mw z mz; exact st.ow w' mw' z m
    · obtain ⟨w', mw', m⟩ := up p4.tr w mw z mz; exact st.tr w' mw' z m
    · obtain ⟨w', mw', m⟩ := up p4.im w mw z mz; exact st.im w' mw' z m
  · refine ⟨keep_updA okt ha hm ((rt.2 tr mi).2 a atr), rt.1, fun w mw => ?_⟩
    rcases inv mw with rfl | ⟨j, hj, ej⟩
    · exact (p4.dj (rt.2 tr mi).symm fun y my => (dt y my).symm).symm
    · exact rt.2 w (List.mem_of_getElem? ej)
end VS

namespace VS
open PySem PySem.Spec PyProof.Rows L2

abbrev EP' := List D → R (List Nat × List D)
def PlPost (K : PySem.W.Frag) (W : WX) (io : List Nat) (ρ : Nat → V) (i : Nat) (md : List Nat) (ts : List T) (σ : L2.St) (H : Hp) (Q : VK) : R (List Nat × List D) → Prop
  | .ok (p, s) => ∀ ts' H' tr n, Sim K io ρ ts' σ H' → T.ers ts' = s → ts'[i]? = some tr → T.at p tr = some n → Step H ts H' ts' → (∀ j, j ∉ md → ts'[j]? = ts[j]?) → Q n.rt H'
  | .ex c fs s => ∀ ts' H' d, Sim K io ρ ts' σ H' → T.ers ts' = s → Step H ts H' ts' → XRel H' d fs → W c d σ H'
  | .no => False
def PlRd (K : PySem.W.Frag) (W : WX) (io : List Nat) (i : Nat) (md : List Nat) (t : TE) (d : EP') : Prop :=
  ∀ ρ ts σ H Q, Sim K io ρ ts σ H → PlPost K W io ρ i md ts σ H Q (d (T.ers ts)) → t σ H Q
structure DP (X : Cx) (W : WX) (io : List Nat) (i : Nat) (md : List Nat) (e : Expr) (t : TE) (d : EP') : Prop where
  pe : PE X e t
  rd : PlRd X.K W io i md t d
def dpN (i : Nat) : EP' := fun s => match s[i]? with
  | none => .no
  | some .un => .no
  | some _ => .ok ([], s)
/-- the items of a list or a tuple -/
def D.kids : D → Option (List D)
  | .nd .tup xs => some xs
  | .nd .scr xs => some xs
  | .nd (.lst _) xs => some xs
  | _ => none
def dpIx (i : Nat) (dp : EP') (db : E) : EP' := fun s => (dp s).bind fun q => (db q.2).bind fun r => match r.1 with
  | .v (.int j) => match r.2[i]? with
    | none => .no
    | some t => match D.at q.1 t with
      | none => .no
      | some n => match n.kids with
        | none => .no
        | some xs => match ixN xs.length j with
          | none => .no
          | some c => .ok (q.1 ++ [c], r.2)
  | _ => .no
theorem at_snoc : ∀ (p : List Nat) (c : Nat) (t n : T), T.at (p ++ [c]) t = some n → ∃ a k xs, T.at p t = some (.nd a k xs) ∧ xs[c]? = some n
  | [], c, .un, n, h => by cases h
  | [], c, .v x, n, h => by cases h
  | [], c, .nd a k xs, n, h => by
    rw [List.nil_append, T.at] at h
    cases e : xs[c]? with
    | none => rw [e] at h; cases h
    | some x => rw [e] at h; cases h; exact ⟨a, k, xs, rfl, e⟩
  | d :: p, c, .un, n, h => by cases h
  | d :: p, c, .v x, n, h => by cases h
  | d :: p, c, .nd a k xs, n, h => by
    rw [List.cons_append, T.at] at h
    cases e : xs[d]? with
    | none => rw [e] at h; cases h
    | some x =>
      rw [e] at h
      obtain ⟨b, kb, zs, h1, h2⟩ := at_snoc p c x n h
      exact ⟨b, kb, zs, by rw [T.at, e]; exact h1, h2⟩
theorem at_un : ∀ (p : List Nat) (t : T) (d : D), D.at p t.er = some d → d ≠ .un → ∃ n, T.at p t = some n ∧ n.er = d ∧ n ≠ .un := fun p t d h hd => by
  obtain ⟨n, h1, h2⟩ := at_er p t d h
  exact ⟨n, h1, h2, er_un (by rw [h2]; exact hd)⟩
section
variable {K : PySem.W.Frag} {W : WX} {io : List Nat}
theorem pl_n {i : Nat} : PlRd K W io i [] (tVar i) (dpN i) := fun ρ ts σ H Q S h => by
  unfold dpN at h
  cases e : (T.ers ts)[i]? with
  | none => rw [e] at h; exact h.elim
  | some d =>
    obtain ⟨t, et, ed⟩ := ers_get e
    rw [e] at h
    have go : t ≠ .un → PlPost K W io ρ i [] ts σ H Q (.ok ([], T.ers ts)) → tVar i σ H Q := fun ne h => ⟨t.rt, S.rt i t et ne, h ts H t t S rfl et rfl Step.refl fun _ _ => rfl⟩
    cases d with
    | un => exact h.elim
    | v x => exact go (er_un (by rw [ed]; intro z; cases z)) h
    | nd k xs => exact go (er_un (by rw [ed]; intro z; cases z)) h
theorem kids_sq {H : Hp} {t : T} {xs : List D} (ok : t.ok K H) (h : t.er.kids = some xs) : ∃ a k us, t = .nd a k us ∧ T.ers us = xs ∧ (SqL K H a (T.rts us) ∨ SqT K H a (T.rts us)) := by
  unfold D.kids at h
  split at h
  · rename_i e; obtain ⟨a, us, rfl, e2⟩ := er_nd e; cases h; exact ⟨a, _, us, rfl, e2, .inr ok.sqT⟩
  · rename_i e; obtain ⟨a, us, rfl, e2⟩ := er_nd e; cases h; exact ⟨a, _, us, rfl, e2, .inl ok.sqS⟩
  · rename_i e; obtain ⟨a, us, rfl, e2⟩ := er_nd e; cases h; exact ⟨a, _, us, rfl, e2, .inl ok.sqL⟩
  · cases h
theorem rIx_of {H : Hp} {a : Addr} {us : List T} {j : Int} {c : Nat} {u : T} {Q : VK} (h : SqL K H a (T.rts us) ∨ SqT K H a (T.rts us)) (hc : ixN us.length j = some c) (e : us[c]? = some u) (q : Q u.rt H) : rIx K (.ref a) (.int j) H Q := by
  have at' : atI (T.rts us) j = some u.rt := by
    unfold atI
    rw [rts_len, hc]
    show (T.rts us)[c]? = _
    rw [T.rts_map, List.getElem?_map, e]; rfl
  rcases h with h | h
  · exact .inl ⟨a, _, j, _, rfl, rfl, h, at', q⟩
  · exact .inr (.inl ⟨a, _, j, _, rfl, rfl, h, at', q⟩)
theorem pl_ix {i : Nat} {m : Md} {d1 d2 : List Nat} {tp tb : TE} {dp : EP'} {db : E} (hp : PlRd K W io i d1 tp dp) (hb : ERd K W io m d2 tb db) (hi : d2.contains i = false) : PlRd K W io i (d1 ++ d2) (tOp (rIx K) tp tb) (dpIx i dp db) := fun ρ ts σ H Q S h => by
  have hi' : i ∉ d2 := by simpa using hi
  refine hp ρ ts σ H _ S ?_
  unfold dpIx at h
  cases ea : dp (T.ers ts) with
  | no => rw [ea] at h; exact h
  | ex c fs s => rw [ea] at h; exact h
  | ok q =>
    obtain ⟨p, s⟩ := q
    rw [ea] at h
    intro ts1 H1 tr n S1 e1 ei en st1 pu1
    simp only [R.bind] at h
    refine hb ρ ts1 σ H1 _ S1 ?_
    rw [e1]
    cases eb : db s with
    | no => rw [eb] at h; exact h
    | ex c fs s2 => rw [eb] at h; exact fun ts2 H2 d S2 e2 st2 x => h ts2 H2 d S2 e2 (st1.trans st2) x
    | ok r =>
      obtain ⟨x, s2⟩ := r
      rw [eb] at h
      intro ts2 t H2 S2 e2 et ok2 mr2 st2 pu2
      have ei2 : ts2[i]? = some tr := (pu2 i hi').trans ei
      have ok2' := S2.ok tr (List.mem_of_getElem? ei2)
      simp only at h
      split at h
      · have := er_v et; subst this
        rename_i j
        have es : s2[i]? = some tr.er := by rw [← e2, T.ers_map, List.getElem?_map, ei2]; rfl
        rw [es] at h
        simp only at h
        cases ed : D.at p tr.er with
        | none => rw [ed] at h; exact h.elim
        | some d =>
          obtain ⟨n', h1, h2⟩ := at_er p tr d ed
          rw [en] at h1; cases h1
          rw [ed] at h
          simp only at h
          cases ek : d.kids with
          | none => rw [ek] at h; exact h.elim
          | some xs =>
            rw [ek] at h
            simp only at h
            obtain ⟨a, k, us, rfl, eu, sq⟩ := kids_sq ((at_sbt p tr n en).ok ok2') (by rw [h2]; exact ek)
            cases ec : ixN xs.length j with
            | none => rw [ec] at h; exact h.elim
            | some c =>
              rw [ec] at h
              simp only at h
              have hc : ixN us.length j = some c := by rw [← ers_len us, eu]; exact ec
              have hcl := (ixN_seq hc).2.1
              -- the item
              have hat : T.at (p ++ [c]) tr = some us[c] := by
                have go : ∀ (p : List Nat) (t : T), T.at p t = some (.nd a k us) → T.at (p ++ [c]) t = some us[c] := by
                  intro p
                  induction p with
                  | nil => intro t e; cases e; rw [List.nil_append, T.at, List.getElem?_eq_getElem hcl]; rfl
                  | cons b p ih =>
                    intro t e
                    cases t with
                    | un => cases e
                    | v x => cases e
                    | nd a' k' zs =>
                      rw [T.at] at e
                      rw [List.cons_append, T.at]
                      cases ez : zs[b]? with
                      | none => rw [ez] at e; cases e
                      | some z => rw [ez] at e; exact ih z e
                exact go p tr en
              exact rIx_of sq hc (List.getElem?_eq_getElem hcl) (h ts2 H2 tr us[c] S2 e2 ei2 hat (st1.trans st2.tail) fun j hj => (pu2 j fun z => hj (List.mem_append_right _ z)).trans (pu1 j fun z => hj (List.mem_append_left _ z)))
      · exact h.elim
/-! ### a list changed by a method -/
/-- the list at the place, in the slots s -/
def lstAt (i : Nat) (p : List Nat) (s : List D) : Option (List D) := match s[i]? with
  | none => none
  | some t => match D.at p t with
    | some (.nd (.lst true) xs) => some xs
    | _ => none
def putAt (i : Nat) (p : List Nat) (y : D) (s : List D) : List D := match s[i]? with
  | none => s
  | some t => s.set i (D.put y p t)
theorem lstAt_of {ts : List T} {i : Nat} {p : List Nat} {xs : List D} {tr n : T} (h : lstAt i p (T.ers ts) = some xs) (ei : ts[i]? = some tr) (en : T.at p tr = some n) : ∃ a us, n = .nd a (.lst true) us ∧ T.ers us = xs := by
  unfold lstAt at h
  have es : (T.ers ts)[i]? = some tr.er := by rw [T.ers_map, List.getElem?_map, ei]; rfl
  rw [es] at h
  simp only at h
  split at h
  · rename_i e
    obtain ⟨n', h1, h2⟩ := at_er p tr _ e
    rw [en] at h1; cases h1
    obtain ⟨a, us, q1, q2⟩ := er_nd h2
    cases h
    exact ⟨a, us, q1, q2⟩
  · cases h
theorem putAt_of {ts : List T} {i : Nat} {p : List Nat} {tr y : T} (ei : ts[i]? = some tr) : T.ers (ts.set i (T.put y p tr)) = putAt i p y.er (T.ers ts) := by
  unfold putAt
  have es : (T.ers ts)[i]? = some tr.er := by rw [T.ers_map, List.getElem?_map, ei]; rfl
  rw [es, ers_set, put_er]
/-- a method that gives r and makes the list xs out of what is handed in: the outcome by data -/
abbrev LM := List D → List D → Option (List D × D)
/-- m by trees: the new list's children, and what is given, are the old children's or the arguments' -/
def LmOk (K : PySem.W.Frag) (r : V → List V → Hp → VK → Prop) (m : LM) : Prop :=
  ∀ (H : Hp) (a : Addr) (us ys : List T) (zs : List D) (d : D) (Q : VK), H a = some (.lst (T.rts us)) → (∀ y ∈ ys, y.ok K H) → (∀ u ∈ us, u.ok K H) → WF us → WF ys → (∀ u ∈ us, ∀ y ∈ ys, Dj u y) → (∀ y ∈ ys, y.er.hasOwn = true → True) → m (T.ers us) (T.ers ys) = some (zs, d) →
    (∀ (us' : List T) (g : T), T.ers us' = zs → g.er = d → WF (g :: us') → (∀ w ∈ g :: us', (∃ u ∈ us ++ ys, Sbt w u) ∨ (w.own = [] ∧ w.trk = [] ∧ w.imm = [])) → (∀ w ∈ g :: us', w.ok K H) → Q g.rt (upd H a (.lst (T.rts us')))) → r (.ref a) (T.rts ys) H Q
def dMeth (i : Nat) (ms : List Md) (dp : EP') (m : LM) (dA : EA) : E := fun s => (dp s).bind fun q => match lstAt i q.1 q.2 with
  | none => .no
  | some _ => (dA q.2).bind fun r => match lstAt i q.1 r.2 with
    | none => .no
    | some xs => if (List.zipWith (fun m (x : D) => m.isTmp || !x.hasOwn) ms r.1).all id = true then (match m xs r.1 with
      | none => .no
      | some z => .ok (z.2, putAt i q.1 (.nd (.lst true) z.1) r.2)) else .no
end
end VS

namespace VS
open PySem PySem.Spec PyProof.Rows L2

theorem put_dj {n n' g : T} {ys : List T} (fg : Frm g n ys) (dn : Dj g n') : ∀ (p : List Nat) (t : T), t.good → (∀ y ∈ ys, Dj y t) → T.at p t = some n → Dj g (T.put n' p t)
  | [], t, _, _, h => dn
  | c :: p, .un, _, _, h => by cases h
  | c :: p, .v x, _, _, h => by cases h
  | c :: p, .nd b kb zs, gd, dy, h => by
    rw [T.at] at h
    cases e : zs[c]? with
    | none => rw [e] at h; cases h
    | some x =>
      rw [e] at h
      have mx := List.mem_of_getElem? e
      have up : ∀ {q : NK → Bool} {z : Addr} {w : T}, w ∈ zs → z ∈ w.col q → z ∈ (T.nd b kb zs).col q := fun mw mz => T.mem_col.mpr (.inr ⟨_, mw, mz⟩)
      have gd0 := gd
      rw [T.good] at gd
      have dyw : ∀ w ∈ zs, ∀ y ∈ ys, Dj y w := fun w mw y my => ⟨fun z mz q => (dy y my).1 z mz (up mw q), fun z mz q => (dy y my).2 z (up mw mz) q⟩
      have sb := at_sbt p x n h
      have own : ∀ z ∈ g.own, z ∈ x.own ∨ ∃ y ∈ ys, z ∈ y.own := fun z mz => (fg.ow z mz).imp (fun m => sb.col m) id
      have trk : ∀ z ∈ g.trk, z ∈ x.trk ∨ ∃ y ∈ ys, z ∈ y.trk := fun z mz => (fg.tr z mz).imp (fun m => sb.col m) id
      have ih := put_dj fg dn p x (goods_mem gd.2.2 mx) (dyw x mx) h
      rw [T.put, e]
      have inv : ∀ {w : T}, w ∈ zs.set c (T.put n' p x) → w = T.put n' p x ∨ ∃ j, j ≠ c ∧ zs[j]? = some w := fun {w} m => by
        obtain ⟨j, ej⟩ := List.getElem?_of_mem m
        by_cases hj : j = c
        · subst hj
          rw [List.getElem?_set_self (List.getElem?_eq_some_iff.mp e).1] at ej
          exact .inl (Option.some.inj ej).symm
        · rw [List.getElem?_set_ne (Ne.symm hj)] at ej
          exact .inr ⟨j, hj, ej⟩
      have sib : ∀ w, (∃ j, j ≠ c ∧ zs[j]? = some w) → Dj g w := fun w ⟨j, hj, ej⟩ => by
        have d := WF.get gd.2.2 (Ne.symm hj) e ej
        have dw := dyw w (List.mem_of_getElem? ej)
        exact ⟨fun z mz q => (own z mz).elim (fun m => d.1 z m q) fun ⟨y, my, m⟩ => (dw y my).1 z m q, fun z mz q => (trk z q).elim (fun m => d.2 z mz m) fun ⟨y, my, m⟩ => (dw y my).2 z mz m⟩
      show Dj g (.nd b kb (zs.set c (T.put n' p x)))
      refine ⟨fun z mz q => ?_, fun z mz q => ?_⟩
      · rcases T.mem_col.mp q with ⟨hk, rfl⟩ | ⟨w, mw, m⟩
        · rcases own z mz with m | ⟨y, my, m⟩
          · exact gd.2.1 hk (T.mem_cols.mpr ⟨x, mx, m⟩)
          · exact (dy y my).1 z m (T.mem_col.mpr (.inl ⟨hk, rfl⟩))
        · rcases inv mw with rfl | hw
          · exact ih.1 z mz m
          · exact (sib w hw).1 z mz m
      · rcases T.mem_col.mp mz with ⟨hk, rfl⟩ | ⟨w, mw, m⟩
        · rcases trk z q with m | ⟨y, my, m⟩
          · exact gd.1 hk (T.mem_cols.mpr ⟨x, mx, m⟩)
          · exact (dy y my).2 z (T.mem_col.mpr (.inl ⟨hk, rfl⟩)) m
        · rcases inv mw with rfl | hw
          · exact ih.2 z m q
          · exact (sib w hw).2 z m q
theorem zip_chk {ms : List Md} {ys : List T} {ts : List T} (ar : ARel ms ys ts) (wf : WF ts) (h : (List.zipWith (fun m (x : D) => m.isTmp || !x.hasOwn) ms (T.ers ys)).all id = true) : (∀ y ∈ ys, TRel y ts) ∧ WF ys := by
  induction ms generalizing ys with
  | nil =>
    cases ys with
    | nil => exact ⟨fun _ m => (nomatch m), WF.nil⟩
    | cons _ _ => exact ar.elim
  | cons m ms ih =>
    cases ys with
    | nil => exact ar.elim
    | cons y ys =>
      rw [T.ers, List.zipWith_cons_cons, List.all_cons, Bool.and_eq_true] at h
      obtain ⟨i1, i2⟩ := ih ar.2.2 h.2
      have ty : TRel y ts := by
        cases m with
        | tmp => exact ar.1
        | vw src =>
          have : y.er.hasOwn = false := by
            cases q : y.er.hasOwn with
            | false => rfl
            | true => have := h.1; rw [q] at this; cases this
          exact ar.1.tmp wf (T.own_nil this)
      refine ⟨fun z mz => ?_, WF.cons ty.1 (fun u mu => ?_) i2⟩
      · rcases List.mem_cons.mp mz with rfl | mz
        · exact ty
        · exact i1 z mz
      · obtain ⟨j, ej⟩ := List.getElem?_of_mem mu
        have hl := ar.2.2.len
        have hj : j < ms.length := by rw [hl]; exact (List.getElem?_eq_some_iff.mp ej).1
        by_cases hm : m.isTmp = true ∨ (ms[j]).isTmp = true
        · exact ar.2.1 j u _ ej (List.getElem?_eq_getElem hj) hm
        · rw [not_or] at hm
          have oy : y.own = [] := T.own_nil (by
            cases q : y.er.hasOwn with
            | false => rfl
            | true =>
              have := h.1
              rw [q] at this
              cases m with
              | tmp => exact absurd rfl hm.1
              | vw _ => cases this)
          have ou : u.own = [] := T.own_nil (by
            have hz : (List.zipWith (fun m (x : D) => m.isTmp || !x.hasOwn) ms (T.ers ys))[j]? = some ((ms[j]).isTmp || !u.er.hasOwn) := by
              rw [List.getElem?_zipWith, List.getElem?_eq_getElem hj, T.ers_map, List.getElem?_map, ej]; rfl
            have := List.all_eq_true.mp h.2 _ (List.mem_of_getElem? hz)
            have this : ((ms[j]).isTmp || !u.er.hasOwn) = true := this
            cases q : u.er.hasOwn with
            | false => rfl
            | true =>
              rw [q] at this
              cases hmj : ms[j] with
              | tmp => rw [hmj] at hm; exact absurd rfl hm.2
              | vw _ => rw [hmj] at this; cases this)
          exact ⟨fun a ma => (by rw [oy] at ma; cases ma), fun a ma => (by rw [ou] at ma; cases ma)⟩
section
variable {K : PySem.W.Frag} {W : WX} {io : List Nat}
theorem erd_meth {i : Nat} {ms : List Md} {d1 d2 : List Nat} {to : TE} {t : TA} {r : V → List V → Hp → VK → Prop} {dp : EP'} {m : LM} {dA : EA} (hp : PlRd K W io i d1 to dp) (hA : ARd K W io ms d2 t dA) (hi : d2.contains i = false) (hm : LmOk K r m) :
    ERd K W io .tmp (d1 ++ (d2 ++ [i])) (tBM K "list" r to t) (dMeth i ms dp m dA) := fun ρ ts σ H Q S h => by
  have hi' : i ∉ d2 := by simpa using hi
  refine hp ρ ts σ H _ S ?_
  unfold dMeth at h
  cases ea : dp (T.ers ts) with
  | no => rw [ea] at h; exact h
  | ex c fs s => rw [ea] at h; exact h
  | ok q =>
    obtain ⟨p, s⟩ := q
    rw [ea] at h
    intro ts1 H1 tr n S1 e1 ei en st1 pu1
    simp only [R.bind] at h
    cases el : lstAt i p s with
    | none => rw [el] at h; exact h.elim
    | some xs0 =>
      rw [el] at h
      simp only at h
      obtain ⟨a, us, rfl, eu⟩ := lstAt_of (by rw [e1]; exact el) ei en
      have okn1 := (at_sbt p tr _ en).ok (S1.ok tr (List.mem_of_getElem? ei))
      refine ⟨.inl ⟨rfl, _, okn1.sqL⟩, ?_⟩
      refine hA ρ ts1 σ H1 _ S1 ?_
      rw [e1]
      cases eb : dA s with
      | no => rw [eb] at h; exact h
      | ex c fs s2 => rw [eb] at h; exact fun ts2 H2 d S2 e2 st2 x => h ts2 H2 d S2 e2 (st1.trans st2) x
      | ok rr =>
        obtain ⟨ds, s2⟩ := rr
        rw [eb] at h
        intro ts2 ys H2 S2 e2 ey oky ar st2 pu2
        simp only at h
        have ei2 : ts2[i]? = some tr := (pu2 i hi').trans ei
        have mi2 := List.mem_of_getElem? ei2
        cases el2 : lstAt i p s2 with
        | none => rw [el2] at h; exact h.elim
        | some xs =>
          rw [el2] at h
          simp only at h
          obtain ⟨a', us', en', eu'⟩ := lstAt_of (by rw [e2]; exact el2) ei2 en
          cases en'
          by_cases hz : (List.zipWith (fun m (x : D) => m.isTmp || !x.hasOwn) ms ds).all id = true
          · rw [if_pos hz] at h
            obtain ⟨rel, wfy⟩ := zip_chk ar S2.wf (by rw [ey]; exact hz)
            cases em : m xs ds with
            | none => rw [em] at h; exact h.elim
            | some z =>
              obtain ⟨zs, d⟩ := z
              rw [em] at h
              simp only at h
              have sbn := at_sbt p tr _ en
              have okn2 := sbn.ok (S2.ok tr mi2)
              have gn := sbn.good (S2.wf.mem mi2)
              have gn0 := gn
              rw [T.good] at gn
              have an : a ∈ (T.nd a (.lst true) us).own := T.mem_col.mpr (.inl ⟨rfl, rfl⟩)
              have upn : ∀ {q : NK → Bool} {z : Addr} {w : T}, w ∈ us → z ∈ w.col q → z ∈ (T.nd a (.lst true) us).col q := fun mw mz => T.mem_col.mpr (.inr ⟨_, mw, mz⟩)
              have dyu : ∀ u ∈ us, ∀ y ∈ ys, Dj u y := fun u mu y my => by
                have d := (rel y my).2 tr mi2
                exact ⟨fun z mz q => d.2 z (sbn.col (upn mu mz)) q, fun z mz q => d.1 z mz (sbn.col (upn mu q))⟩
              refine hm H2 a us ys zs d Q okn2.atL oky (fun u mu => okn2.child mu) gn.2.2 wfy dyu (fun _ _ _ => trivial) (by rw [eu', ey]; exact em) fun us2 g e3 e4 wf2 src ok3 => ?_
              -- the new node
              have frm : ∀ w ∈ g :: us2, Frm w (.nd a (.lst true) us) ys := fun w mw => by
                rcases src w mw with ⟨u, mu, sb⟩ | ⟨o1, o2, o3⟩
                · rcases List.mem_append.mp mu with mu | mu
                  · exact ⟨fun z mz => .inl (upn mu (sb.col mz)), fun z mz => .inl (upn mu (sb.col mz)), fun z mz => .inl (upn mu (sb.col mz))⟩
                  · exact ⟨fun z mz => .inr ⟨u, mu, sb.col mz⟩, fun z mz => .inr ⟨u, mu, sb.col mz⟩, fun z mz => .inr ⟨u, mu, sb.col mz⟩⟩
                · exact ⟨fun z mz => (by rw [o1] at mz; cases mz), fun z mz => (by rw [o2] at mz; cases mz), fun z mz => (by rw [o3] at mz; cases mz)⟩
              have na : ∀ w ∈ g :: us2, a ∉ w.trk := fun w mw z => by
                rcases src w mw with ⟨u, mu, sb⟩ | ⟨_, o2, _⟩
                · rcases List.mem_append.mp mu with mu | mu
                  · exact gn.1 rfl (T.mem_cols.mpr ⟨u, mu, sb.col z⟩)
                  · exact ((rel u mu).2 tr mi2).2 a (sbn.col an) (sb.col z)
                · rw [o2] at z; cases z
              have okw : ∀ w ∈ g :: us2, w.ok K (upd H2 a (.lst (T.rts us2))) := fun w mw => keep_updA (ok3 w mw) okn2.atL rfl (na w mw)
              have okn3 : (T.nd a (.lst true) us2).ok K (upd H2 a (.lst (T.rts us2))) := by
                rw [T.ok]
                exact ⟨upd_same, T.oks_all.mpr fun w mw => okw w (List.mem_cons_of_mem _ mw)⟩
              have gn3 : (T.nd a (.lst true) us2).good := by
                rw [T.good]
                refine ⟨fun _ m => ?_, fun _ m => ?_, wf2.head.2.2⟩
                · obtain ⟨w, mw, mz⟩ := T.mem_cols.mp m
                  exact na w (List.mem_cons_of_mem _ mw) mz
                · obtain ⟨w, mw, mz⟩ := T.mem_cols.mp m
                  exact na w (List.mem_cons_of_mem _ mw) (T.own_trk mz)
              have fr3 : Frm (.nd a (.lst true) us2) (.nd a (.lst true) us) ys := by
                have go : ∀ {q : NK → Bool}, (∀ w ∈ g :: us2, ∀ z ∈ w.col q, z ∈ (T.nd a (.lst true) us).col q ∨ ∃ y ∈ ys, z ∈ y.col q) → ∀ z ∈ (T.nd a (.lst true) us2).col q, z ∈ (T.nd a (.lst true) us).col q ∨ ∃ y ∈ ys, z ∈ y.col q := fun hq z mz => by
                  rcases T.mem_col.mp mz with m | ⟨w, mw, m⟩
                  · exact .inl (T.mem_col.mpr (.inl m))
                  · exact hq w (List.mem_cons_of_mem _ mw) z m
                exact ⟨go fun w mw => (frm w mw).ow, go fun w mw => (frm w mw).tr, go fun w mw => (frm w mw).im⟩
              obtain ⟨S3, st3, _⟩ := mut_fin S2 ei2 en okn2.atL rfl rfl okn3 gn3 fr3 rel
              -- what is given
              have dgn : Dj g (.nd a (.lst true) us2) := by
                refine ⟨fun z mz q => ?_, fun z mz q => ?_⟩
                · rcases T.mem_col.mp q with ⟨_, rfl⟩ | ⟨w, mw, m⟩
                  · exact na g List.mem_cons_self (T.own_trk mz)
                  · exact (wf2.head.2.1 w mw).1 z mz m
                · rcases T.mem_col.mp mz with ⟨_, rfl⟩ | ⟨w, mw, m⟩
                  · exact na g List.mem_cons_self q
                  · exact (wf2.head.2.1 w mw).2 z m q
              have tg : TRel g (ts2.set i (T.put (.nd a (.lst true) us2) p tr)) := by
                refine ⟨wf2.head.1, fun w mw => ?_⟩
                obtain ⟨j, ej⟩ := List.getElem?_of_mem mw
                by_cases hj : j = i
                · subst hj
                  rw [List.getElem?_set_self (List.getElem?_eq_some_iff.mp ei2).1] at ej
                  cases ej
                  exact put_dj (frm g List.mem_cons_self) dgn p tr (S2.wf.mem mi2) (fun y my => (rel y my).2 tr mi2) en
                · rw [List.getElem?_set_ne (Ne.symm hj)] at ej
                  have dtw := S2.wf.get (Ne.symm hj) ei2 ej
                  have f := frm g List.mem_cons_self
                  exact ⟨fun z mz q => (f.ow z mz).elim (fun m => dtw.1 z (sbn.col m) q) fun ⟨y, my, m⟩ => ((rel y my).2 w (List.mem_of_getElem? ej)).1 z m q, fun z mz q => (f.tr z q).elim (fun m => dtw.2 z mz (sbn.col m)) fun ⟨y, my, m⟩ => ((rel y my).2 w (List.mem_of_getElem? ej)).2 z mz m⟩
              have st4 := st3 (st1.trans st2) (fun y my => my) fun _ _ => trivial
              refine h _ g (upd H2 a (.lst (T.rts us2))) S3 ?_ e4 (okw g List.mem_cons_self) tg ?_ fun j hj => ?_
              · rw [putAt_of ei2, T.er, e3, e2]
              · have up2 : ∀ {q : NK → Bool} {z : Addr}, (z ∈ (T.nd a (.lst true) us).col q ∨ ∃ y ∈ ys, z ∈ y.col q) → ∃ w ∈ ys ++ ts2, z ∈ w.col q := fun h => h.elim (fun m => ⟨tr, List.mem_append_right _ mi2, sbn.col m⟩) fun ⟨y, my, m⟩ => ⟨y, List.mem_append_left _ my, m⟩
                have f := frm g List.mem_cons_self
                have q := st1.trans st2
                exact (st4.sub fun w mw => List.mem_append_right _ mw).cons (fun z mz => let ⟨w, mw, m⟩ := up2 (f.ow z mz); q.ow w mw z m) (fun z mz => let ⟨w, mw, m⟩ := up2 (f.tr z mz); q.tr w mw z m) (fun z mz => let ⟨w, mw, m⟩ := up2 (f.im z mz); q.im w mw z m)
              · rw [List.mem_append, List.mem_append, not_or, not_or] at hj
                rw [List.getElem?_set_ne (fun z => hj.2.2 (by rw [z]; simp)), pu2 j hj.2.1, pu1 j hj.1]
          · rw [if_neg hz] at h; exact h.elim
end
end VS

namespace VS
open PySem PySem.Spec PyProof.Rows L2

theorem none3 : (T.v .non).own = [] ∧ (T.v .non).trk = [] ∧ (T.v .non).imm = [] := ⟨rfl, rfl, rfl⟩
theorem dj_v {x : V} {u : T} : Dj (.v x) u := ⟨fun a m => (nomatch m), fun a _ m => (nomatch m)⟩
def mAppend : LM := fun xs ys => match ys with
  | [y] => if xs.length < sizeLine then some (xs ++ [y], .v .non) else none
  | _ => none
theorem mAppend_ok {K : PySem.W.Frag} : LmOk K rAppend mAppend := by
  intro H a us ys zs d Q ha oky oku wu wy dj _ hm q
  match ys, hm, oky, wy, dj, q with
  | [], hm, _, _, _, _ => rw [T.ers] at hm; cases hm
  | _ :: _ :: _, hm, _, _, _, _ => rw [T.ers, T.ers] at hm; cases hm
  | [y], hm, oky, wy, dj, q =>
    rw [T.ers, T.ers] at hm
    unfold mAppend at hm
    simp only at hm
    split at hm
    · rename_i hl
      cases hm
      rw [ers_len] at hl
      refine ⟨a, T.rts us, y.rt, rfl, rfl, ha, by rw [rts_len]; exact hl, ?_⟩
      have e : T.rts us ++ [y.rt] = T.rts (us ++ [y]) := by rw [rts_append]; rfl
      rw [e]
      refine q (us ++ [y]) (.v .non) (by rw [ers_append]; rfl) rfl (WF.cons trivial (fun _ _ => dj_v) (WF.append wu wy fun u mu w mw => dj u mu w mw)) (fun w mw => ?_) fun w mw => ?_
      · rcases List.mem_cons.mp mw with rfl | mw
        · exact .inr none3
        · exact .inl ⟨w, mw, .refl w⟩
      · rcases List.mem_cons.mp mw with rfl | mw
        · exact trivial
        · rcases List.mem_append.mp mw with m | m
          · exact oku w m
          · exact oky w m
    · cases hm
def mExtend : LM := fun xs ys => match ys with
  | [.nd (.lst _) zs] => if xs.length + zs.length ≤ sizeLine then some (xs ++ zs, .v .non) else none
  | _ => none
theorem mExtend_ok {K : PySem.W.Frag} : LmOk K rExtend mExtend := by
  intro H a us ys zs d Q ha oky oku wu wy dj _ hm q
  match ys, hm, oky, wy, dj, q with
  | [], hm, _, _, _, _ => rw [T.ers] at hm; cases hm
  | _ :: _ :: _, hm, _, _, _, _ => exfalso; rw [T.ers, T.ers] at hm; revert hm; unfold mExtend; split <;> intro hm <;> simp_all
  | [y], hm, oky, wy, dj, q =>
    rw [T.ers, T.ers] at hm
    unfold mExtend at hm
    split at hm
    · rename_i o ws heq
      injection heq with heq _
      obtain ⟨b, us2, rfl, e2⟩ := er_nd heq
      split at hm
      · rename_i hl
        cases hm
        subst e2
        rw [ers_len, ers_len] at hl
        have oky := oky _ List.mem_cons_self
        refine ⟨a, b, T.rts us, T.rts us2, rfl, rfl, ha, oky.atL, by rw [rts_len, rts_len]; exact hl, ?_⟩
        have e : T.rts us ++ T.rts us2 = T.rts (us ++ us2) := by rw [rts_append]
        rw [e]
        have gy := wy.head.1
        rw [T.good] at gy
        have up : ∀ {q : NK → Bool} {z : Addr} {w : T}, w ∈ us2 → z ∈ w.col q → z ∈ (T.nd b (.lst o) us2).col q := fun mw mz => T.mem_col.mpr (.inr ⟨_, mw, mz⟩)
        refine q (us ++ us2) (.v .non) (by rw [ers_append]) rfl (WF.cons trivial (fun _ _ => dj_v) (WF.append wu gy.2.2 fun u mu w mw => ?_)) (fun w mw => ?_) fun w mw => ?_
        · have d := dj u mu _ List.mem_cons_self
          exact ⟨fun z mz q => d.1 z mz (up mw q), fun z mz q => d.2 z (up mw mz) q⟩
        · rcases List.mem_cons.mp mw with rfl | mw
          · exact .inr none3
          · rcases List.mem_append.mp mw with m | m
            · exact .inl ⟨w, List.mem_append_left _ m, .refl w⟩
            · exact .inl ⟨_, List.mem_append_right _ List.mem_cons_self, .child m (.refl w)⟩
        · rcases List.mem_cons.mp mw with rfl | mw
          · exact trivial
          · rcases List.mem_append.mp mw with m | m
            · exact oku w m
            · exact oky.child m
      · cases hm
    · cases hm
def mPop : LM := fun xs ys => match ys with
  | [] => match xs[xs.length - 1]? with
    | some y => some (xs.dropLast, y)
    | none => none
  | _ => none
theorem ers_dropLast (us : List T) : T.ers us.dropLast = (T.ers us).dropLast := by rw [T.ers_map, T.ers_map, List.map_dropLast]
theorem rts_dropLast (us : List T) : T.rts us.dropLast = (T.rts us).dropLast := by rw [T.rts_map, T.rts_map, List.map_dropLast]
theorem wf_last : ∀ {us : List T} {y : T}, WF us → us[us.length - 1]? = some y → WF (y :: us.dropLast) := fun {us y} h e => by
  have hne : us ≠ [] := fun z => by subst z; simp at e
  have hl : 0 < us.length := List.length_pos_iff.mpr hne
  refine WF.cons (h.mem (List.mem_of_getElem? e)) (fun u mu => ?_) (h.sub (List.dropLast_sublist us))
  obtain ⟨j, ej⟩ := List.getElem?_of_mem mu
  have hj := (List.getElem?_eq_some_iff.mp ej).1
  rw [List.length_dropLast] at hj
  have ej2 : us[j]? = some u := by
    rw [List.getElem?_eq_some_iff] at ej ⊢
    obtain ⟨h1, h2⟩ := ej
    exact ⟨by omega, by rw [← h2, List.getElem_dropLast]⟩
  exact h.get (by omega) e ej2
theorem mPop_ok {K : PySem.W.Frag} : LmOk K rPop mPop := by
  intro H a us ys zs d Q ha oky oku wu wy dj _ hm q
  match ys, hm, oky, wy, dj, q with
  | y :: ys, hm, _, _, _, _ => rw [T.ers] at hm; cases hm
  | [], hm, oky, wy, dj, q =>
    rw [T.ers] at hm
    unfold mPop at hm
    simp only at hm
    split at hm
    · rename_i y e
      cases hm
      rw [ers_len] at e
      obtain ⟨u, e1, e2, e3⟩ := rts_get e
      refine ⟨a, T.rts us, u.rt, rfl, rfl, ha, by rw [rts_len]; exact e3, ?_⟩
      rw [← rts_dropLast]
      refine q us.dropLast u (ers_dropLast us) e2 (wf_last wu e1) (fun w mw => ?_) fun w mw => ?_
      · rcases List.mem_cons.mp mw with rfl | mw
        · exact .inl ⟨w, List.mem_append_left _ (List.mem_of_getElem? e1), .refl w⟩
        · exact .inl ⟨w, List.mem_append_left _ ((List.dropLast_sublist us).subset mw), .refl w⟩
      · rcases List.mem_cons.mp mw with rfl | mw
        · exact oku w (List.mem_of_getElem? e1)
        · exact oku w ((List.dropLast_sublist us).subset mw)
    · cases hm

/-! ### place[i] = e -/
def sSetIx (i : Nat) (m : Md) (de : E) (dp : EP') (di : E) : S := fun s => match de s with
  | .no => .no
  | .ex c fs s => .ex c fs s
  | .ok q => if (m.isTmp || !q.1.hasOwn) = true then (match dp q.2 with
    | .no => .no
    | .ex c fs s => .ex c fs s
    | .ok r => match di r.2 with
      | .no => .no
      | .ex c fs s => .ex c fs s
      | .ok w => match w.1 with
        | .v (.int j) => match lstAt i r.1 w.2 with
          | none => .no
          | some xs => match ixN xs.length j with
            | none => .no
            | some c => .nx (putAt i r.1 (.nd (.lst true) (xs.set c q.1)) w.2)
        | _ => .no) else .no
section
variable {K : PySem.W.Frag} {W : WX} {io : List Nat}
theorem srd_setix {i : Nat} {m mi : Md} {d0 d1 d2 : List Nat} {te to ti : TE} {de di : E} {dp : EP'} (he : ERd K W io m d0 te de) (hp : PlRd K W io i d1 to dp) (hx : ERd K W io mi d2 ti di) (hi : d2.contains i = false) :
    SRd K W io (d0 ++ (d1 ++ (d2 ++ [i]))) (tAsg te (gSub to ti rSetL)) (sSetIx i m de dp di) := fun ρ ts σ H Z S h => by
  have hi' : i ∉ d2 := by simpa using hi
  refine he ρ ts σ H _ S ?_
  unfold sSetIx at h
  cases ee : de (T.ers ts) with
  | no => rw [ee] at h; exact h
  | ex c fs s => rw [ee] at h; exact fun ts1 H1 d S1 e1 st1 x => h ts1 σ H1 d S1 e1 st1 x
  | ok q =>
    obtain ⟨y0, s1⟩ := q
    rw [ee] at h
    intro ts1 y H1 S1 e1 ey oky mry st1 pu1
    by_cases hc : (m.isTmp || !y0.hasOwn) = true
    · simp only [hc, if_true] at h
      have try1 : TRel y ts1 := by
        cases m with
        | tmp => exact mry
        | vw src =>
          have : y0.hasOwn = false := by cases z : y0.hasOwn with | false => rfl | true => rw [z] at hc; cases hc
          exact mry.tmp S1.wf (T.own_nil (by rw [ey]; exact this))
      refine hp ρ ts1 σ H1 _ S1 ?_
      rw [e1]
      cases ea : dp s1 with
      | no => rw [ea] at h; exact h
      | ex c fs s => rw [ea] at h; exact fun ts2 H2 d S2 e2 st2 x => h ts2 σ H2 d S2 e2 (st1.tail.trans st2) x
      | ok r =>
        obtain ⟨p, s2⟩ := r
        rw [ea] at h
        intro ts2 H2 tr n S2 e2 ei en st2 pu2
        refine hx ρ ts2 σ H2 _ S2 ?_
        rw [e2]
        simp only at h
        cases eb : di s2 with
        | no => rw [eb] at h; exact h
        | ex c fs s => rw [eb] at h; exact fun ts3 H3 d S3 e3 st3 x => h ts3 σ H3 d S3 e3 ((st1.tail.trans st2).trans st3) x
        | ok w =>
          obtain ⟨x, s3⟩ := w
          rw [eb] at h
          intro ts3 t3 H3 S3 e3 et3 ok3 mr3 st3 pu3
          simp only at h
          split at h
          · rename_i j
            have := er_v et3; subst this
            have ei3 : ts3[i]? = some tr := (pu3 i hi').trans ei
            have mi3 := List.mem_of_getElem? ei3
            cases el : lstAt i p s3 with
            | none => rw [el] at h; exact h.elim
            | some xs =>
              rw [el] at h
              simp only at h
              obtain ⟨a, us, rfl, eu⟩ := lstAt_of (by rw [e3]; exact el) ei3 en
              cases ec : ixN xs.length j with
              | none => rw [ec] at h; exact h.elim
              | some c =>
                rw [ec] at h
                simp only at h
                -- the value, held so far
                have oky2 : y.ok K H2 := keepT oky S1.ok st2 fun u mu b mb => (try1.2 u mu).2 b mb
                have try2 : TRel y ts2 := ⟨try1.1, djStep oky try1.2 st2⟩
                have oky3 : y.ok K H3 := keepT oky2 S2.ok st3 fun u mu b mb => (try2.2 u mu).2 b mb
                have try3 : TRel y ts3 := ⟨try1.1, djStep oky2 try2.2 st3.tail⟩
                have sbn := at_sbt p tr _ en
                have okn := sbn.ok (S3.ok tr mi3)
                have gn := sbn.good (S3.wf.mem mi3)
                have an : a ∈ (T.nd a (.lst true) us).own := T.mem_col.mpr (.inl ⟨rfl, rfl⟩)
                rw [T.good] at gn
                have dyn : Dj y (.nd a (.lst true) us) := by
                  have d := try3.2 tr mi3
                  exact ⟨fun z mz q => d.1 z mz (sbn.col q), fun z mz q => d.2 z (sbn.col mz) q⟩
                have upn : ∀ {q : NK → Bool} {z : Addr} {w : T}, w ∈ us → z ∈ w.col q → z ∈ (T.nd a (.lst true) us).col q := fun mw mz => T.mem_col.mpr (.inr ⟨_, mw, mz⟩)
                have na : ∀ w ∈ us.set c y, a ∉ w.trk := fun w mw z => by
                  rcases List.mem_or_eq_of_mem_set mw with mw | rfl
                  · exact gn.1 rfl (T.mem_cols.mpr ⟨w, mw, z⟩)
                  · exact dyn.2 a an z
                have hcl : ixN us.length j = some c := by rw [← ers_len us, eu]; exact ec
                have okn3 : (T.nd a (.lst true) (us.set c y)).ok K (upd H3 a (.lst (T.rts (us.set c y)))) := by
                  rw [T.ok]
                  refine ⟨upd_same, T.oks_all.mpr fun w mw => keep_updA ?_ okn.atL rfl (na w mw)⟩
                  rcases List.mem_or_eq_of_mem_set mw with mw | rfl
                  · exact okn.child mw
                  · exact oky3
                have gn3 : (T.nd a (.lst true) (us.set c y)).good := by
                  rw [T.good]
                  refine ⟨fun _ m => ?_, fun _ m => ?_, WF.set gn.2.2 try3.1 fun k w hk ew => ?_⟩
                  · obtain ⟨w, mw, mz⟩ := T.mem_cols.mp m
                    exact na w mw mz
                  · obtain ⟨w, mw, mz⟩ := T.mem_cols.mp m
                    exact na w mw (T.own_trk mz)
                  · have mw := List.mem_of_getElem? ew
                    exact ⟨fun z mz q => dyn.1 z mz (upn mw q), fun z mz q => dyn.2 z (upn mw mz) q⟩
                have fr3 : Frm (.nd a (.lst true) (us.set c y)) (.nd a (.lst true) us) [y] := by
                  have go : ∀ {q : NK → Bool}, ∀ z ∈ (T.nd a (.lst true) (us.set c y)).col q, z ∈ (T.nd a (.lst true) us).col q ∨ ∃ y' ∈ [y], z ∈ y'.col q := fun z mz => by
                    rcases T.mem_col.mp mz with m | ⟨w, mw, m⟩
                    · exact .inl (T.mem_col.mpr (.inl m))
                    · rcases List.mem_or_eq_of_mem_set mw with mw | rfl
                      · exact .inl (upn mw m)
                      · exact .inr ⟨w, by simp, m⟩
                  exact ⟨fun z => go z, fun z => go z, fun z => go z⟩
                obtain ⟨S4, st4, _⟩ := mut_fin S3 ei3 en okn.atL rfl rfl okn3 gn3 fr3 (fun y' my => by
                  have : y' = y := by simpa using my
                  subst this; exact try3)
                refine ⟨a, T.rts us, j, c, rfl, rfl, okn.atL, by rw [rts_len]; exact hcl, ?_⟩
                have er : (T.rts us).set c y.rt = T.rts (us.set c y) := by rw [T.rts_map, T.rts_map, List.map_set]
                rw [er]
                have stA : Step H ts H3 ([y] ++ ts3) := by
                  have q := (st1.tail.trans st2).trans st3.tail
                  exact q.cons (st1.ow y List.mem_cons_self) (st1.tr y List.mem_cons_self) (st1.im y List.mem_cons_self)
                refine h _ σ _ S4 ?_ ((st4 stA (fun y' my => my) fun _ _ => trivial).sub fun w mw => List.mem_append_right _ mw) fun k hk => ?_
                · rw [putAt_of ei3, T.er, ers_set, eu, ey, e3]
                · rw [List.mem_append, List.mem_append, List.mem_append, not_or, not_or, not_or] at hk
                  rw [List.getElem?_set_ne (fun z => hk.2.2.2 (by rw [z]; simp)), pu3 k hk.2.2.1, pu2 k hk.2.1, pu1 k hk.1]
          · exact h.elim
    · simp only [hc] at h
      exact h.elim
end
section
variable {X : Cx} {W : WX} {io : List Nat} {i : Nat} {d0 d1 d2 : List Nat} {m mi : Md}
theorem dp_n (i : Nat) {x : Str} {pos : Pos} (hN : X.N[i]? = some x := by rfl) (hv : Vis X.env.scope x := by first | exact Or.inl rfl | exact Or.inr (Or.inl rfl) | exact Or.inr (Or.inr rfl)) (hd : (x == ("__debug__" : Str)) = false := by decide)
    (hcd : (x == ("__classdict__" : Str)) = false := by decide) : DP X W io i [] (.Name x pos) (tVar i) (dpN i) := ⟨pe_var hN hv hd hcd, pl_n⟩
theorem dp_ix {a b : Expr} {pos : Pos} {tp tb : TE} {dp : EP'} {db : E} (hp : DP X W io i d1 a tp dp) (hb : DE X W io m d2 b tb db) (hs : PlainIx b := by exact fun _ _ => rfl) (hi : d2.contains i = false := by rfl) : DP X W io i (d1 ++ d2) (.Subscript a b pos) (tOp (rIx X.K) tp tb) (dpIx i dp db) := ⟨pe_ix ix_seq hp.pe hb.pe hs, pl_ix hp.rd hb.rd hi⟩
theorem ds_setix {o ix e : Expr} {pos pos' : Pos} {te to ti : TE} {de di : E} {dp : EP'} (he : DE X W io m d0 e te de) (hp : DP X W io i d1 o to dp) (hx : DE X W io mi d2 ix ti di) (hi : d2.contains i = false := by rfl)
    (ha : ∀ v, assign (.Subscript o ix pos) X.env v = (do
      let ov ← holding [v] (eval o X.env)
      let iv ← holding [v, ov] (eval ix X.env)
      standAt pos
      holding [v, ov, iv] (setItem ov iv v)
      release [v, ov, iv] []) := by intro _; rfl)
    (hs : swapsWithSole [.Subscript o ix pos] e pos'.line X.env = pure false := by rfl) (hw : swappedStores [.Subscript o ix pos] e X.env = pure none := by rfl)
    (h1 : (assignEach [.Subscript o ix pos] X.env).map (·.2) = [assign (.Subscript o ix pos) X.env] := by rfl) :
    DS X W io (d0 ++ (d1 ++ (d2 ++ [i]))) (.Assign [.Subscript o ix pos] e pos') (tAsg te (gSub to ti rSetL)) (sSetIx i m de dp di) := ⟨ps_asg he.pe (pg_sub hp.pe hx.pe set_list ha) hs hw h1, srd_setix he.rd hp.rd hx.rd hi⟩
theorem de_append {o e : Expr} {apos cpos : Pos} {to te : TE} {dp : EP'} {de : E} (hp : DP X W io i d1 o to dp) (he : DE X W io m d2 e te de) (hi : (d2 ++ []).contains i = false := by rfl)
    (hbase : attributeBase o "append" X.env (eval o X.env) = eval o X.env := by rfl)
    (hfew : ((backTo cpos (starEach [e] X.env)).all (fun x => !x.1) && (backToKw cpos (keywordEach [] X.env)).all (fun x => x.1.isSome)
      && decide ([e].length + ([] : List Keyword).length + (if ([] : List Keyword).isEmpty then 0 else 1) < 30)) = true := by rfl)
    (hline : (apos.endLine == cpos.line) = true := by rfl) (hs : starEach [e] X.env = (false, eval e X.env) :: starEach [] X.env := by rfl) (hplain : (backTo cpos (starEach [] X.env)).any (·.1) = false := by rfl) :
    DE X W io .tmp (d1 ++ ((d2 ++ []) ++ [i])) (.Call (.Attribute o "append" apos) [e] [] cpos) (tBM X.K "list" rAppend to (tCons te tNil)) (dMeth i [m] dp mAppend (dAcons m [] de dAnil)) :=
  ⟨pe_bm PySem.F.plainAttrs_list PySem.F.slot_list_append PySem.F.type_list_append mt_append hp.pe (pa_cons he.pe pa_nil hs) hbase hfew hline hs hplain, erd_meth hp.rd (ard_cons he.rd ard_nil) hi mAppend_ok⟩
theorem de_extend {o e : Expr} {apos cpos : Pos} {to te : TE} {dp : EP'} {de : E} (hp : DP X W io i d1 o to dp) (he : DE X W io m d2 e te de) (hi : (d2 ++ []).contains i = false := by rfl)
    (hbase : attributeBase o "extend" X.env (eval o X.env) = eval o X.env := by rfl)
    (hfew : ((backTo cpos (starEach [e] X.env)).all (fun x => !x.1) && (backToKw cpos (keywordEach [] X.env)).all (fun x => x.1.isSome)
      && decide ([e].length + ([] : List Keyword).length + (if ([] : List Keyword).isEmpty then 0 else 1) < 30)) = true := by rfl)
    (hline : (apos.endLine == cpos.line) = true := by rfl) (hs : starEach [e] X.env = (false, eval e X.env) :: starEach [] X.env := by rfl) (hplain : (backTo cpos (starEach [] X.env)).any (·.1) = false := by rfl) :
    DE X W io .tmp (d1 ++ ((d2 ++ []) ++ [i])) (.Call (.Attribute o "extend" apos) [e] [] cpos) (tBM X.K "list" rExtend to (tCons te tNil)) (dMeth i [m] dp mExtend (dAcons m [] de dAnil)) :=
  ⟨pe_bm PySem.F.plainAttrs_list PySem.F.slot_list_extend PySem.F.type_list_extend mt_extend hp.pe (pa_cons he.pe pa_nil hs) hbase hfew hline hs hplain, erd_meth hp.rd (ard_cons he.rd ard_nil) hi mExtend_ok⟩
theorem de_pop {o : Expr} {apos cpos : Pos} {to : TE} {dp : EP'} (hp : DP X W io i d1 o to dp) (hi : ([] : List Nat).contains i = false := by rfl)
    (hbase : attributeBase o "pop" X.env (eval o X.env) = eval o X.env := by rfl)
    (hfew : ((backTo cpos (starEach [] X.env)).all (fun x => !x.1) && (backToKw cpos (keywordEach [] X.env)).all (fun x => x.1.isSome)
      && decide (([] : List Expr).length + ([] : List Keyword).length + (if ([] : List Keyword).isEmpty then 0 else 1) < 30)) = true := by rfl)
    (hline : (apos.endLine == cpos.line) = true := by rfl) :
    DE X W io .tmp (d1 ++ ([] ++ [i])) (.Call (.Attribute o "pop" apos) [] [] cpos) (tBM X.K "list" rPop to tNil) (dMeth i [] dp mPop dAnil) :=
  ⟨pe_bm0 PySem.F.plainAttrs_list PySem.F.slot_list_pop PySem.F.type_list_pop mt_pop hp.pe hbase hline, erd_meth hp.rd ard_nil hi mPop_ok⟩
end
end VS

namespace VS
open PySem PySem.Spec PyProof.Rows L2

/-! ### displays -/
def chkT (ms : List Md) (xs : List D) : Bool := (List.zipWith (fun m (x : D) => m.isTmp || !x.hasOwn) ms xs).all id
def dDis (k : NK) (ms : List Md) (dA : EA) : E := fun s => (dA s).bind fun q => if (chkT ms q.1 && decide (q.1.length ≤ sizeLine)) = true then .ok (.nd k q.1, q.2) else .no
section
variable {K : PySem.W.Frag} {W : WX} {io : List Nat}
theorem erd_dis {k : NK} {ms : List Md} {md : List Nat} {t : TA} {dA : EA} {o : List V → HO} {tt : TE} (hA : ARd K W io ms md t dA) (hk : k.isOwn = true ∨ k.isTrk = false) (hki : k.isImm = false)
    (ht : ∀ σ H Q, tt σ H Q = t σ H fun xs H1 => xs.length ≤ sizeLine ∧ ∀ p, H1 p = none → Q (.ref p) (upd H1 p (o xs))) (hn : ∀ H p vs, NodeAt K (upd H p (o vs)) p vs k) : ERd K W io .tmp md tt (dDis k ms dA) := fun ρ ts σ H Q S h => by
  rw [ht]
  refine hA ρ ts σ H _ S ?_
  unfold dDis at h
  cases ea : dA (T.ers ts) with
  | no => rw [ea] at h; exact h
  | ex c fs s => rw [ea] at h; exact h
  | ok q =>
    obtain ⟨xs, s⟩ := q
    rw [ea] at h
    simp only [R.bind] at h
    intro ts1 us H1 S1 e1 eu oku ar st1 pu1
    by_cases hc : (chkT ms xs && decide (xs.length ≤ sizeLine)) = true
    · rw [if_pos hc] at h
      rw [Bool.and_eq_true] at hc
      obtain ⟨rel, wfu⟩ := zip_chk ar S1.wf (by rw [eu]; exact hc.1)
      refine ⟨by rw [rts_len, ← ers_len us, eu]; exact of_decide_eq_true hc.2, fun p hp => ?_⟩
      have sm := same_upd (o := o (T.rts us)) hp
      have nu : ∀ u ∈ us, p ∉ u.trk := fun u mu z => by obtain ⟨o, e⟩ := T.trk_s (oku u mu) z; rw [hp] at e; cases e
      have nw : ∀ w ∈ ts1, p ∉ w.trk := fun w mw z => by obtain ⟨o, e⟩ := T.trk_s (S1.ok w mw) z; rw [hp] at e; cases e
      have HP : H p = none := st1.al p hp
      refine h ts1 (.nd p k us) _ ⟨S1.len, S1.rt, fun w mw => T.ok_same (S1.ok w mw) sm, S1.wf, S1.pin⟩ e1 (by rw [T.er, eu]) (ok_new hp (hn _ _ _) oku) ⟨?_, fun w mw => ⟨fun a ma z => ?_, fun a ma z => ?_⟩⟩ ?_ pu1
      · rw [T.good]
        refine ⟨fun _ m => ?_, fun _ m => ?_, wfu⟩
        · obtain ⟨u, mu, mz⟩ := T.mem_cols.mp m; exact nu u mu mz
        · obtain ⟨u, mu, mz⟩ := T.mem_cols.mp m; exact nu u mu (T.own_trk mz)
      · rcases T.mem_col.mp ma with ⟨_, rfl⟩ | ⟨u, mu, m⟩
        · exact nw w mw z
        · exact ((rel u mu).2 w mw).1 a m z
      · rcases T.mem_col.mp z with ⟨_, rfl⟩ | ⟨u, mu, m⟩
        · exact nw w mw (T.own_trk ma)
        · exact ((rel u mu).2 w mw).2 a ma m
      · have s2 := st1.sm sm
        refine (s2.sub fun w mw => List.mem_append_right _ mw).cons (fun a ma => ?_) (fun a ma => ?_) fun a ma => ?_
        · rcases T.mem_col.mp ma with ⟨_, rfl⟩ | ⟨u, mu, m⟩
          · exact .inr HP
          · exact s2.ow u (List.mem_append_left _ mu) a m
        · rcases T.mem_col.mp ma with ⟨_, rfl⟩ | ⟨u, mu, m⟩
          · exact .inr HP
          · exact s2.tr u (List.mem_append_left _ mu) a m
        · rcases T.mem_col.mp ma with ⟨e, _⟩ | ⟨u, mu, m⟩
          · rw [hki] at e; cases e
          · exact s2.im u (List.mem_append_left _ mu) a m
    · rw [if_neg hc] at h; exact h.elim
end
section
variable {X : Cx} {W : WX} {io : List Nat} {md : List Nat} {ms : List Md}
theorem de_lst {es : List Expr} {pos : Pos} {t : TA} {dA : EA} (h : DA X W io ms md es t dA) : DE X W io .tmp md (.List es pos) (tLst t) (dDis (.lst true) ms dA) :=
  ⟨pe_lst h.pa, erd_dis (o := .lst) h.rd (.inl rfl) rfl (fun _ _ _ => rfl) fun _ _ _ => upd_same⟩
theorem de_tup {es : List Expr} {x1 : Nat} {pos : Pos} {t : TA} {dA : EA} (h : DA X W io ms md es t dA) : DE X W io .tmp md (.Tuple es x1 pos) (tTup t) (dDis .tup ms dA) :=
  ⟨pe_tup h.pa, erd_dis (o := .tup) h.rd (.inr rfl) rfl (fun _ _ _ => rfl) fun _ _ _ => SqT.of upd_same⟩
end

/-! ### * -/
def oMul : D → D → Option D
  | .v (.int i), .v (.int j) => if i.natAbs.log2 + j.natAbs.log2 < 1000000 then some (.v (.int (i * j))) else none
  | .nd (.lst _) xs, .v (.int k) => if (decide (k.natAbs < 4000000000000000000 ∧ xs.length * k.toNat ≤ sizeLine) && !D.hass NK.isOwn xs) = true then some (.nd (.lst true) (List.replicate k.toNat xs).flatten) else none
  | .v (.str x), .v (.int k) => if 0 ≤ k ∧ k ≤ 16777216 ∧ x.length * k.toNat ≤ 16777216 then some (.v (.str (Txt.mul x k))) else none
  | _, _ => none
def rMulS : R2 := fun x y H Q => ∃ z k, x = .str z ∧ y = .int k ∧ MulOk z k ∧ Q (.str (Txt.mul z k)) H
theorem op_mulS {X : Cx} : OpR X (binaryOp .Mult) rMulS := fun pins s σ H x y v u Q I rx ry h => by
  obtain ⟨z, k, rfl, rfl, hc, q⟩ := h
  obtain ⟨t, rfl⟩ := rx
  obtain ⟨t', rfl⟩ := ry
  exact SB.mul hc fun t'' k' => ⟨.str (Txt.mul z k), H, I.tok _, ⟨_, rfl⟩, q⟩
theorem mulOk_of {z : Str} {k : Int} (h0 : 0 ≤ k) (h1 : k ≤ 16777216) (h2 : z.length * k.toNat ≤ 16777216) : MulOk z k := by
  refine ⟨?_, fun hk _ => ?_, fun _ _ => ?_⟩
  · rw [Bool.or_eq_false_iff]
    exact ⟨decide_eq_false (by omega), decide_eq_false (by omega)⟩
  · have e : (z.length : Int) * k ≤ 16777216 := by
      have : ((z.length * k.toNat : Nat) : Int) ≤ ((16777216 : Nat) : Int) := Int.ofNat_le.mpr h2
      rw [Int.natCast_mul] at this
      rw [show (k.toNat : Int) = k by omega] at this
      exact this
    have : (z.length : Int) ≤ (2 ^ 63 - 1) / k := Int.le_ediv_of_mul_le (by omega) (by omega)
    omega
  · show decide (z.length * k.toNat > sizeLine) = false
    exact decide_eq_false (by rw [sizeLine_eq]; omega)
def rMulA : R2 := fun x y H Q => (rI CMulW (fun i j => .int (i * j)) x y H Q ∨ rRep x y H Q) ∨ rMulS x y H Q
theorem op_mulA {X : Cx} : OpR X (binaryOp .Mult) rMulA := opr_or (opr_or op_mulW op_rep) op_mulS
theorem ers_rep (n : Nat) (us : List T) : T.ers (List.replicate n us).flatten = (List.replicate n (T.ers us)).flatten := by
  induction n with
  | zero => rfl
  | succ n ih => rw [List.replicate_succ, List.replicate_succ, List.flatten_cons, List.flatten_cons, ers_append, ih]
theorem rts_rep (n : Nat) (us : List T) : T.rts (List.replicate n us).flatten = (List.replicate n (T.rts us)).flatten := by
  induction n with
  | zero => rfl
  | succ n ih => rw [List.replicate_succ, List.replicate_succ, List.flatten_cons, List.flatten_cons, rts_append, ih]
theorem mem_rep {n : Nat} {us : List T} {u : T} (h : u ∈ (List.replicate n us).flatten) : u ∈ us := by
  obtain ⟨l, ml, m⟩ := List.mem_flatten.mp h
  rw [List.eq_of_mem_replicate ml] at m; exact m
theorem and2 {a b : Bool} (h : (a && !b) = true) : a = true ∧ b = false := by cases a <;> cases b <;> first | exact ⟨rfl, rfl⟩ | cases h
theorem oMul_ok {K : PySem.W.Frag} : Op2 K rMulA oMul := by
  intro H x y d Q okx oky gx gy e q
  unfold oMul at e
  split at e
  · rename_i i j e1 e2
    have := er_v e1; subst this
    have := er_v e2; subst this
    split at e
    · rename_i hc
      cases e
      exact .inl (.inl ⟨i, j, rfl, rfl, hc, q (.v _) H rfl trivial Frsh.atom⟩)
    · cases e
  · rename_i o xs k e1 e2
    obtain ⟨p1, us, rfl, h1⟩ := er_nd e1
    have := er_v e2; subst this
    split at e
    · rename_i hc
      obtain ⟨c1, c2⟩ := and2 hc
      obtain ⟨b1, b3⟩ := of_decide_eq_true c1
      subst h1
      cases e
      rw [ers_len] at b3
      refine .inl (.inr ⟨p1, k, T.rts us, rfl, rfl, okx.atL, by omega, by omega, by rw [rts_len]; exact b3, fun p hp => ?_⟩)
      refine q (.nd p (.lst true) (List.replicate k.toNat us).flatten) _ (by rw [T.er, ers_rep]) (ok_new hp ?_ fun c m => okx.child (mem_rep m)) (Frsh.node (K := K) hp (fun u m => ?_) fun c m => ⟨_, List.mem_cons_self, Sub0.child gx (mem_rep m) (hass_own c2 c (mem_rep m))⟩)
      · show upd H p _ p = _
        rw [upd_same, rts_rep]
      · rcases List.mem_cons.mp m with rfl | m
        · exact okx
        · have : u = T.v (.int k) := by simpa using m
          rw [this]; exact trivial
    · cases e
  · rename_i z k e1 e2
    have := er_v e1; subst this
    have := er_v e2; subst this
    split at e
    · rename_i hc
      cases e
      exact .inr ⟨z, k, rfl, rfl, mulOk_of hc.1 hc.2.1 hc.2.2, q (.v _) H rfl trivial Frsh.atom⟩
    · cases e
  · cases e

/-! ### == -/
mutual
def D.data : D → Option PyData
  | .v .non => some .none
  | .v (.bl b) => some (.bool b)
  | .v (.int i) => some (.int i)
  | .v (.str x) => some (.str x)
  | .nd .tup xs => (D.datas xs).map .tuple
  | .nd .scr xs => (D.datas xs).map .list
  | .nd (.lst _) xs => (D.datas xs).map .list
  | _ => none
def D.datas : List D → Option (List PyData)
  | [] => some []
  | x :: r => match x.data, D.datas r with
    | some d, some ds => some (d :: ds)
    | _, _ => none
end
mutual
theorem dp_of {K : PySem.W.Frag} {H : Hp} : ∀ (t : T) (d : PyData), t.ok K H → t.er.data = some d → Dp K H t.rt d
  | .un, d, ok, h => by cases h
  | .v x, d, ok, h => by
    cases x with
    | non => cases h; exact .non
    | bl b => cases h; exact .bl b
    | int i => cases h; exact .int i
    | str s => cases h; exact .str s
    | _ => cases h
  | .nd a k xs, d, ok, h => by
    rw [T.er] at h
    have all := T.oks_all.mp (show T.oks K H xs by rw [T.ok] at ok; exact ok.2)
    cases k with
    | tup =>
      rw [D.data] at h
      cases e : D.datas (T.ers xs) with
      | none => rw [e] at h; cases h
      | some ds => rw [e] at h; cases h; exact .tup ok.sqT (dps_of xs ds all e)
    | scr =>
      rw [D.data] at h
      cases e : D.datas (T.ers xs) with
      | none => rw [e] at h; cases h
      | some ds => rw [e] at h; cases h; exact .lst ok.sqS (dps_of xs ds all e)
    | lst o =>
      rw [D.data] at h
      cases e : D.datas (T.ers xs) with
      | none => rw [e] at h; cases h
      | some ds => rw [e] at h; cases h; exact .lst ok.sqL (dps_of xs ds all e)
    | ins _ _ => cases h
    | obj _ _ _ => cases h
    | dic _ _ => cases h
    | dit _ _ => cases h
theorem dps_of {K : PySem.W.Frag} {H : Hp} : ∀ (us : List T) (ds : List PyData), (∀ u ∈ us, u.ok K H) → D.datas (T.ers us) = some ds → DpAll K H (T.rts us) ds
  | [], ds, _, h => by rw [T.ers, D.datas] at h; cases h; exact .nil
  | u :: us, ds, ok, h => by
    rw [T.ers, D.datas] at h
    cases e1 : u.er.data with
    | none => rw [e1] at h; cases h
    | some d =>
      cases e2 : D.datas (T.ers us) with
      | none => rw [e1, e2] at h; cases h
      | some r =>
        rw [e1, e2] at h
        cases h
        exact .cons (dp_of u d (ok u List.mem_cons_self) e1) (dps_of us r (fun w m => ok w (List.mem_cons_of_mem _ m)) e2)
end
def deepEq (x y : D) : Option Bool := match x.data, y.data with
  | some d, some e => if (SeqAt.shaped d && SeqAt.shaped e) = true then some (PyData.eqv d e) else none
  | _, _ => none
def eqD (x y : D) : Option Bool := match x, y with
  | .v a, .v b => if scal a b = true then some (decide (a = b)) else deepEq x y
  | _, _ => deepEq x y
def oEq (x y : D) : Option D := (eqD x y).map D.bl
def oNe (x y : D) : Option D := (eqD x y).map fun b => D.bl (!b)
def rEqA (K : PySem.W.Frag) : R2 := fun x y H Q => rEq x y H Q ∨ rEqD K x y H Q
def rNeA (K : PySem.W.Frag) : R2 := fun x y H Q => rNe x y H Q ∨ rNeD K x y H Q
theorem op_eqA {X : Cx} (hu : X.A.units + 64 < cLine) : OpR X (compareOp .Eq) (rEqA X.K) := opr_or op_eq (op_eqD hu)
theorem op_neA {X : Cx} (hu : X.A.units + 64 < cLine) : OpR X (compareOp .NotEq) (rNeA X.K) := opr_or op_ne (op_neD hu)
theorem eqD_cases {K : PySem.W.Frag} {H : Hp} {x y : T} {b : Bool} (okx : x.ok K H) (oky : y.ok K H) (h : eqD x.er y.er = some b) :
    (scal x.rt y.rt = true ∧ b = decide (x.rt = y.rt)) ∨ ∃ d e, Dp K H x.rt d ∧ Dp K H y.rt e ∧ SeqAt.shaped d = true ∧ SeqAt.shaped e = true ∧ b = PyData.eqv d e := by
  have deep : deepEq x.er y.er = some b → ∃ d e, Dp K H x.rt d ∧ Dp K H y.rt e ∧ SeqAt.shaped d = true ∧ SeqAt.shaped e = true ∧ b = PyData.eqv d e := fun h => by
    unfold deepEq at h
    cases e1 : x.er.data with
    | none => rw [e1] at h; cases h
    | some d =>
      cases e2 : y.er.data with
      | none => rw [e1, e2] at h; cases h
      | some e =>
        rw [e1, e2] at h
        simp only at h
        split at h
        · rename_i hs
          rw [Bool.and_eq_true] at hs
          cases h
          exact ⟨d, e, dp_of x d okx e1, dp_of y e oky e2, hs.1, hs.2, rfl⟩
        · cases h
  unfold eqD at h
  split at h
  · rename_i a c e1 e2
    have := er_v e1; subst this
    have := er_v e2; subst this
    split at h
    · rename_i hs; cases h; exact .inl ⟨hs, rfl⟩
    · exact .inr (deep h)
  · exact .inr (deep h)
theorem oEq_ok {K : PySem.W.Frag} : Op2 K (rEqA K) oEq := by
  intro H x y d Q okx oky gx gy e q
  unfold oEq at e
  cases eb : eqD x.er y.er with
  | none => rw [eb] at e; cases e
  | some b =>
    rw [eb] at e; cases e
    have q := q (.v (.bl b)) H rfl trivial Frsh.atom
    rcases eqD_cases okx oky eb with ⟨h1, h2⟩ | ⟨d, e, h1, h2, h3, h4, h5⟩
    · exact .inl ⟨h1, by rw [← h2]; exact q⟩
    · exact .inr ⟨d, e, h1, h2, h3, h4, by rw [← h5]; exact q⟩
theorem oNe_ok {K : PySem.W.Frag} : Op2 K (rNeA K) oNe := by
  intro H x y d Q okx oky gx gy e q
  unfold oNe at e
  cases eb : eqD x.er y.er with
  | none => rw [eb] at e; cases e
  | some b =>
    rw [eb] at e; cases e
    have q := q (.v (.bl (!b))) H rfl trivial Frsh.atom
    rcases eqD_cases okx oky eb with ⟨h1, h2⟩ | ⟨d, e, h1, h2, h3, h4, h5⟩
    · exact .inl ⟨h1, by rw [← h2]; exact q⟩
    · exact .inr ⟨d, e, h1, h2, h3, h4, by rw [← h5]; exact q⟩

/-! ### order -/
def oCmp (f : Int → Int → Bool) (g : List Nat → List Nat → Bool) : D → D → Option D
  | .v (.int i), .v (.int j) => some (.v (.bl (f i j)))
  | .v (.str a), .v (.str b) => some (.v (.bl (g a.cps.toList b.cps.toList)))
  | _, _ => none
def rCmpS (g : List Nat → List Nat → Bool) : R2 := fun x y H Q => ∃ i j, x = .str i ∧ y = .str j ∧ Q (.bl (g i.cps.toList j.cps.toList)) H
theorem oCmp_ok {K : PySem.W.Frag} {f : Int → Int → Bool} {g : List Nat → List Nat → Bool} : Op2 K (fun x y H Q => rI0 (fun i j => .bl (f i j)) x y H Q ∨ rCmpS g x y H Q) (oCmp f g) := by
  intro H x y d Q okx oky gx gy e q
  unfold oCmp at e
  split at e
  · rename_i i j e1 e2
    have := er_v e1; subst this
    have := er_v e2; subst this
    cases e
    exact .inl ⟨i, j, rfl, rfl, q (.v _) H rfl trivial Frsh.atom⟩
  · rename_i a b e1 e2
    have := er_v e1; subst this
    have := er_v e2; subst this
    cases e
    exact .inr ⟨a, b, rfl, rfl, q (.v _) H rfl trivial Frsh.atom⟩
  · cases e
abbrev oLt := oCmp (fun i j => decide (i < j)) fun a b => decide (a < b)
abbrev oLe := oCmp (fun i j => decide (i ≤ j)) fun a b => !decide (b < a)
abbrev oGt := oCmp (fun i j => decide (j < i)) fun a b => decide (b < a)
abbrev oGe := oCmp (fun i j => decide (j ≤ i)) fun a b => !decide (a < b)
section
variable {X : Cx}
theorem op_ltA : OpR X (compareOp .Lt) (fun x y H Q => rI0 (fun i j => .bl (decide (i < j))) x y H Q ∨ rCmpS (fun a b => decide (a < b)) x y H Q) := opr_or op_lt op_lt_str
theorem op_leA : OpR X (compareOp .LtE) (fun x y H Q => rI0 (fun i j => .bl (decide (i ≤ j))) x y H Q ∨ rCmpS (fun a b => !decide (b < a)) x y H Q) := opr_or op_le op_le_str
theorem op_gtA : OpR X (compareOp .Gt) (fun x y H Q => rI0 (fun i j => .bl (decide (j < i))) x y H Q ∨ rCmpS (fun a b => decide (b < a)) x y H Q) := opr_or op_gt op_gt_str
theorem op_geA : OpR X (compareOp .GtE) (fun x y H Q => rI0 (fun i j => .bl (decide (j ≤ i))) x y H Q ∨ rCmpS (fun a b => !decide (a < b)) x y H Q) := opr_or op_ge op_ge_str
end
end VS

namespace VS
open PySem PySem.Spec PyProof.Rows L2

/-! ### comparisons -/
def CmpOk (K : PySem.W.Frag) (r : R2) (f : D → D → Option Bool) : Prop :=
  ∀ (H : Hp) (x y : T) (b : Bool) (Q : VK), x.ok K H → y.ok K H → f x.er y.er = some b → Q (.bl b) H → r x.rt y.rt H Q
def oB (f : D → D → Option Bool) : D → D → Option D := fun x y => (f x y).map D.bl
theorem CmpOk.op2 {K : PySem.W.Frag} {r : R2} {f : D → D → Option Bool} (h : CmpOk K r f) : Op2 K r (oB f) := by
  intro H x y d Q okx oky gx gy e q
  unfold oB at e
  cases ef : f x.er y.er with
  | none => rw [ef] at e; cases e
  | some b => rw [ef] at e; cases e; exact h H x y b Q okx oky ef (q (.v _) H rfl trivial Frsh.atom)
def dCmp (m : Md) (mb : List Nat) (f : D → D → Option Bool) (da db : E) : B := fun s => (da s).bind fun q => if (clr m mb || !q.1.hasOwn) = true then (db q.2).bind fun r => match f q.1 r.1 with
    | some b => .ok (b, r.2)
    | none => .no
  else .no
theorem dCmp_eq (m : Md) (mb : List Nat) (f : D → D → Option Bool) (da db : E) : dTv (dTwo m mb (oB f) da db) = dCmp m mb f da db := by
  funext s
  unfold dTv dTwo dCmp oB
  cases da s with
  | no => rfl
  | ex c fs s => rfl
  | ok q =>
    simp only [R.bind]
    by_cases h : (clr m mb || !q.1.hasOwn) = true
    · rw [if_pos h, if_pos h]
      cases db q.2 with
      | no => rfl
      | ex c fs s => rfl
      | ok r => simp only; cases f q.1 r.1 <;> rfl
    · rw [if_neg h, if_neg h]
section
variable {K : PySem.W.Frag} {W : WX} {io : List Nat} {ta tb : TE} {da db : E} {m1 m2 : Md} {d1 d2 : List Nat}
theorem erd_two {r : R2} {f : D → D → Option D} (ha : ERd K W io m1 d1 ta da) (hb : ERd K W io m2 d2 tb db) (hf : Op2 K r f) : ERd K W io .tmp (d1 ++ d2) (tOp r ta tb) (dTwo m1 d2 f da db) := fun ρ ts σ H Q S h => by
  rw [dTwo_eq m1 m2 _ _ _ _ (clr_nil m2)] at h
  have q := rdN (ard_cons ha (ard_cons hb ard_nil)) hf.n ρ ts σ H Q S (by rw [List.append_nil]; exact h)
  exact q
theorem erd_oneU {r : V → Hp → VK → Prop} {f : D → Option D} (ha : ERd K W io m1 d1 ta da) (hf : Op1 K r f) : ERd K W io .tmp d1 (tUn r ta) (dOne f da) := fun ρ ts σ H Q S h => by
  rw [dOne_eq m1] at h
  have q := rdN (ard_cons ha ard_nil) hf.n ρ ts σ H Q S (by rw [List.append_nil]; exact h)
  exact q
theorem trd_cmp {r : R2} {f : D → D → Option Bool} (ha : ERd K W io m1 d1 ta da) (hb : ERd K W io m2 d2 tb db) (hf : CmpOk K r f) : TRd K W io (d1 ++ d2) (tTest (tOp r ta tb)) (dCmp m1 d2 f da db) := by
  rw [← dCmp_eq]
  exact trd_v (erd_two ha hb hf.op2)
end
theorem eqd_ok {K : PySem.W.Frag} : CmpOk K (rEqA K) eqD := by
  intro H x y b Q okx oky eb q
  rcases eqD_cases okx oky eb with ⟨h1, h2⟩ | ⟨d, e, h1, h2, h3, h4, h5⟩
  · exact .inl ⟨h1, by rw [← h2]; exact q⟩
  · exact .inr ⟨d, e, h1, h2, h3, h4, by rw [← h5]; exact q⟩
def neD (x y : D) : Option Bool := (eqD x y).map fun b => !b
theorem ned_ok {K : PySem.W.Frag} : CmpOk K (rNeA K) neD := by
  intro H x y b Q okx oky eb q
  unfold neD at eb
  cases e : eqD x.er y.er with
  | none => rw [e] at eb; cases eb
  | some c =>
    rw [e] at eb; cases eb
    rcases eqD_cases okx oky e with ⟨h1, h2⟩ | ⟨d, e, h1, h2, h3, h4, h5⟩
    · exact .inl ⟨h1, by rw [← h2]; exact q⟩
    · exact .inr ⟨d, e, h1, h2, h3, h4, by rw [← h5]; exact q⟩
def cmpD (f : Int → Int → Bool) (g : List Nat → List Nat → Bool) : D → D → Option Bool
  | .v (.int i), .v (.int j) => some (f i j)
  | .v (.str i), .v (.str j) => some (g i.cps.toList j.cps.toList)
  | _, _ => none
theorem cmpd_ok {K : PySem.W.Frag} {f : Int → Int → Bool} {g : List Nat → List Nat → Bool} : CmpOk K (fun x y H Q => rI0 (fun i j => .bl (f i j)) x y H Q ∨ rCmpS g x y H Q) (cmpD f g) := by
  intro H x y b Q okx oky eb q
  unfold cmpD at eb
  split at eb
  · rename_i i j e1 e2
    have := er_v e1; subst this
    have := er_v e2; subst this
    cases eb
    exact .inl ⟨i, j, rfl, rfl, q⟩
  · rename_i i j e1 e2
    have := er_v e1; subst this
    have := er_v e2; subst this
    cases eb
    exact .inr ⟨i, j, rfl, rfl, q⟩
  · cases eb
abbrev ltD := cmpD (fun i j => decide (i < j)) fun a b => decide (a < b)
abbrev leD := cmpD (fun i j => decide (i ≤ j)) fun a b => !decide (b < a)
abbrev gtD := cmpD (fun i j => decide (j < i)) fun a b => decide (b < a)
abbrev geD := cmpD (fun i j => decide (j ≤ i)) fun a b => !decide (a < b)
def D.isNon : D → Option Bool
  | .un => none
  | .v .non => some true
  | _ => some false
def isNoneD (neg : Bool) (x y : D) : Option Bool := match y with
  | .v .non => x.isNon.map fun b => b != neg
  | _ => none
theorem isNon_rt {t : T} {b : Bool} (h : t.er.isNon = some b) : b = decide (t.rt = .non) := by
  cases t with
  | un => cases h
  | v x => cases x <;> cases h <;> rfl
  | nd a k xs => rw [T.er] at h; cases h; rfl
theorem is_ok {K : PySem.W.Frag} : CmpOk K (fun x y H Q => y = .non ∧ Q (.bl (decide (x = .non))) H) (isNoneD false) := by
  intro H x y b Q okx oky eb q
  unfold isNoneD at eb
  split at eb
  · rename_i e
    have := er_v e; subst this
    cases en : x.er.isNon with
    | none => rw [en] at eb; cases eb
    | some c => rw [en] at eb; cases eb; have := isNon_rt en; subst this; exact ⟨rfl, by simpa using q⟩
  · cases eb
theorem isnt_ok {K : PySem.W.Frag} : CmpOk K (fun x y H Q => y = .non ∧ Q (.bl (!decide (x = .non))) H) (isNoneD true) := by
  intro H x y b Q okx oky eb q
  unfold isNoneD at eb
  split at eb
  · rename_i e
    have := er_v e; subst this
    cases en : x.er.isNon with
    | none => rw [en] at eb; cases eb
    | some c => rw [en] at eb; cases eb; have := isNon_rt en; subst this; exact ⟨rfl, by simpa using q⟩
  · cases eb
section
variable {X : Cx} {W : WX} {io : List Nat} {a b c : Expr} {pos : Pos} {ta tb tc : TE} {da db dc : E} {m1 m2 m3 : Md} {d1 d2 d3 : List Nat} {op op' : CmpOp} {r r' : R2} {f f' : D → D → Option Bool}
/-- one operator, one operand, two -/
theorem de_bin {bop : Operator} {g : D → D → Option D} (ho : OpR X (binaryOp bop) r) (hf : Op2 X.K r g) (ha : DE X W io m1 d1 a ta da) (hb : DE X W io m2 d2 b tb db) : DE X W io .tmp (d1 ++ d2) (.BinOp a bop b pos) (tOp r ta tb) (dTwo m1 d2 g da db) := ⟨pe_op ho ha.pe hb.pe, erd_two ha.rd hb.rd hf⟩
theorem de_cmp (ho : OpR X (compareOp op) r) (hf : CmpOk X.K r f) (ha : DE X W io m1 d1 a ta da) (hb : DE X W io m2 d2 b tb db) (hm : behindInMarks op b = false := by with_unfolding_all rfl) : DE X W io .tmp (d1 ++ d2) (.Compare a [op] [b] pos) (tOp r ta tb) (dTwo m1 d2 (oB f) da db) := ⟨pe_cmpR ho ha.pe hb.pe hm, erd_two ha.rd hb.rd hf.op2⟩
theorem dt_cmp (ho : OpR X (compareOp op) r) (hf : CmpOk X.K r f) (ha : DE X W io m1 d1 a ta da) (hb : DE X W io m2 d2 b tb db) (hm : behindInMarks op b = false := by with_unfolding_all rfl) : DT X W io (d1 ++ d2) (.Compare a [op] [b] pos) (tTest (tOp r ta tb)) (dCmp m1 d2 f da db) := ⟨pt_cmpR ho ha.pe hb.pe hm, trd_cmp ha.rd hb.rd hf⟩
def oNeg : D → Option D
  | .v (.int i) => some (.v (.int (-i)))
  | _ => none
theorem neg_ok {K : PySem.W.Frag} : Op1 K (rU fun i => .int (-i)) oNeg := by
  intro H x d Q ok g e q
  unfold oNeg at e
  split at e
  · rename_i i e1
    have := er_v e1; subst this
    cases e
    exact ⟨i, rfl, q (.v _) H rfl trivial Frsh.atom⟩
  · cases e
theorem de_neg (ha : DE X W io m1 d1 a ta da) : DE X W io .tmp d1 (.UnaryOp .USub a pos) (tUn (rU fun i => .int (-i)) ta) (dOne oNeg da) := ⟨pe_un un_neg ha.pe, erd_oneU ha.rd neg_ok⟩
end

/-! ### chains -/
def dChn (f f' : D → D → Option Bool) (da db dc : E) : B := fun s => (da s).bind fun q => (db q.2).bind fun r => match q.1, r.1 with
  | .v x, .v y => match f (.v x) (.v y) with
    | some true => (dc r.2).bind fun p => match f' (.v y) p.1 with
      | some b => .ok (b, p.2)
      | none => .no
    | some false => .ok (false, r.2)
    | none => .no
  | _, _ => .no
section
variable {K : PySem.W.Frag} {W : WX} {io : List Nat} {ta tb tc : TE} {da db dc : E} {m1 m2 m3 : Md} {d1 d2 d3 : List Nat} {r r' : R2} {f f' : D → D → Option Bool}
theorem chn_core (ha : ERd K W io m1 d1 ta da) (hb : ERd K W io m2 d2 tb db) (hc : ERd K W io m3 d3 tc dc) (hf : CmpOk K r f) (hf' : CmpOk K r' f') {ρ : Nat → V} {ts : List T} {σ : L2.St} {H : Hp} {Q : VK} (S : Sim K io ρ ts σ H)
    (h : TPost K W io ρ (d1 ++ (d2 ++ d3)) ts σ H (fun b H' => Q (.bl b) H') (dChn f f' da db dc (T.ers ts))) : tChain r r' ta tb tc σ H Q := by
  refine ha ρ ts σ H _ S ?_
  unfold dChn at h
  cases ea : da (T.ers ts) with
  | no => rw [ea] at h; exact h
  | ex c fs s => rw [ea] at h; exact h
  | ok q =>
    obtain ⟨x, s⟩ := q
    rw [ea] at h
    intro ts1 t1 H1 S1 e1 et1 ok1 mr1 st1 pu1
    simp only [R.bind] at h
    refine hb ρ ts1 σ H1 _ S1 ?_
    rw [e1]
    have st1 := st1.tail
    cases eb : db s with
    | no => rw [eb] at h; exact h
    | ex c fs s2 => rw [eb] at h; exact fun ts2 H2 d S2 e2 st2 x => h ts2 H2 d S2 e2 (st1.trans st2) x
    | ok p =>
      obtain ⟨y, s2⟩ := p
      rw [eb] at h
      intro ts2 t2 H2 S2 e2 et2 ok2 mr2 st2 pu2
      simp only at h
      have st12 := st1.trans st2.tail
      have pu : ∀ j, j ∉ d1 ++ d2 → ts2[j]? = ts[j]? := fun j hj => (pu2 j fun z => hj (List.mem_append_right _ z)).trans (pu1 j fun z => hj (List.mem_append_left _ z))
      split at h
      · rename_i xv yv
        have := er_v et1; subst this
        have := er_v et2; subst this
        split at h
        · rename_i ef
          refine hf H2 (.v xv) (.v yv) true _ trivial trivial ef ⟨true, rfl, ?_⟩
          rw [if_pos rfl]
          refine hc ρ ts2 σ H2 _ S2 ?_
          rw [e2]
          cases ec : dc s2 with
          | no => rw [ec] at h; exact h
          | ex c fs s3 => rw [ec] at h; exact fun ts3 H3 d S3 e3 st3 x => h ts3 H3 d S3 e3 (st12.trans st3) x
          | ok w =>
            obtain ⟨z, s3⟩ := w
            rw [ec] at h
            intro ts3 t3 H3 S3 e3 et3 ok3 mr3 st3 pu3
            simp only at h
            split at h
            · rename_i b eg
              refine hf' H3 (.v yv) t3 b _ trivial ok3 (by rw [et3]; exact eg) (h ts3 H3 S3 e3 (st12.trans st3.tail) fun j hj => ?_)
              rw [List.mem_append, List.mem_append, not_or, not_or] at hj
              exact (pu3 j hj.2.2).trans (pu j fun z => by
                rcases List.mem_append.mp z with z | z
                · exact hj.1 z
                · exact hj.2.1 z)
            · exact h.elim
        · rename_i ef
          refine hf H2 (.v xv) (.v yv) false _ trivial trivial ef ⟨false, rfl, ?_⟩
          rw [if_neg Bool.false_ne_true]
          exact h ts2 H2 S2 e2 st12 fun j hj => pu j fun z => hj (by
            rcases List.mem_append.mp z with z | z
            · exact List.mem_append_left _ z
            · exact List.mem_append_right _ (List.mem_append_left _ z))
        · exact h.elim
      · exact h.elim
theorem trd_chn (ha : ERd K W io m1 d1 ta da) (hb : ERd K W io m2 d2 tb db) (hc : ERd K W io m3 d3 tc dc) (hf : CmpOk K r f) (hf' : CmpOk K r' f') : TRd K W io (d1 ++ (d2 ++ d3)) (tTest (tChain r r' ta tb tc)) (dChn f f' da db dc) := fun ρ ts σ H Q S h => by
  refine chn_core (Q := fun x H' => ∃ k, x = .bl k ∧ Q k H') ha hb hc hf hf' S ?_
  cases e : dChn f f' da db dc (T.ers ts) with
  | no => rw [e] at h; exact h
  | ex c fs s => rw [e] at h; exact h
  | ok q => rw [e] at h; exact fun ts1 H1 S1 e1 st1 pu1 => ⟨_, rfl, h ts1 H1 S1 e1 st1 pu1⟩
theorem erd_chn (ha : ERd K W io m1 d1 ta da) (hb : ERd K W io m2 d2 tb db) (hc : ERd K W io m3 d3 tc dc) (hf : CmpOk K r f) (hf' : CmpOk K r' f') : ERd K W io .tmp (d1 ++ (d2 ++ d3)) (tChain r r' ta tb tc) (dVof (dChn f f' da db dc)) := fun ρ ts σ H Q S h => by
  refine chn_core ha hb hc hf hf' S ?_
  unfold dVof at h
  cases e : dChn f f' da db dc (T.ers ts) with
  | no => rw [e] at h; exact h
  | ex c fs s => rw [e] at h; exact h
  | ok q => rw [e] at h; exact fun ts1 H1 S1 e1 st1 pu1 => EPost.bool h S1 e1 st1 pu1
end
section
variable {X : Cx} {W : WX} {io : List Nat} {a b c : Expr} {pos : Pos} {ta tb tc : TE} {da db dc : E} {m1 m2 m3 : Md} {d1 d2 d3 : List Nat} {op op' : CmpOp} {r r' : R2} {f f' : D → D → Option Bool}
theorem de_chn (ho : OpR X (compareOp op) r) (hf : CmpOk X.K r f) (ho' : OpR X (compareOp op') r') (hf' : CmpOk X.K r' f') (ha : DE X W io m1 d1 a ta da) (hb : DE X W io m2 d2 b tb db) (hc : DE X W io m3 d3 c tc dc)
    (hm : lastMarks [op, op'] [b, c] = false := by with_unfolding_all rfl) : DE X W io .tmp (d1 ++ (d2 ++ d3)) (.Compare a [op, op'] [b, c] pos) (tChain r r' ta tb tc) (dVof (dChn f f' da db dc)) := ⟨pe_chain ho ho' ha.pe hb.pe hc.pe hm, erd_chn ha.rd hb.rd hc.rd hf hf'⟩
theorem dt_chn (ho : OpR X (compareOp op) r) (hf : CmpOk X.K r f) (ho' : OpR X (compareOp op') r') (hf' : CmpOk X.K r' f') (ha : DE X W io m1 d1 a ta da) (hb : DE X W io m2 d2 b tb db) (hc : DE X W io m3 d3 c tc dc)
    (hm : lastMarks [op, op'] [b, c] = false := by with_unfolding_all rfl) : DT X W io (d1 ++ (d2 ++ d3)) (.Compare a [op, op'] [b, c] pos) (tTest (tChain r r' ta tb tc)) (dChn f f' da db dc) := ⟨pt_chain ho ho' ha.pe hb.pe hc.pe hm, trd_chn ha.rd hb.rd hc.rd hf hf'⟩
end
/-! ### what is never reached -/
def eNo : E := fun _ => .no
def sNo : S := fun _ => .no
def bNo : B := fun _ => .no
theorem de_no {X : Cx} {W : WX} {io : List Nat} {e : Expr} : DE X W io .tmp [] e (fun _ _ _ => False) eNo := ⟨⟨fun _ _ _ _ _ _ h => h.elim⟩, fun _ _ _ _ _ _ h => h⟩
theorem ds_no {X : Cx} {W : WX} {io : List Nat} {e : Stmt} : DS X W io [] e (fun _ _ _ => False) sNo := ⟨⟨fun _ _ _ _ _ _ h => h.elim⟩, fun _ _ _ _ _ _ h => h⟩
theorem dss_no {X : Cx} {W : WX} {io : List Nat} {e : List Stmt} : DSs X W io [] e (fun _ _ _ => False) sNo := ⟨⟨fun _ _ _ _ _ _ h => h.elim⟩, fun _ _ _ _ _ _ h => h⟩
theorem dt_no {X : Cx} {W : WX} {io : List Nat} {e : Expr} : DT X W io [] e (fun _ _ _ => False) bNo := ⟨⟨fun _ _ _ _ _ _ h => h.elim⟩, fun _ _ _ _ _ _ h => h⟩
/-! ### a global's value -/
theorem de_glob {X : Cx} {W : WX} {io : List Nat} {x : Str} {v : V} {u : Value} {pos : Pos} (hg : Gl X x) (hm : X.mg x = some u) (r : RelV v u) (hd : (x == ("__debug__" : Str)) = false := by decide) : DE X W io .tmp [] (.Name x pos) (tC v) (dc v) := de_c (pe_glob hg hm r hd)
theorem de_bltn {X : Cx} {W : WX} {io : List Nat} {x : Str} {v : V} {u : Value} {pos : Pos} (hg : Gl X x) (hm : X.mg x = none) (hv : bootBuiltins x = some u) (r : RelV v u) (hn : x ≠ "__name__" := by decide) (hd : (x == ("__debug__" : Str)) = false := by decide) : DE X W io .tmp [] (.Name x pos) (tC v) (dc v) := de_c (pe_bltn hg hm hv r hn hd)
end VS

namespace VS
open PySem PySem.Spec PyProof.Rows L2

/-- a held thing while more is evaluated -/
theorem held {K : PySem.W.Frag} {io : List Nat} {ρ : Nat → V} {m : Md} {mr : List Nat} {t : T} {ts1 ts2 us : List T} {σ : L2.St} {H1 H2 : Hp} (S1 : Sim K io ρ ts1 σ H1) (ok1 : t.ok K H1) (mr1 : MRel m t ts1) (S2 : Sim K io ρ ts2 σ H2)
    (st2 : Step H1 ts1 H2 (us ++ ts2)) (pu2 : ∀ j, j ∉ mr → ts2[j]? = ts1[j]?) (hc : (clr m mr || !t.er.hasOwn) = true) : t.ok K H2 ∧ MRel m t ts2 := by
  have viaDj : (∀ u ∈ ts1, Dj t u) → t.ok K H2 ∧ (∀ u ∈ ts2, Dj t u) := fun hd =>
    ⟨keepT ok1 S1.ok st2 fun u mu a ma => (hd u mu).2 a ma, fun u mu => djStep ok1 hd st2 u (List.mem_append_right _ mu)⟩
  have free : t.own = [] → t.ok K H2 ∧ MRel m t ts2 := fun on => by
    obtain ⟨k1, k2⟩ := viaDj (mr1.tmp S1.wf on).2
    exact ⟨k1, TRel.of ⟨mr1.good S1.wf, k2⟩ on⟩
  cases m with
  | tmp =>
    obtain ⟨k1, k2⟩ := viaDj mr1.2
    exact ⟨k1, mr1.1, k2⟩
  | vw src =>
    rcases mr1 with ⟨i, mi, u, eu, sb⟩ | ⟨on, _⟩
    · by_cases ho : t.er.hasOwn = false
      · exact free (T.own_nil ho)
      · have hx : t.er.hasOwn = true := by cases q : t.er.hasOwn with | true => rfl | false => exact absurd q ho
        rw [hx, Bool.not_true, Bool.or_false] at hc
        have hi : i ∉ mr := by
          have := (List.all_eq_true.mp hc) i mi
          simpa using this
        have e2' : ts2[i]? = some u := (pu2 i hi).trans eu
        exact ⟨sb.ok (S2.ok u (List.mem_of_getElem? e2')), .inl ⟨i, mi, u, e2', sb⟩⟩
    · exact free on
/-- a child is held as its node is -/
theorem MRel.child {m : Md} {a : Addr} {k : NK} {xs : List T} {c : T} {ts : List T} (h : MRel m (.nd a k xs) ts) (mc : c ∈ xs) : MRel m c ts := by
  have up : ∀ {p : NK → Bool} {z : Addr}, z ∈ c.col p → z ∈ (T.nd a k xs).col p := fun {p z} mz => T.mem_col.mpr (.inr ⟨c, mc, mz⟩)
  have tr : TRel (.nd a k xs) ts → TRel c ts := fun h => by
    have g := h.1
    rw [T.good] at g
    exact ⟨goods_mem g.2.2 mc, fun u mu => ⟨fun z mz => (h.2 u mu).1 z (up mz), fun z mz q => (h.2 u mu).2 z mz (up q)⟩⟩
  cases m with
  | tmp => exact tr h
  | vw src =>
    rcases h with ⟨i, mi, u, e, s⟩ | ⟨on, h⟩
    · exact .inl ⟨i, mi, u, e, (Sbt.child mc (.refl c)).trans s⟩
    · refine .inr ⟨?_, tr h⟩
      cases q : c.own with
      | nil => rfl
      | cons z r =>
        have : z ∈ (T.nd a k xs).own := up (show z ∈ c.own by rw [q]; simp)
        rw [on] at this; cases this
theorem Step.child {H H' : Hp} {A B : List T} {a : Addr} {k : NK} {xs : List T} {c : T} (s : Step H A H' (.nd a k xs :: B)) (mc : c ∈ xs) : Step H A H' (c :: B) := by
  have up : ∀ {p : NK → Bool} {z : Addr}, z ∈ c.col p → z ∈ (T.nd a k xs).col p := fun {p z} mz => T.mem_col.mpr (.inr ⟨c, mc, mz⟩)
  exact s.tail.cons (fun z mz => s.ow _ List.mem_cons_self z (up mz)) (fun z mz => s.tr _ List.mem_cons_self z (up mz)) (fun z mz => s.im _ List.mem_cons_self z (up mz))

/-! ### a[i] -/
def ixD : D → D → Option D
  | .v (.str z), .v (.int j) => if z.length ≤ sizeLine then (atI z.cps.toList j).map fun c => .v (.str ⟨#[c]⟩) else none
  | .nd k xs, .v (.int j) => match D.kids (.nd k xs) with
    | some ys => match ixN ys.length j with
      | some c => ys[c]?
      | none => none
    | none => none
  | _, _ => none
def dIx (m : Md) (mb : List Nat) (da db : E) : E := fun s => (da s).bind fun q => if (clr m mb || !q.1.hasOwn) = true then (db q.2).bind fun r => match ixD q.1 r.1 with
    | some d => .ok (d, r.2)
    | none => .no
  else .no
section
variable {K : PySem.W.Frag} {W : WX} {io : List Nat} {ta tb : TE} {da db : E} {m1 m2 : Md} {d1 d2 : List Nat}
theorem erd_ix (ha : ERd K W io m1 d1 ta da) (hb : ERd K W io m2 d2 tb db) : ERd K W io m1 (d1 ++ d2) (tOp (rIx K) ta tb) (dIx m1 d2 da db) := fun ρ ts σ H Q S h => by
  refine ha ρ ts σ H _ S ?_
  unfold dIx at h
  cases ea : da (T.ers ts) with
  | no => rw [ea] at h; exact h
  | ex c fs s => rw [ea] at h; exact h
  | ok q =>
    obtain ⟨x, s⟩ := q
    rw [ea] at h
    intro ts1 t1 H1 S1 e1 et1 ok1 mr1 st1 pu1
    simp only [R.bind] at h
    split at h
    · rename_i hc
      refine hb ρ ts1 σ H1 _ S1 ?_
      rw [e1]
      cases eb : db s with
      | no => rw [eb] at h; exact h
      | ex c fs s2 => rw [eb] at h; exact fun ts2 H2 d S2 e2 st2 x => h ts2 H2 d S2 e2 (st1.tail.trans st2) x
      | ok r =>
        obtain ⟨y, s2⟩ := r
        rw [eb] at h
        intro ts2 t2 H2 S2 e2 et2 ok2 mr2 st2 pu2
        simp only at h
        obtain ⟨ok1', mr1'⟩ := held (us := [t2]) S1 ok1 mr1 S2 st2 pu2 (by rw [et1]; exact hc)
        have stt : Step H ts H2 (t1 :: ts2) := (st1.tail.trans st2.tail).cons (st1.ow _ List.mem_cons_self) (st1.tr _ List.mem_cons_self) (st1.im _ List.mem_cons_self)
        have pu : ∀ j, j ∉ d1 ++ d2 → ts2[j]? = ts[j]? := fun j hj => (pu2 j fun z => hj (List.mem_append_right _ z)).trans (pu1 j fun z => hj (List.mem_append_left _ z))
        cases ed : ixD x y with
        | none => rw [ed] at h; exact h.elim
        | some d =>
          rw [ed] at h
          simp only at h
          unfold ixD at ed
          split at ed
          · have := er_v et1; subst this
            have := er_v et2; subst this
            split at ed
            · rename_i z j hz
              cases ec : atI z.cps.toList j with
              | none => rw [ec] at ed; cases ed
              | some c =>
                rw [ec] at ed; cases ed
                exact .inr (.inr ⟨z, j, c, rfl, rfl, hz, ec, h ts2 (.v _) H2 S2 e2 rfl trivial (TRel.of trel_v rfl) stt.tail.consV pu⟩)
            · cases ed
          · have := er_v et2; subst this
            rename_i k xs j
            cases ek : D.kids (.nd k xs) with
            | none => rw [ek] at ed; cases ed
            | some ys =>
              rw [ek] at ed
              simp only at ed
              cases ec : ixN ys.length j with
              | none => rw [ec] at ed; cases ed
              | some c =>
                rw [ec] at ed
                simp only at ed
                obtain ⟨a, k', us, rfl, eu, sq⟩ := kids_sq ok1' (by rw [et1]; exact ek)
                rw [← eu] at ed
                obtain ⟨u, eu1, eu2, _⟩ := rts_get ed
                have mu := List.mem_of_getElem? eu1
                exact rIx_of sq (by rw [← ers_len us, eu]; exact ec) eu1 (h ts2 u H2 S2 e2 eu2 (ok1'.child mu) (mr1'.child mu) (stt.child mu) pu)
          · cases ed
    · exact h.elim
/-! ### slices -/
def cutL {α : Type} (xs : List α) (lo hi : Option Int) : List α := (xs.drop (HT.sIx xs.length 0 lo)).take (HT.sIx xs.length xs.length hi - HT.sIx xs.length 0 lo)
def slD (x : D) (lo hi : Option Int) : Option D := match x with
  | .v (.str z) => if z.length ≤ sizeLine then some (.v (.str (cutS z lo hi))) else none
  | .nd .tup xs => if D.hass NK.isOwn xs = false then some (.nd .tup (cutL xs lo hi)) else none
  | .nd .scr xs => if D.hass NK.isOwn xs = false then some (.nd (.lst true) (cutL xs lo hi)) else none
  | .nd (.lst _) xs => if D.hass NK.isOwn xs = false then some (.nd (.lst true) (cutL xs lo hi)) else none
  | _ => none
def SlOk (K : PySem.W.Frag) (r : V → Option Int → Option Int → Hp → VK → Prop) (f : D → Option Int → Option Int → Option D) : Prop :=
  ∀ (H : Hp) (x : T) (lo hi : Option Int) (d : D) (Q : VK), x.ok K H → x.good → f x.er lo hi = some d → (∀ t H', t.er = d → t.ok K H' → Frsh H [x] H' t → Q t.rt H') → r x.rt lo hi H Q
def rSl (K : PySem.W.Frag) : V → Option Int → Option Int → Hp → VK → Prop := fun x lo hi H Q => rSlL K x lo hi H Q ∨ rSlS x lo hi H Q ∨ rSlA K x lo hi H Q
theorem sl_any {X : Cx} : SlR X (rSl X.K) := sl_list.or (sl_str.or sl_tupA)
theorem ers_cut (us : List T) (lo hi : Option Int) : T.ers (cutL us lo hi) = cutL (T.ers us) lo hi := by
  unfold cutL; rw [T.ers_map, T.ers_map, List.map_take, List.map_drop, List.length_map]
theorem rts_cut (us : List T) (lo hi : Option Int) : T.rts (cutL us lo hi) = cutV (T.rts us) lo hi := by
  unfold cutL cutV; rw [T.rts_map, T.rts_map, List.map_take, List.map_drop, List.length_map]
theorem mem_cut {α : Type} {us : List α} {lo hi : Option Int} {u : α} (h : u ∈ cutL us lo hi) : u ∈ us := List.mem_of_mem_drop (List.mem_of_mem_take h)
/-- a new list of some of a thing's items -/
theorem sub_new {k k' : NK} {a : Addr} {us ws : List T} {H : Hp} {o : HO} {p : Addr} (ok : (T.nd a k us).ok K H) (g : (T.nd a k us).good) (ho : D.hass NK.isOwn (T.ers us) = false) (hs : ∀ w ∈ ws, w ∈ us) (hp : H p = none) (hn : NodeAt K (upd H p o) p (T.rts ws) k') :
    (T.nd p k' ws).ok K (upd H p o) ∧ Frsh H [.nd a k us] (upd H p o) (.nd p k' ws) :=
  ⟨ok_new hp hn fun c m => ok.child (hs c m), Frsh.node hp (fun u m => by rw [List.mem_singleton.mp m]; exact ok) fun c m => ⟨_, List.mem_singleton_self _, Sub0.child g (hs c m) (hass_own ho c (hs c m))⟩⟩
theorem cut_whole {α : Type} {us : List α} {lo hi : Option Int} (h : HT.sIx us.length 0 lo = 0 ∧ HT.sIx us.length us.length hi = us.length) : cutL us lo hi = us := by
  unfold cutL; rw [h.1, h.2, List.drop_zero, Nat.sub_zero, List.take_length]
theorem sl_ok : SlOk K (rSl K) slD := by
  intro H x lo hi d Q ok g e q
  unfold slD at e
  split at e
  · rename_i z e1
    have := er_v e1; subst this
    split at e
    · rename_i hz; cases e; exact .inr (.inl ⟨z, rfl, hz, q (.v _) H rfl trivial Frsh.atom⟩)
    · cases e
  · rename_i xs e1
    obtain ⟨a, us, rfl, h1⟩ := er_nd e1
    subst h1
    split at e
    · rename_i ho
      cases e
      refine .inr (.inr ⟨a, T.rts us, rfl, ok.sqT, fun hw => ?_, fun _ p hp => ?_⟩)
      · rw [rts_len] at hw
        refine q (.nd a .tup us) H ?_ ok (frsh_self (List.mem_singleton_self _) g (tup_own ho))
        rw [T.er, cut_whole (by rw [ers_len]; exact hw)]
      · obtain ⟨h1, h2⟩ := sub_new (k' := .tup) (o := .tup (cutV (T.rts us) lo hi)) (ws := cutL us lo hi) ok g ho (fun w m => mem_cut m) hp (show SqT K _ p _ by rw [rts_cut]; exact SqT.of upd_same)
        exact q _ _ (by rw [T.er, ers_cut]) h1 h2
    · cases e
  · rename_i xs e1
    obtain ⟨a, us, rfl, h1⟩ := er_nd e1
    subst h1
    split at e
    · rename_i ho
      cases e
      refine .inl ⟨a, T.rts us, rfl, ok.sqS, fun p hp => ?_⟩
      obtain ⟨h1, h2⟩ := sub_new (k' := .lst true) (o := .lst (cutV (T.rts us) lo hi)) (ws := cutL us lo hi) ok g ho (fun w m => mem_cut m) hp (show upd H p _ p = _ by rw [upd_same, rts_cut])
      exact q _ _ (by rw [T.er, ers_cut]) h1 h2
    · cases e
  · rename_i o xs e1
    obtain ⟨a, us, rfl, h1⟩ := er_nd e1
    subst h1
    split at e
    · rename_i ho
      cases e
      refine .inl ⟨a, T.rts us, rfl, ok.sqL, fun p hp => ?_⟩
      obtain ⟨h1, h2⟩ := sub_new (k' := .lst true) (o := .lst (cutV (T.rts us) lo hi)) (ws := cutL us lo hi) ok g ho (fun w m => mem_cut m) hp (show upd H p _ p = _ by rw [upd_same, rts_cut])
      exact q _ _ (by rw [T.er, ers_cut]) h1 h2
    · cases e
  · cases e
/-- an int, looked at, ahead of the rest -/
def tConsI (te : TE) (tr : TA) : TA := fun σ H Q => te σ H fun x H1 => ∃ i, x = .int i ∧ tr σ H1 fun xs H2 => Q (.int i :: xs) H2
def dAconsI (de : E) (dr : EA) : EA := fun s => (de s).bind fun q => match q.1 with
  | .v (.int i) => (dr q.2).bind fun r => .ok (.v (.int i) :: r.1, r.2)
  | _ => .no
theorem ard_consI {m : Md} {ms : List Md} {md mr : List Nat} {te : TE} {tr : TA} {de : E} {dr : EA} (he : ERd K W io m md te de) (hr : ARd K W io ms mr tr dr) : ARd K W io (.tmp :: ms) (md ++ mr) (tConsI te tr) (dAconsI de dr) := fun ρ ts σ H Q S h => by
  refine he ρ ts σ H _ S ?_
  unfold dAconsI at h
  cases ea : de (T.ers ts) with
  | no => rw [ea] at h; exact h
  | ex c fs s => rw [ea] at h; exact h
  | ok q =>
    obtain ⟨x, s⟩ := q
    rw [ea] at h
    intro ts1 t H1 S1 e1 et ok1 mr1 st1 pu1
    simp only [R.bind] at h
    split at h
    · rename_i i
      have := er_v et; subst this
      refine ⟨i, rfl, ?_⟩
      refine cons_tail (m := .tmp) (x := .v (.int i)) (s := s) (t := .v (.int i)) hr ?_ S1 e1 rfl trivial trel_v st1 pu1
      rw [if_pos (by rfl)]
      exact h
    · exact h.elim
end
def rS11 (r : V → Option Int → Option Int → Hp → VK → Prop) : List V → Hp → VK → Prop := fun vs H Q => match vs with
  | [x, .int i, .int j] => r x (some i) (some j) H Q
  | _ => False
def rS10 (r : V → Option Int → Option Int → Hp → VK → Prop) : List V → Hp → VK → Prop := fun vs H Q => match vs with
  | [x, .int i] => r x (some i) none H Q
  | _ => False
def rS01 (r : V → Option Int → Option Int → Hp → VK → Prop) : List V → Hp → VK → Prop := fun vs H Q => match vs with
  | [x, .int i] => r x none (some i) H Q
  | _ => False
def rS00 (r : V → Option Int → Option Int → Hp → VK → Prop) : List V → Hp → VK → Prop := fun vs H Q => match vs with
  | [x] => r x none none H Q
  | _ => False
def fS11 (f : D → Option Int → Option Int → Option D) : List D → Option D
  | [x, .v (.int i), .v (.int j)] => f x (some i) (some j)
  | _ => none
def fS10 (f : D → Option Int → Option Int → Option D) : List D → Option D
  | [x, .v (.int i)] => f x (some i) none
  | _ => none
def fS01 (f : D → Option Int → Option Int → Option D) : List D → Option D
  | [x, .v (.int i)] => f x none (some i)
  | _ => none
def fS00 (f : D → Option Int → Option Int → Option D) : List D → Option D
  | [x] => f x none none
  | _ => none
section
variable {K : PySem.W.Frag}
theorem frsh_more {H H' : Hp} {A B : List T} {t : T} (f : Frsh H A H' t) (h : ∀ u ∈ A, u ∈ B) : Frsh H B H' t :=
  ⟨f.sm, f.gd, f.ow, fun a ma => (f.tr a ma).imp id fun ⟨u, mu, q⟩ => ⟨u, h u mu, q⟩, fun a ma => (f.im a ma).imp id fun ⟨u, mu, q⟩ => ⟨u, h u mu, q⟩⟩
theorem SlOk.n11 {r : V → Option Int → Option Int → Hp → VK → Prop} {f : D → Option Int → Option Int → Option D} (h : SlOk K r f) : OpN K (rS11 r) (fS11 f) := by
  intro H us d Q ok gd e q
  unfold fS11 at e
  split at e
  · rename_i x i j e1
    obtain ⟨u, w, rfl, e2, e3⟩ := ers_cons e1
    obtain ⟨u1, w, rfl, e4, e5⟩ := ers_cons e3
    obtain ⟨u2, w, rfl, e6, e7⟩ := ers_cons e5
    have := ers_nil e7; subst this
    have := er_v e4; subst this
    have := er_v e6; subst this
    subst e2
    exact h H u (some i) (some j) d Q (ok u (by simp)) (gd u (by simp)) e fun t H' et okt f => q t H' et okt (frsh_more f fun w m => by rw [List.mem_singleton.mp m]; simp)
  · cases e
theorem SlOk.n10 {r : V → Option Int → Option Int → Hp → VK → Prop} {f : D → Option Int → Option Int → Option D} (h : SlOk K r f) : OpN K (rS10 r) (fS10 f) := by
  intro H us d Q ok gd e q
  unfold fS10 at e
  split at e
  · rename_i x i e1
    obtain ⟨u, w, rfl, e2, e3⟩ := ers_cons e1
    obtain ⟨u1, w, rfl, e4, e5⟩ := ers_cons e3
    have := ers_nil e5; subst this
    have := er_v e4; subst this
    subst e2
    exact h H u (some i) none d Q (ok u (by simp)) (gd u (by simp)) e fun t H' et okt f => q t H' et okt (frsh_more f fun w m => by rw [List.mem_singleton.mp m]; simp)
  · cases e
theorem SlOk.n01 {r : V → Option Int → Option Int → Hp → VK → Prop} {f : D → Option Int → Option Int → Option D} (h : SlOk K r f) : OpN K (rS01 r) (fS01 f) := by
  intro H us d Q ok gd e q
  unfold fS01 at e
  split at e
  · rename_i x i e1
    obtain ⟨u, w, rfl, e2, e3⟩ := ers_cons e1
    obtain ⟨u1, w, rfl, e4, e5⟩ := ers_cons e3
    have := ers_nil e5; subst this
    have := er_v e4; subst this
    subst e2
    exact h H u none (some i) d Q (ok u (by simp)) (gd u (by simp)) e fun t H' et okt f => q t H' et okt (frsh_more f fun w m => by rw [List.mem_singleton.mp m]; simp)
  · cases e
theorem SlOk.n00 {r : V → Option Int → Option Int → Hp → VK → Prop} {f : D → Option Int → Option Int → Option D} (h : SlOk K r f) : OpN K (rS00 r) (fS00 f) := by
  intro H us d Q ok gd e q
  unfold fS00 at e
  split at e
  · rename_i x e1
    obtain ⟨u, w, rfl, e2, e3⟩ := ers_cons e1
    have := ers_nil e3; subst this
    subst e2
    exact h H u none none d Q (ok u (by simp)) (gd u (by simp)) e fun t H' et okt f => q t H' et okt (frsh_more f fun w m => by rw [List.mem_singleton.mp m]; simp)
  · cases e
end
section
variable {X : Cx} {W : WX} {io : List Nat} {a b c : Expr} {pos p2 : Pos} {ta tb tc : TE} {da db dc : E} {m1 m2 m3 : Md} {d1 d2 d3 : List Nat}
theorem de_ix (ha : DE X W io m1 d1 a ta da) (hb : DE X W io m2 d2 b tb db) (hs : PlainIx b := by exact fun _ _ => rfl) : DE X W io m1 (d1 ++ d2) (.Subscript a b pos) (tOp (rIx X.K) ta tb) (dIx m1 d2 da db) := ⟨pe_ix ix_seq ha.pe hb.pe hs, erd_ix ha.rd hb.rd⟩
abbrev dS11 (m1 : Md) (d23 d3 : List Nat) (da db dc : E) : E := dOp (fS11 slD) (dAcons m1 d23 da (dAconsI db (dAconsI dc dAnil)))
abbrev dS10 (m1 : Md) (d2 : List Nat) (da db : E) : E := dOp (fS10 slD) (dAcons m1 d2 da (dAconsI db dAnil))
abbrev dS01 (m1 : Md) (d2 : List Nat) (da db : E) : E := dOp (fS01 slD) (dAcons m1 d2 da (dAconsI db dAnil))
abbrev dS00 (m1 : Md) (da : E) : E := dOp (fS00 slD) (dAcons m1 [] da dAnil)
theorem de_s11 (ha : DE X W io m1 d1 a ta da) (hb : DE X W io m2 d2 b tb db) (hc : DE X W io m3 d3 c tc dc) : DE X W io .tmp (d1 ++ (d2 ++ (d3 ++ []))) (.Subscript a (.Slice (some b) (some c) none p2) pos) (tSl (rSl X.K) ta (tPart tb) (tPart tc)) (dS11 m1 (d2 ++ (d3 ++ [])) d3 da db dc) :=
  ⟨pe_slice sl_any ha.pe (po_some hb.pe) (po_some hc.pe), rdN (ard_cons ha.rd (ard_consI hb.rd (ard_consI hc.rd ard_nil))) sl_ok.n11⟩
theorem de_s10 (ha : DE X W io m1 d1 a ta da) (hb : DE X W io m2 d2 b tb db) : DE X W io .tmp (d1 ++ (d2 ++ [])) (.Subscript a (.Slice (some b) none none p2) pos) (tSl (rSl X.K) ta (tPart tb) tNoPart) (dS10 m1 (d2 ++ []) da db) :=
  ⟨pe_slice sl_any ha.pe (po_some hb.pe) po_none, rdN (ard_cons ha.rd (ard_consI hb.rd ard_nil)) sl_ok.n10⟩
theorem de_s01 (ha : DE X W io m1 d1 a ta da) (hb : DE X W io m2 d2 b tb db) : DE X W io .tmp (d1 ++ (d2 ++ [])) (.Subscript a (.Slice none (some b) none p2) pos) (tSl (rSl X.K) ta tNoPart (tPart tb)) (dS01 m1 (d2 ++ []) da db) :=
  ⟨pe_slice sl_any ha.pe po_none (po_some hb.pe), rdN (ard_cons ha.rd (ard_consI hb.rd ard_nil)) sl_ok.n01⟩
theorem de_s00 (ha : DE X W io m1 d1 a ta da) : DE X W io .tmp (d1 ++ []) (.Subscript a (.Slice none none none p2) pos) (tSl (rSl X.K) ta tNoPart tNoPart) (dS00 m1 da) :=
  ⟨pe_slice sl_any ha.pe po_none po_none, rdN (ard_cons ha.rd ard_nil) sl_ok.n00⟩
end
end VS

namespace VS
open PySem PySem.Spec PyProof.Rows L2

theorem call_or {X : Cx} {f : Value} {r r' : List V → Hp → VK → Prop} (h : CallR X f r) (h' : CallR X f r') : CallR X f (fun xs H Q => r xs H Q ∨ r' xs H Q) := by
  intro pins s σ H xs us Q I rx q
  rcases q with q | q
  · exact h pins s σ H xs us Q I rx q
  · exact h' pins s σ H xs us Q I rx q
/-- a built-in with one operand -/
def u1 (f : D → Option D) : List D → Option D
  | [x] => f x
  | _ => none
def One (K : PySem.W.Frag) (r : List V → Hp → VK → Prop) (f : D → Option D) : Prop :=
  ∀ (H : Hp) (x : T) (d : D) (Q : VK), x.ok K H → x.good → f x.er = some d → (∀ t H', t.er = d → t.ok K H' → Frsh H [x] H' t → Q t.rt H') → r [x.rt] H Q
theorem One.n {K : PySem.W.Frag} {r : List V → Hp → VK → Prop} {f : D → Option D} (h : One K r f) : OpN K r (u1 f) := by
  intro H us d Q ok gd e q
  match us, ok, gd, e, q with
  | [x], ok, gd, e, q => exact h H x d Q (ok x (by simp)) (gd x (by simp)) e q
  | [], _, _, e, _ => cases e
  | _ :: _ :: _, _, _, e, _ => cases e
def u2 (f : D → D → Option D) : List D → Option D
  | [x, y] => f x y
  | _ => none
/-! ### len -/
def lenD : D → Option D
  | .v (.str z) => if z.length ≤ sizeLine then some (.int z.length) else none
  | .nd .tup xs => some (.int xs.length)
  | .nd .scr xs => some (.int xs.length)
  | .nd (.lst _) xs => some (.int xs.length)
  | _ => none
abbrev rLen (K : PySem.W.Frag) : List V → Hp → VK → Prop := fun xs H Q => ∃ x n, xs = [x] ∧ LenV K x H n ∧ Q (.int n) H
section
variable {K : PySem.W.Frag}
theorem len_ok : One K (rLen K) lenD := by
  intro H x d Q ok g e q
  unfold lenD at e
  split at e
  · rename_i z e1; have := er_v e1; subst this
    split at e
    · rename_i hz; cases e; exact ⟨_, z.length, rfl, ⟨hz, rfl⟩, q (.v _) H rfl trivial Frsh.atom⟩
    · cases e
  · rename_i xs e1; obtain ⟨a, us, rfl, h1⟩ := er_nd e1
    cases e
    exact ⟨_, xs.length, rfl, .inr ⟨_, ok.sqT, by rw [rts_len, ← h1, ers_len]⟩, q (.v _) H rfl trivial Frsh.atom⟩
  · rename_i xs e1; obtain ⟨a, us, rfl, h1⟩ := er_nd e1
    cases e
    exact ⟨_, xs.length, rfl, .inl ⟨_, ok.sqS, by rw [rts_len, ← h1, ers_len]⟩, q (.v _) H rfl trivial Frsh.atom⟩
  · rename_i o xs e1; obtain ⟨a, us, rfl, h1⟩ := er_nd e1
    cases e
    exact ⟨_, xs.length, rfl, .inl ⟨_, ok.sqL, by rw [rts_len, ← h1, ers_len]⟩, q (.v _) H rfl trivial Frsh.atom⟩
  · cases e
/-! ### int, abs, min, max -/
def intD : D → Option D
  | .v (.int i) => some (.int i)
  | .v (.bl k) => some (.int (if k then 1 else 0))
  | _ => none
abbrev rInt : List V → Hp → VK → Prop := fun xs H Q => (∃ i, xs = [.int i] ∧ Q (.int i) H) ∨ ∃ k, xs = [.bl k] ∧ Q (.int (if k then 1 else 0)) H
theorem int_ok : One K rInt intD := by
  intro H x d Q ok g e q
  unfold intD at e
  split at e
  · rename_i i e1; have := er_v e1; subst this; cases e; exact .inl ⟨i, rfl, q (.v _) H rfl trivial Frsh.atom⟩
  · rename_i i e1; have := er_v e1; subst this; cases e; exact .inr ⟨i, rfl, q (.v _) H rfl trivial Frsh.atom⟩
  · cases e
def absD : D → Option D
  | .v (.int i) => some (.int (if i < 0 then -i else i))
  | _ => none
abbrev rAbs : List V → Hp → VK → Prop := fun xs H Q => ∃ i, xs = [.int i] ∧ Q (.int (if i < 0 then -i else i)) H
theorem abs_ok : One K rAbs absD := by
  intro H x d Q ok g e q
  unfold absD at e
  split at e
  · rename_i i e1; have := er_v e1; subst this; cases e; exact ⟨i, rfl, q (.v _) H rfl trivial Frsh.atom⟩
  · cases e
def i2D (g : Int → Int → Int) : List D → Option D
  | [.v (.int i), .v (.int j)] => some (.int (g i j))
  | _ => none
abbrev rI2 (g : Int → Int → Int) : List V → Hp → VK → Prop := fun xs H Q => ∃ i j, xs = [.int i, .int j] ∧ Q (.int (g i j)) H
theorem i2_ok {g : Int → Int → Int} : OpN K (rI2 g) (i2D g) := by
  intro H us d Q ok gd e q
  unfold i2D at e
  split at e
  · rename_i i j e1
    obtain ⟨u, w, rfl, e2, e3⟩ := ers_cons e1
    obtain ⟨u1, w, rfl, e4, e5⟩ := ers_cons e3
    have := ers_nil e5; subst this
    have := er_v e2; subst this
    have := er_v e4; subst this
    cases e
    exact ⟨i, j, rfl, q (.v _) H rfl trivial Frsh.atom⟩
  · cases e
abbrev minI : Int → Int → Int := fun i j => if j < i then j else i
abbrev maxI : Int → Int → Int := fun i j => if j > i then j else i
/-! ### ints of a list -/
def D.ints : List D → Option (List Int)
  | [] => some []
  | .v (.int i) :: r => (D.ints r).map fun ns => i :: ns
  | _ => none
theorem ints_of : ∀ {us : List T} {ns : List Int}, D.ints (T.ers us) = some ns → T.rts us = ns.map V.int
  | [], ns, h => by cases h; rfl
  | u :: r, ns, h => by
    rw [T.ers] at h
    unfold D.ints at h
    split at h
    · rename_i e; cases e
    · rename_i e
      injection e with e1 e2
      have := er_v e1; subst this
      subst e2
      cases ei : D.ints (T.ers r) with
      | none => rw [ei] at h; cases h
      | some ms => rw [ei] at h; cases h; rw [T.rts, ints_of ei]; rfl
    · cases h
def D.strs : List D → Option (List Str)
  | [] => some []
  | .v (.str i) :: r => (D.strs r).map fun ns => i :: ns
  | _ => none
theorem strs_of : ∀ {us : List T} {ns : List Str}, D.strs (T.ers us) = some ns → T.rts us = ns.map V.str
  | [], ns, h => by cases h; rfl
  | u :: r, ns, h => by
    rw [T.ers] at h
    unfold D.strs at h
    split at h
    · rename_i e; cases e
    · rename_i e
      injection e with e1 e2
      have := er_v e1; subst this
      subst e2
      cases ei : D.strs (T.ers r) with
      | none => rw [ei] at h; cases h
      | some ms => rw [ei] at h; cases h; rw [T.rts, strs_of ei]; rfl
    · cases h
def D.lstI : D → Option (List Int)
  | .nd (.lst _) xs => D.ints xs
  | .nd .scr xs => D.ints xs
  | _ => none
theorem lstI_of {H : Hp} {t : T} {ns : List Int} (ok : t.ok K H) (h : t.er.lstI = some ns) : ∃ a, t.rt = .ref a ∧ SqL K H a (ns.map V.int) := by
  unfold D.lstI at h
  split at h
  · rename_i o xs e1; obtain ⟨a, us, rfl, h1⟩ := er_nd e1; subst h1; exact ⟨a, rfl, by rw [← ints_of h]; exact ok.sqL⟩
  · rename_i xs e1; obtain ⟨a, us, rfl, h1⟩ := er_nd e1; subst h1; exact ⟨a, rfl, by rw [← ints_of h]; exact ok.sqS⟩
  · cases h
def sumD (x : D) : Option D := x.lstI.map fun ns => .int ns.sum
theorem sum_ok : One K (rSum K) sumD := by
  intro H x d Q ok g e q
  unfold sumD at e
  cases en : x.er.lstI with
  | none => rw [en] at e; cases e
  | some ns =>
    rw [en] at e; cases e
    obtain ⟨a, e1, e2⟩ := lstI_of ok en
    exact ⟨a, ns, by rw [e1], e2, q (.v _) H rfl trivial Frsh.atom⟩
def maxL : List Int → Int
  | [] => 0
  | [x] => x
  | x :: r => if maxL r ≤ x then x else maxL r
def minL : List Int → Int
  | [] => 0
  | [x] => x
  | x :: r => if x ≤ minL r then x else minL r
theorem maxL_ge : ∀ {ns : List Int} {x : Int}, x ∈ ns → x ≤ maxL ns
  | [y], x, h => by rw [List.mem_singleton.mp h]; exact Int.le_refl _
  | y :: z :: r, x, h => by
    unfold maxL
    rcases List.mem_cons.mp h with rfl | h
    · split
      · exact Int.le_refl _
      · omega
    · have := maxL_ge h
      split <;> omega
theorem maxL_mem : ∀ {ns : List Int}, ns ≠ [] → maxL ns ∈ ns
  | [y], _ => by simp [maxL]
  | y :: z :: r, _ => by
    unfold maxL
    split
    · exact List.mem_cons_self
    · exact List.mem_cons_of_mem _ (maxL_mem (by simp))
theorem minL_le : ∀ {ns : List Int} {x : Int}, x ∈ ns → minL ns ≤ x
  | [y], x, h => by rw [List.mem_singleton.mp h]; exact Int.le_refl _
  | y :: z :: r, x, h => by
    unfold minL
    rcases List.mem_cons.mp h with rfl | h
    · split
      · exact Int.le_refl _
      · omega
    · have := minL_le h
      split <;> omega
theorem minL_mem : ∀ {ns : List Int}, ns ≠ [] → minL ns ∈ ns
  | [y], _ => by simp [minL]
  | y :: z :: r, _ => by
    unfold minL
    split
    · exact List.mem_cons_self
    · exact List.mem_cons_of_mem _ (minL_mem (by simp))
def maxD (x : D) : Option D := match x.lstI with
  | some (n :: ns) => some (.int (maxL (n :: ns)))
  | _ => none
def minD (x : D) : Option D := match x.lstI with
  | some (n :: ns) => some (.int (minL (n :: ns)))
  | _ => none
theorem max_ok : One K (rMax K) maxD := by
  intro H x d Q ok g e q
  unfold maxD at e
  split at e
  · rename_i n ns en
    cases e
    obtain ⟨a, e1, e2⟩ := lstI_of ok en
    refine ⟨a, n :: ns, by rw [e1], e2, Nat.succ_pos _, fun m hm hg => ?_⟩
    have : m = maxL (n :: ns) := by
      have h1 := maxL_ge hm
      have h2 := hg _ (maxL_mem (ns := n :: ns) (by simp))
      omega
    rw [this]
    exact q (.v _) H rfl trivial Frsh.atom
  · cases e
theorem min_ok : One K (rMin K) minD := by
  intro H x d Q ok g e q
  unfold minD at e
  split at e
  · rename_i n ns en
    cases e
    obtain ⟨a, e1, e2⟩ := lstI_of ok en
    refine ⟨a, n :: ns, by rw [e1], e2, Nat.succ_pos _, fun m hm hg => ?_⟩
    have : m = minL (n :: ns) := by
      have h1 := minL_le hm
      have h2 := hg _ (minL_mem (ns := n :: ns) (by simp))
      omega
    rw [this]
    exact q (.v _) H rfl trivial Frsh.atom
  · cases e
/-! ### list, tuple -/
def listD : D → Option D
  | .nd .tup xs => if D.hass NK.isOwn xs = false then some (.nd (.lst true) xs) else none
  | .nd .scr xs => if D.hass NK.isOwn xs = false then some (.nd (.lst true) xs) else none
  | .nd (.lst _) xs => if D.hass NK.isOwn xs = false then some (.nd (.lst true) xs) else none
  | _ => none
abbrev rList (K : PySem.W.Frag) : List V → Hp → VK → Prop := fun xs H Q => ∃ p ys, xs = [.ref p] ∧ (SqL K H p ys ∨ SqT K H p ys) ∧ ∀ l, H l = none → Q (.ref l) (upd H l (.lst ys))
theorem list_ok : One K (rList K) listD := by
  intro H x d Q ok g e q
  have go : ∀ {k : NK} {a : Addr} {us : List T}, x = .nd a k us → D.hass NK.isOwn (T.ers us) = false → d = .nd (.lst true) (T.ers us) → (SqL K H a (T.rts us) ∨ SqT K H a (T.rts us)) → rList K [x.rt] H Q := fun {k a us} ex ho ed sq => by
    subst ex; subst ed
    refine ⟨a, T.rts us, rfl, sq, fun p hp => ?_⟩
    obtain ⟨h1, h2⟩ := sub_new (k' := .lst true) (o := .lst (T.rts us)) (ws := us) ok g ho (fun w m => m) hp (show upd H p _ p = _ by rw [upd_same])
    exact q _ _ (by rw [T.er]) h1 h2
  unfold listD at e
  split at e
  · rename_i xs e1; obtain ⟨a, us, rfl, h1⟩ := er_nd e1; subst h1
    split at e
    · rename_i ho; cases e; exact go rfl ho rfl (.inr ok.sqT)
    · cases e
  · rename_i xs e1; obtain ⟨a, us, rfl, h1⟩ := er_nd e1; subst h1
    split at e
    · rename_i ho; cases e; exact go rfl ho rfl (.inl ok.sqS)
    · cases e
  · rename_i o xs e1; obtain ⟨a, us, rfl, h1⟩ := er_nd e1; subst h1
    split at e
    · rename_i ho; cases e; exact go rfl ho rfl (.inl ok.sqL)
    · cases e
  · cases e
def tupD : D → Option D
  | .nd .tup xs => if D.hass NK.isOwn xs = false then some (.nd .tup xs) else none
  | .nd .scr xs => if D.hass NK.isOwn xs = false then some (.nd .tup xs) else none
  | .nd (.lst _) xs => if D.hass NK.isOwn xs = false then some (.nd .tup xs) else none
  | _ => none
abbrev rTuple (K : PySem.W.Frag) : List V → Hp → VK → Prop := fun xs H Q => ∃ p ys, xs = [.ref p] ∧ ((SqL K H p ys ∧ ∀ l, H l = none → Q (.ref l) (upd H l (.tup ys))) ∨ (SqT K H p ys ∧ Q (.ref p) H))
theorem tup_ok : One K (rTuple K) tupD := by
  intro H x d Q ok g e q
  have go : ∀ {k : NK} {a : Addr} {us : List T}, x = .nd a k us → D.hass NK.isOwn (T.ers us) = false → d = .nd .tup (T.ers us) → SqL K H a (T.rts us) → rTuple K [x.rt] H Q := fun {k a us} ex ho ed sq => by
    subst ex; subst ed
    refine ⟨a, T.rts us, rfl, .inl ⟨sq, fun p hp => ?_⟩⟩
    obtain ⟨h1, h2⟩ := sub_new (k' := .tup) (o := .tup (T.rts us)) (ws := us) ok g ho (fun w m => m) hp (SqT.of upd_same)
    exact q _ _ (by rw [T.er]) h1 h2
  unfold tupD at e
  split at e
  · rename_i xs e1; obtain ⟨a, us, rfl, h1⟩ := er_nd e1; subst h1
    split at e
    · rename_i ho; cases e
      exact ⟨a, _, rfl, .inr ⟨ok.sqT, q (.nd a .tup us) H (by rw [T.er]) ok (frsh_self (List.mem_singleton_self _) g (tup_own ho))⟩⟩
    · cases e
  · rename_i xs e1; obtain ⟨a, us, rfl, h1⟩ := er_nd e1; subst h1
    split at e
    · rename_i ho; cases e; exact go rfl ho rfl ok.sqS
    · cases e
  · rename_i o xs e1; obtain ⟨a, us, rfl, h1⟩ := er_nd e1; subst h1
    split at e
    · rename_i ho; cases e; exact go rfl ho rfl ok.sqL
    · cases e
  · cases e
/-- [::-1] of a list -/
def revD : D → Option D
  | .nd .scr xs => if D.hass NK.isOwn xs = false then some (.nd (.lst true) xs.reverse) else none
  | .nd (.lst _) xs => if D.hass NK.isOwn xs = false then some (.nd (.lst true) xs.reverse) else none
  | _ => none
def rRev (K : PySem.W.Frag) : V → Hp → VK → Prop := fun x H1 Q => ∃ a xs, x = .ref a ∧ SqL K H1 a xs ∧ ∀ p, H1 p = none → Q (.ref p) (upd H1 p (.lst xs.reverse))
theorem rev_ok : Op1 K (rRev K) revD := by
  intro H x d Q ok g e q
  have go : ∀ {k : NK} {a : Addr} {us : List T}, x = .nd a k us → D.hass NK.isOwn (T.ers us) = false → d = .nd (.lst true) (T.ers us).reverse → SqL K H a (T.rts us) → rRev K x.rt H Q := fun {k a us} ex ho ed sq => by
    subst ex; subst ed
    refine ⟨a, T.rts us, rfl, sq, fun p hp => ?_⟩
    obtain ⟨h1, h2⟩ := sub_new (k' := .lst true) (o := .lst (T.rts us).reverse) (ws := us.reverse) ok g ho (fun w m => List.mem_reverse.mp m) hp (show upd H p _ p = _ by rw [upd_same, T.rts_map, T.rts_map, List.map_reverse])
    exact q _ _ (by rw [T.er, T.ers_map, T.ers_map, List.map_reverse]) h1 h2
  unfold revD at e
  split at e
  · rename_i xs e1; obtain ⟨a, us, rfl, h1⟩ := er_nd e1; subst h1
    split at e
    · rename_i ho; cases e; exact go rfl ho rfl ok.sqS
    · cases e
  · rename_i o xs e1; obtain ⟨a, us, rfl, h1⟩ := er_nd e1; subst h1
    split at e
    · rename_i ho; cases e; exact go rfl ho rfl ok.sqL
    · cases e
  · cases e
/-- sorted of ints -/
def insI (x : Int) : List Int → List Int
  | [] => [x]
  | y :: r => if x ≤ y then x :: y :: r else y :: insI x r
def srtI : List Int → List Int
  | [] => []
  | x :: r => insI x (srtI r)
theorem insI_perm (x : Int) : ∀ r : List Int, (insI x r).Perm (x :: r)
  | [] => .refl _
  | y :: r => by
    unfold insI
    split
    · exact .refl _
    · exact ((insI_perm x r).cons y).trans (.swap x y r)
theorem srtI_perm : ∀ r : List Int, (srtI r).Perm r
  | [] => .refl _
  | x :: r => (insI_perm x _).trans ((srtI_perm r).cons x)
theorem insI_sorted {x : Int} : ∀ {r : List Int}, r.Pairwise (· ≤ ·) → (insI x r).Pairwise (· ≤ ·)
  | [], _ => by simp [insI]
  | y :: r, h => by
    rw [List.pairwise_cons] at h
    unfold insI
    split
    · rename_i hxy
      exact .cons (fun z hz => (List.mem_cons.mp hz).elim (fun e => by rw [e]; exact hxy) fun hz => Int.le_trans hxy (h.1 z hz)) (.cons h.1 h.2)
    · rename_i hxy
      refine .cons (fun z hz => ?_) (insI_sorted h.2)
      rcases List.mem_cons.mp ((insI_perm x r).mem_iff.mp hz) with rfl | hz
      · omega
      · exact h.1 z hz
theorem srtI_sorted : ∀ r : List Int, (srtI r).Pairwise (· ≤ ·)
  | [] => .nil
  | x :: r => insI_sorted (srtI_sorted r)
theorem sorted_unique {a b : List Int} (h : a.Perm b) (ha : a.Pairwise (· ≤ ·)) (hb : b.Pairwise (· ≤ ·)) : a = b := h.eq_of_pairwise (fun x y _ _ h1 h2 => Int.le_antisymm h1 h2) ha hb
def sortD (x : D) : Option D := x.lstI.map fun ns => .nd (.lst true) ((srtI ns).map D.int)
theorem ers_ints (ns : List Int) : T.ers (ns.map fun n => T.v (.int n)) = ns.map D.int := by rw [T.ers_map, List.map_map]; rfl
theorem rts_ints (ns : List Int) : T.rts (ns.map fun n => T.v (.int n)) = ns.map V.int := by rw [T.rts_map, List.map_map]; rfl
theorem new_atoms {H : Hp} {p : Addr} {A : List T} {vs : List V} (hp : H p = none) (okA : ∀ u ∈ A, u.ok K H) : (T.nd p (.lst true) (vs.map T.v)).ok K (upd H p (.lst vs)) ∧ Frsh H A (upd H p (.lst vs)) (.nd p (.lst true) (vs.map T.v)) := by
  have am : ∀ c ∈ vs.map T.v, ∃ v, c = T.v v := fun c m => by obtain ⟨v, _, e⟩ := List.mem_map.mp m; exact ⟨v, e.symm⟩
  refine ⟨ok_new hp (show upd H p _ p = _ by rw [upd_same, rts_vs]) fun c m => ?_, ?_⟩
  · obtain ⟨v, rfl⟩ := am c m; trivial
  · have cols : ∀ (q : NK → Bool) (a : Addr), a ∈ (T.nd p (.lst true) (vs.map T.v)).col q → a = p := fun q a ma => by
      rcases T.mem_col.mp ma with ⟨_, e⟩ | ⟨c, m, mz⟩
      · exact e
      · obtain ⟨v, rfl⟩ := am c m; cases mz
    have own0 : T.cols NK.isOwn (vs.map T.v) = [] := by
      cases e : T.cols NK.isOwn (vs.map T.v) with
      | nil => rfl
      | cons z r =>
        obtain ⟨c, m, mz⟩ := T.mem_cols.mp (show z ∈ T.cols NK.isOwn (vs.map T.v) by rw [e]; simp)
        obtain ⟨v, rfl⟩ := am c m; cases mz
    refine ⟨same_upd hp, ?_, fun a ma => by rw [cols _ a ma]; exact hp, fun a ma => .inl (by rw [cols _ a ma]; exact hp), fun a ma => .inl (by rw [cols _ a ma]; exact hp)⟩
    rw [T.good]
    refine ⟨fun _ m => ?_, fun _ m => ?_, T.goods_of own0⟩
    · obtain ⟨c, m, mz⟩ := T.mem_cols.mp m
      obtain ⟨v, rfl⟩ := am c m; cases mz
    · rw [own0] at m; cases m
theorem sort_ok : One K (rSortedI K) sortD := by
  intro H x d Q ok g e q
  unfold sortD at e
  cases en : x.er.lstI with
  | none => rw [en] at e; cases e
  | some ns =>
    rw [en] at e; cases e
    obtain ⟨a, e1, e2⟩ := lstI_of ok en
    refine ⟨a, ns, by rw [e1], e2, fun ns' p hp hs hn => ?_⟩
    have : ns' = srtI ns := sorted_unique (hp.trans (srtI_perm ns).symm) hs (srtI_sorted ns)
    subst this
    obtain ⟨h1, h2⟩ := new_atoms (K := K) (A := [x]) (vs := (srtI ns).map V.int) hn (fun u m => by rw [List.mem_singleton.mp m]; exact ok)
    refine q _ _ ?_ h1 h2
    rw [T.er, T.ers_map, List.map_map, List.map_map]; rfl
/-! ### methods that change nothing -/
def seqS : D → Option (List Str)
  | .nd .tup xs => D.strs xs
  | .nd .scr xs => D.strs xs
  | .nd (.lst _) xs => D.strs xs
  | _ => none
theorem seqS_of {H : Hp} {t : T} {ns : List Str} (ok : t.ok K H) (h : seqS t.er = some ns) : ∃ a, t.rt = .ref a ∧ (SqL K H a (ns.map V.str) ∨ SqT K H a (ns.map V.str)) := by
  unfold seqS at h
  split at h
  · rename_i xs e1; obtain ⟨a, us, rfl, h1⟩ := er_nd e1; subst h1; exact ⟨a, rfl, .inr (by rw [← strs_of h]; exact ok.sqT)⟩
  · rename_i xs e1; obtain ⟨a, us, rfl, h1⟩ := er_nd e1; subst h1; exact ⟨a, rfl, .inl (by rw [← strs_of h]; exact ok.sqS)⟩
  · rename_i o xs e1; obtain ⟨a, us, rfl, h1⟩ := er_nd e1; subst h1; exact ⟨a, rfl, .inl (by rw [← strs_of h]; exact ok.sqL)⟩
  · cases h
def rM (r : V → List V → Hp → VK → Prop) : List V → Hp → VK → Prop := fun vs H Q => match vs with
  | x :: xs => r x xs H Q
  | [] => False
def joinD : List D → Option D
  | [.v (.str a), y] => match seqS y with
    | some ys => if (ys.map (·.length)).sum + ys.length * a.length ≤ 16777216 then some (.v (.str (Txt.join a ys))) else none
    | none => none
  | _ => none
abbrev rJoin (K : PySem.W.Frag) : V → List V → Hp → VK → Prop := fun x xs H Q => ∃ a p, ∃ ys : List Str, x = .str a ∧ xs = [.ref p] ∧ (SqL K H p (ys.map V.str) ∨ SqT K H p (ys.map V.str)) ∧
    (ys.map (·.length)).sum + ys.length * a.length ≤ 16777216 ∧ Q (.str (Txt.join a ys)) H
theorem join_ok : OpN K (rM (rJoin K)) joinD := by
  intro H us d Q ok gd e q
  unfold joinD at e
  split at e
  · rename_i a y e1
    obtain ⟨u, w, rfl, e2, e3⟩ := ers_cons e1
    obtain ⟨u1, w, rfl, e4, e5⟩ := ers_cons e3
    have := ers_nil e5; subst this
    have := er_v e2; subst this
    subst e4
    split at e
    · rename_i ys es
      split at e
      · rename_i hz
        cases e
        obtain ⟨p, e6, e7⟩ := seqS_of (ok u1 (by simp)) es
        exact ⟨a, p, ys, rfl, by rw [T.rts, T.rts, e6], e7, hz, q (.v _) H rfl trivial Frsh.atom⟩
      · cases e
    · cases e
  · cases e
def scountD : List D → Option D
  | [.v (.str a), .v (.str b)] => some (.v (.int (Txt.count a b)))
  | _ => none
abbrev rScount : V → List V → Hp → VK → Prop := fun x xs H Q => ∃ a b, x = .str a ∧ xs = [.str b] ∧ Q (.int (Txt.count a b)) H
theorem scount_ok : OpN K (rM rScount) scountD := by
  intro H us d Q ok gd e q
  unfold scountD at e
  split at e
  · rename_i a b e1
    obtain ⟨u, w, rfl, e2, e3⟩ := ers_cons e1
    obtain ⟨u1, w, rfl, e4, e5⟩ := ers_cons e3
    have := ers_nil e5; subst this
    have := er_v e2; subst this
    have := er_v e4; subst this
    cases e
    exact ⟨a, b, rfl, rfl, q (.v _) H rfl trivial Frsh.atom⟩
  · cases e
def lcountD : List D → Option D
  | [x, .v (.int k)] => x.lstI.map fun ns => .v (.int (ns.count k : Nat))
  | _ => none
theorem lcount_ok : OpN K (rM (rCntI K)) lcountD := by
  intro H us d Q ok gd e q
  unfold lcountD at e
  split at e
  · rename_i x k e1
    obtain ⟨u, w, rfl, e2, e3⟩ := ers_cons e1
    obtain ⟨u1, w, rfl, e4, e5⟩ := ers_cons e3
    have := ers_nil e5; subst this
    have := er_v e4; subst this
    subst e2
    cases en : u.er.lstI with
    | none => rw [en] at e; cases e
    | some ns =>
      rw [en] at e; cases e
      obtain ⟨a, e6, e7⟩ := lstI_of (ok u (by simp)) en
      exact ⟨a, ns, k, e6, rfl, e7, q (.v _) H rfl trivial Frsh.atom⟩
  · cases e
def D.isStr : D → Bool
  | .v (.str _) => true
  | _ => false
def D.isLst : D → Bool
  | .nd (.lst _) _ => true
  | .nd .scr _ => true
  | _ => false
theorem tyS_of (H : Hp) (t : T) (ok : t.ok K H) (h : t.er.isStr = true) : tyV K "str" t.rt H := by
  unfold D.isStr at h
  split at h
  · rename_i e; have := er_v e; subst this; rfl
  · cases h
theorem tyL_of (H : Hp) (t : T) (ok : t.ok K H) (h : t.er.isLst = true) : tyV K "list" t.rt H := by
  unfold D.isLst at h
  split at h
  · rename_i o xs e; obtain ⟨a, us, rfl, h1⟩ := er_nd e; exact .inl ⟨rfl, _, ok.sqL⟩
  · rename_i xs e; obtain ⟨a, us, rfl, h1⟩ := er_nd e; exact .inl ⟨rfl, _, ok.sqS⟩
  · cases h
end
section
variable {X : Cx} {W : WX} {io : List Nat} {a b c o e : Expr} {es : List Expr} {pos p p2 apos cpos : Pos} {ta tb tc to : TE} {da db dc do' : E} {t : TA} {dA : EA} {m m1 m2 m3 : Md} {ms : List Md} {d1 d2 d3 md : List Nat} {x name : Str} {id T' : String}
/-- a built-in function called, a built-in type called -/
theorem de_callB {r : List V → Hp → VK → Prop} {f : List D → Option D} (hf : OpN X.K r f) (hc : CallR X (.builtin id) r) (hg : Gl X x) (hm : X.mg x = none) (hv : bootBuiltins x = some (.builtin id)) (ha : DA X W io ms md (e :: es) t dA) (hn : x ≠ "__name__" := by decide) (hdb : (x == ("__debug__" : Str)) = false := by decide)
    (he : starEach (e :: es) X.env = (false, eval e X.env) :: starEach es X.env := by rfl) (hpl : (backTo pos (starEach es X.env)).any (·.1) = false := by rfl) : DE X W io .tmp md (.Call (.Name x p) (e :: es) [] pos) (tCB r t) (dOp f dA) := ⟨pe_callB hc hg hm hv ha.pa hn hdb he hpl, rdN ha.rd hf⟩
theorem de_callT {r : List V → Hp → VK → Prop} {f : List D → Option D} (hf : OpN X.K r f) (hc : CallR X (.type T') r) (hg : Gl X x) (hm : X.mg x = none) (hv : bootBuiltins x = some (.type T')) (ha : DA X W io ms md (e :: es) t dA) (hn : x ≠ "__name__" := by decide) (hdb : (x == ("__debug__" : Str)) = false := by decide)
    (he : starEach (e :: es) X.env = (false, eval e X.env) :: starEach es X.env := by rfl) (hpl : (backTo pos (starEach es X.env)).any (·.1) = false := by rfl) : DE X W io .tmp md (.Call (.Name x p) (e :: es) [] pos) (tCB r t) (dOp f dA) := ⟨pe_callTy hc hg hm hv ha.pa hn hdb he hpl, rdN ha.rd hf⟩
theorem de_bm {r : V → List V → Hp → VK → Prop} {f : List D → Option D} {chk : D → Bool} (hf : OpN X.K (rM r) f) (hck : ∀ (H : Hp) (t : T), t.ok X.K H → chk t.er = true → tyV X.K T' t.rt H) (pa : PlainAttrs T') (slot : Slot T' name id) (hty : typeOf (.builtin id) = pure (.type "method_descriptor")) (hm : MtR X id r)
    (ho : DE X W io m d1 o to do') (ha : DA X W io ms md (e :: es) t dA)
    (hbase : attributeBase o name X.env (eval o X.env) = eval o X.env := by rfl)
    (hfew : ((backTo cpos (starEach (e :: es) X.env)).all (fun x => !x.1) && (backToKw cpos (keywordEach [] X.env)).all (fun x => x.1.isSome)
      && decide ((e :: es).length + ([] : List Keyword).length + (if ([] : List Keyword).isEmpty then 0 else 1) < 30)) = true := by rfl)
    (hline : (apos.endLine == cpos.line) = true := by rfl) (hs : starEach (e :: es) X.env = (false, eval e X.env) :: starEach es X.env := by rfl) (hplain : (backTo cpos (starEach es X.env)).any (·.1) = false := by rfl) :
    DE X W io .tmp (d1 ++ md) (.Call (.Attribute o name apos) (e :: es) [] cpos) (tBM X.K T' r to t) (dOp f (dAconsC chk m md do' dA)) :=
  ⟨pe_bm pa slot hty hm ho.pe ha.pa hbase hfew hline hs hplain, fun ρ ts σ H Q S h => rdN (ard_consC ho.rd ha.rd hck) hf ρ ts σ H Q S h⟩
theorem de_rev {k : Nat} {p1 p2 p3 : Pos} (ha : DE X W io m d1 a ta da) : DE X W io .tmp d1 (.Subscript a (.Slice none none (some (.UnaryOp .USub (.Constant (.int 1) k p1) p2)) p3) pos) (tRevL X.K ta) (dOne revD da) := ⟨pe_revL ha.pe, erd_oneU ha.rd rev_ok⟩
end
section
variable {X : Cx}
theorem boot_len : bootBuiltins "len" = some (.builtin "len") := by rfl
theorem boot_abs : bootBuiltins "abs" = some (.builtin "abs") := by rfl
theorem boot_min : bootBuiltins "min" = some (.builtin "min") := by rfl
theorem boot_max : bootBuiltins "max" = some (.builtin "max") := by rfl
theorem boot_sum : bootBuiltins "sum" = some (.builtin "sum") := by rfl
theorem boot_sorted : bootBuiltins "sorted" = some (.builtin "sorted") := by rfl
theorem boot_isi : bootBuiltins "isinstance" = some (.builtin "isinstance") := by rfl
theorem boot_int : bootBuiltins "int" = some (.type "int") := by rfl
theorem boot_lst : bootBuiltins "list" = some (.type "list") := by rfl
theorem boot_tup : bootBuiltins "tuple" = some (.type "tuple") := by rfl
theorem boot_str : bootBuiltins "str" = some (.type "str") := by rfl
theorem boot_bool : bootBuiltins "bool" = some (.type "bool") := by rfl
end
end VS

namespace VS
open PySem PySem.Spec PyProof.Rows L2

/-! ### defs called -/
section
variable {X : Cx} {W : WX} {io : List Nat} {CX : CXT} {k : Nat} {f : Addr} {fd : FuncData} {ps : List Str} {x : Str} {p pos apos : Pos} {e : Expr} {es : List Expr} {ks : List AK} {md : List Nat} {t : TA} {dc : EC} {F : FD}
/-- f(e, ..) of a def that lets nothing out, where W is what it likes -/
theorem de_call (FN : FnOk X.prog X.w X.K X.mg X.base CX0 k f fd ps (spOf X.K (ks.map AK.pm) F)) (hr : Room k X.A) (hg : Gl X x) (hm : X.mg x = some (.ref f)) (hk : PySem.W.keepIn X.K (.ref f) = true) (hb : Binds X.K fd ps []) (hc : DC X W0 io ks md (e :: es) t dc)
    (hn : (ixs ks).Nodup := by decide) (hmv : ((ixs ks).all fun i => !io.contains i || (ioIx ks).contains i) = true := by rfl)
    (hdb : (x == ("__debug__" : Str)) = false := by decide) (he : starEach (e :: es) X.env = (false, eval e X.env) :: starEach es X.env := by rfl) (hpl : (backTo pos (starEach es X.env)).any (·.1) = false := by rfl) :
    DE X W0 io .tmp (md ++ ixs ks) (.Call (.Name x p) (e :: es) [] pos) (tCallSD (spOf X.K (ks.map AK.pm) F) [] (fun _ _ _ _ => False) t) (dCall F ks dc) :=
  ⟨pe_callSD FN hr hg hm hk hb .nil (fun σ => by intro _ _ _ _ _ _ h; exact h.elim) hc.pa hdb he hpl, erd_call hc.rd (fun _ _ _ _ h => h.elim) hn hmv⟩
theorem de_call0 (FN : FnOk X.prog X.w X.K X.mg X.base CX0 k f fd ps (spOf X.K [] F)) (hr : Room k X.A) (hg : Gl X x) (hm : X.mg x = some (.ref f)) (hk : PySem.W.keepIn X.K (.ref f) = true) (hb : Binds X.K fd ps [])
    (hdb : (x == ("__debug__" : Str)) = false := by decide) :
    DE X W0 io .tmp ([] ++ ixs []) (.Call (.Name x p) [] [] pos) (tCall (spOf X.K [] F) [] (fun _ _ _ => False) tNil) (dCall F [] dCnil) :=
  ⟨pe_call0 FN hr hg hm hk hb .nil pass0 hdb, fun ρ ts σ H Q S h => erd_call (Ef := fun _ _ _ _ => False) (F := F) (crd_nil (W := W0)) (fun _ _ _ _ h => h.elim) (List.nodup_nil) (by rfl) ρ ts σ H Q S h⟩
end
/-! ### fields -/
def fIx (f : Str) : List Str → Option Nat
  | [] => none
  | g :: r => if f == g then some 0 else (fIx f r).map (· + 1)
theorem lookup_zip : ∀ (fs : List Str) (vs : List V) (f : Str) (i : Nat), fIx f fs = some i → (fs.zip vs).lookup f = vs[i]?
  | [], vs, f, i, h => by cases h
  | g :: r, [], f, i, h => by rw [List.zip_nil_right]; rfl
  | g :: r, v :: vs, f, i, h => by
    unfold fIx at h
    rw [List.zip_cons_cons, List.lookup_cons]
    by_cases hb : (f == g) = true
    · rw [if_pos hb] at h; cases h; rw [hb]; rfl
    · rw [if_neg hb] at h
      have hb : (f == g) = false := by simpa using hb
      rw [hb]
      cases e : fIx f r with
      | none => rw [e] at h; cases h
      | some j => rw [e] at h; cases h; exact lookup_zip r vs f j e
theorem lookup_zipN : ∀ (fs : List Str) (vs : List V) (f : Str), fIx f fs = none → (fs.zip vs).lookup f = none
  | [], vs, f, h => rfl
  | g :: r, [], f, h => by rw [List.zip_nil_right]; rfl
  | g :: r, v :: vs, f, h => by
    unfold fIx at h
    rw [List.zip_cons_cons, List.lookup_cons]
    by_cases hb : (f == g) = true
    · rw [if_pos hb] at h; cases h
    · rw [if_neg hb] at h
      have hb : (f == g) = false := by simpa using hb
      rw [hb]
      cases e : fIx f r with
      | none => exact lookup_zipN r vs f e
      | some j => rw [e] at h; cases h
/-- an instance's class, fields, children -/
def D.inst : D → Option (Addr × List Str × List D)
  | .nd (.ins C fs) xs => some (C, fs, xs)
  | .nd (.obj _ C fs) xs => some (C, fs, xs)
  | _ => none
theorem inst_of {K : PySem.W.Frag} {H : Hp} {t : T} {C : Addr} {fs : List Str} {xs : List D} (ok : t.ok K H) (h : t.er.inst = some (C, fs, xs)) : ∃ a k us dx, t = .nd a k us ∧ T.ers us = xs ∧ H a = some (.ins C dx (fs.zip (T.rts us))) ∧ fs.length = us.length := by
  unfold D.inst at h
  split at h
  · rename_i e; obtain ⟨a, us, rfl, e2⟩ := er_nd e; cases h
    obtain ⟨dx, h1, h2⟩ := ok.node
    exact ⟨a, _, us, dx, rfl, e2, h1, by rw [h2, rts_len]⟩
  · rename_i e; obtain ⟨a, us, rfl, e2⟩ := er_nd e; cases h
    obtain ⟨dx, h1, h2⟩ := ok.node
    exact ⟨a, _, us, dx, rfl, e2, h1, by rw [h2, rts_len]⟩
  · cases h
def fldD (Cs : List Addr) (f : Str) (x : D) : Option D := match x.inst with
  | some (C, fs, xs) => if Cs.contains C = true then (match fIx f fs with | some i => xs[i]? | none => none) else none
  | none => none
def dFld (Cs : List Addr) (f : Str) (da : E) : E := fun s => (da s).bind fun q => match fldD Cs f q.1 with
  | some d => .ok (d, q.2)
  | none => .no
section
variable {K : PySem.W.Frag} {W : WX} {io : List Nat} {ta : TE} {da : E} {m1 : Md} {d1 : List Nat}
theorem erd_fld {Cs : List Addr} {f : Str} (hC : ∀ C ∈ Cs, Cls K C ∧ NoAttr K C f) (ha : ERd K W io m1 d1 ta da) : ERd K W io m1 d1 (tFld K ta f) (dFld Cs f da) := fun ρ ts σ H Q S h => by
  refine ha ρ ts σ H _ S ?_
  unfold dFld at h
  cases ea : da (T.ers ts) with
  | no => rw [ea] at h; exact h
  | ex c fs s => rw [ea] at h; exact h
  | ok q =>
    obtain ⟨x, s⟩ := q
    rw [ea] at h
    intro ts1 t1 H1 S1 e1 et1 ok1 mr1 st1 pu1
    simp only [R.bind] at h
    cases ef : fldD Cs f x with
    | none => rw [ef] at h; exact h.elim
    | some d =>
      rw [ef] at h
      simp only at h
      unfold fldD at ef
      split at ef
      · rename_i C fs xs ei
        split at ef
        · rename_i hc
          have hc : C ∈ Cs := by simpa using hc
          cases ex : fIx f fs with
          | none => rw [ex] at ef; cases ef
          | some i =>
            rw [ex] at ef
            simp only at ef
            obtain ⟨a, k, us, dx, rfl, eu, ha, hl⟩ := inst_of ok1 (by rw [et1]; exact ei)
            rw [← eu] at ef
            obtain ⟨u, eu1, eu2, eu3⟩ := rts_get ef
            have mu := List.mem_of_getElem? eu1
            exact ⟨a, C, dx, _, u.rt, rfl, ha, (hC C hc).1, (hC C hc).2, by rw [lookup_zip fs _ f i ex]; exact eu3, h ts1 u H1 S1 e1 eu2 (ok1.child mu) (mr1.child mu) (st1.child mu) pu1⟩
        · cases ef
      · cases ef
end
/-! ### methods of an instance -/
def chkM (C : Addr) (m : Str) (x : D) : Bool := match x.inst with
  | some (C', fs, _) => C' == C && (fIx m fs).isNone
  | none => false
theorem chkM_of {K : PySem.W.Frag} {C : Addr} {m : Str} (H : Hp) (t : T) (ok : t.ok K H) (h : chkM C m t.er = true) : ∃ a dx fs, t.rt = .ref a ∧ H a = some (.ins C dx fs) ∧ fs.lookup m = none := by
  unfold chkM at h
  split at h
  · rename_i C' fs xs ei
    rw [Bool.and_eq_true] at h
    obtain ⟨a, k, us, dx, rfl, eu, ha, hl⟩ := inst_of ok ei
    have hC : C' = C := beq_iff_eq.mp h.1
    subst hC
    exact ⟨a, dx, _, rfl, ha, lookup_zipN _ _ _ (by simpa using h.2)⟩
  · cases h
theorem tMeth_eq {C : Addr} {m : Str} {sp : Sp} {E : XK} {ta : TE} {t : TA} : tMeth C m sp [] E ta t = tCallSD sp [] (fun _ => E) (tConsC (fun v H => ∃ a dx fs, v = .ref a ∧ H a = some (.ins C dx fs) ∧ fs.lookup m = none) ta t) := by
  funext σ H Q
  show ta σ H _ = ta σ H _
  congr 1
  funext x H1
  exact propext ⟨fun ⟨a, dx, fs, h1, h2, h3, h4⟩ => ⟨⟨a, dx, fs, h1, h2, h3⟩, h4⟩, fun ⟨⟨a, dx, fs, h1, h2, h3⟩, h4⟩ => ⟨a, dx, fs, h1, h2, h3, h4⟩⟩
section
variable {X : Cx} {W : WX} {io : List Nat} {CX : CXT} {k : Nat} {C f : Addr} {fd : FuncData} {ps : List Str} {x m fname : Str} {p pos apos : Pos} {o e : Expr} {es : List Expr} {ks : List AK} {m1 : Md} {d1 md : List Nat} {ta : TE} {t : TA} {da : E} {dc : EC} {F : FD} {pl : Sem Bool}
theorem de_fld {Cs : List Addr} (hC : ∀ C ∈ Cs, Cls X.K C ∧ NoAttr X.K C fname) (he : DE X W io m1 d1 o ta da) (hb : attributeBase o fname X.env (eval o X.env) = eval o X.env := by rfl) : DE X W io m1 d1 (.Attribute o fname pos) (tFld X.K ta fname) (dFld Cs fname da) := ⟨pe_fld he.pe hb, erd_fld hC he.rd⟩
theorem de_meth (c : Cls X.K C) (hm : Meth X.K C m f) (FN : FnOk X.prog X.w X.K X.mg X.base CX0 k f fd ps (spOf X.K (.val :: ks.map AK.pm) F)) (hr : Room k X.A) (hb : Binds X.K fd ps []) (he : DE X W0 io m1 d1 o ta da) (hc : DC X W0 io ks md (e :: es) t dc)
    (hn : (ixs ks).Nodup := by decide) (hmv : ((ixs ks).all fun i => !io.contains i || (ioIx ks).contains i) = true := by rfl)
    (hst : starEach (e :: es) X.env = (false, eval e X.env) :: starEach es X.env := by rfl) (hpl : (backTo pos (starEach es X.env)).any (·.1) = false := by rfl)
    (ht : eval (.Call (.Attribute o m apos) (e :: es) [] pos) X.env = (do
      let ov ← eval o X.env
      standAt apos.atName
      let (f, first) ← holding [ov] (getMethod ov m pl)
      callWith pos f first (backTo pos (starEach (e :: es) X.env)) (backToKw pos (keywordEach [] X.env))) := by rfl) :
    DE X W0 io .tmp ((d1 ++ md) ++ ixs ks) (.Call (.Attribute o m apos) (e :: es) [] pos) (tMeth C m (spOf X.K (.val :: ks.map AK.pm) F) [] (fun _ _ _ => False) ta t) (dCall F (.val m1 :: ks) (dCvalC (chkM C m) m1 md da dc)) :=
  ⟨pe_meth he.pe c hm FN hr hb .nil pass0 hc.pa hst hpl ht, by
    rw [tMeth_eq]
    exact erd_call (ks := .val m1 :: ks) (crd_valC he.rd hc.rd (fun H t ok h => chkM_of H t ok h)) (fun _ _ _ _ h => h.elim) hn hmv⟩
theorem de_meth0 (c : Cls X.K C) (hm : Meth X.K C m f) (FN : FnOk X.prog X.w X.K X.mg X.base CX0 k f fd ps (spOf X.K [.val] F)) (hr : Room k X.A) (hb : Binds X.K fd ps []) (he : DE X W0 io m1 d1 o ta da)
    (ht : eval (.Call (.Attribute o m apos) [] [] pos) X.env = (do
      let ov ← eval o X.env
      standAt apos.atName
      let (f, first) ← holding [ov] (getMethod ov m pl)
      callWith pos f first (backTo pos (starEach [] X.env)) (backToKw pos (keywordEach [] X.env))) := by rfl) :
    DE X W0 io .tmp ((d1 ++ []) ++ ixs []) (.Call (.Attribute o m apos) [] [] pos) (tMeth C m (spOf X.K [.val] F) [] (fun _ _ _ => False) ta tNil) (dCall F [.val m1] (dCvalC (chkM C m) m1 [] da dCnil)) :=
  ⟨pe_meth0 he.pe c hm FN hr hb .nil pass0 ht, by
    rw [tMeth_eq]
    exact erd_call (ks := [.val m1]) (crd_valC he.rd crd_nil (fun H t ok h => chkM_of H t ok h)) (fun _ _ _ _ h => h.elim) List.nodup_nil (by rfl)⟩
end
/-! ### a constant of a class, a static method -/
structure SMet (K : PySem.W.Frag) (C : Addr) (mc : Value) (m : Str) (p g : Addr) : Prop where
  at_ : PySem.W.findCls K (.ref C) mc m = some (.get (.builtin "staticmethod.__get__") (.ref p) .none (.ref C))
  rc : ∃ rest, PySem.W.recIn K p "staticmethod" = some (.ref g :: rest)
  kp : PySem.W.keepIn K (.ref g) = true
/-- o.m(..), o the class at C -/
def tSMeth (C : Addr) (sp : Sp) (E : XK) (ta : TE) (t : TA) : TE := fun σ H Q => ta σ H fun x H1 => x = .ref C ∧ t σ H1 fun vs H2 => sp (vs ++ []) H2 Q E
section
variable {X : Cx} {W : WX} {io : List Nat} {CX : CXT} {k : Nat} {C g q : Addr} {mc : Value} {fd : FuncData} {ps : List Str} {x m fname : Str} {p pos apos : Pos} {o e : Expr} {es : List Expr} {ks : List AK} {m1 : Md} {d1 md : List Nat} {ta : TE} {t : TA} {da : E} {dc' : EC} {F : FD} {pl : Sem Bool} {sp : Sp} {E : XK} {v : V} {u : Value}
theorem pe_smeth (he : PE X o ta) (r : ClX.CRead X.K C mc) (c : SMet X.K C mc m q g) (F : FnOk X.prog X.w X.K X.mg X.base CX k g fd ps sp) (hr : Room k X.A) (hb : Binds X.K fd ps []) (hx : Passes CX X E) (ha : PA X (e :: es) t)
    (hst : starEach (e :: es) X.env = (false, eval e X.env) :: starEach es X.env := by rfl) (hpl : (backTo pos (starEach es X.env)).any (·.1) = false := by rfl)
    (ht : eval (.Call (.Attribute o m apos) (e :: es) [] pos) X.env = (do
      let ov ← eval o X.env
      standAt apos.atName
      let (f, first) ← holding [ov] (getMethod ov m pl)
      callWith pos f first (backTo pos (starEach (e :: es) X.env)) (backToKw pos (keywordEach [] X.env))) := by rfl) :
    PE X (.Call (.Attribute o m apos) (e :: es) [] pos) (tSMeth C sp E ta t) := by
  refine ⟨fun pins s σ H Q I h => ?_⟩
  refine PySem.W.methodCall_KW (pl := pl) (thn (he.run pins s σ H _ I h) fun u s1 ⟨x, H1, I1, rx, ex, q⟩ => ?_) ht
  subst ex
  obtain rfl : u = Value.ref C := rx
  obtain ⟨rest, hp⟩ := c.rc
  refine PySem.W.method_cls I1.kIn r.ga (PySem.W.cls_bind I1.kIn r.rd c.at_ (wpAny_call (PySem.W.sm_get (s := { s1 with toks := s1.toks + 1 }) I1.kIn hp (PySem.W.handed_on rfl ?_))))
  refine PySem.W.callWith_K (first := []) (h₀ := X.base) I1.ok.mod.kin c.kp (thn (ha.run pos pins _ σ H1 _ (I1.tok (s1.toks + 1)) q) fun us s2 ⟨vs, H2, I2, r, q2⟩ => ⟨I2.kIn, ?_⟩) hst hpl
  exact run_fn F hr hb .nil hx I2 r q2
theorem de_smeth (hcls : PE X o (tC (.ref C))) (r : ClX.CRead X.K C mc) (c : SMet X.K C mc m q g) (FN : FnOk X.prog X.w X.K X.mg X.base CX0 k g fd ps (spOf X.K (ks.map AK.pm) F)) (hr : Room k X.A) (hb : Binds X.K fd ps []) (hc : DC X W0 io ks md (e :: es) t dc')
    (hn : (ixs ks).Nodup := by decide) (hmv : ((ixs ks).all fun i => !io.contains i || (ioIx ks).contains i) = true := by rfl)
    (hst : starEach (e :: es) X.env = (false, eval e X.env) :: starEach es X.env := by rfl) (hpl : (backTo pos (starEach es X.env)).any (·.1) = false := by rfl)
    (ht : eval (.Call (.Attribute o m apos) (e :: es) [] pos) X.env = (do
      let ov ← eval o X.env
      standAt apos.atName
      let (f, first) ← holding [ov] (getMethod ov m pl)
      callWith pos f first (backTo pos (starEach (e :: es) X.env)) (backToKw pos (keywordEach [] X.env))) := by rfl) :
    DE X W0 io .tmp (md ++ ixs ks) (.Call (.Attribute o m apos) (e :: es) [] pos) (tSMeth C (spOf X.K (ks.map AK.pm) F) (fun _ _ _ => False) (tC (.ref C)) t) (dCall F ks dc') :=
  ⟨pe_smeth hcls r c FN hr hb pass0 hc.pa hst hpl ht, fun ρ ts σ H Q S h => ⟨rfl, erd_call (Ef := fun _ _ _ _ => False) hc.rd (fun _ _ _ _ h => h.elim) hn hmv ρ ts σ H Q S h⟩⟩
theorem de_cval (hcls : PE X o (tC (.ref C))) (r : ClX.CRead X.K C mc) (c : ClX.CVal X.K C mc fname v u) (hb : attributeBase o fname X.env (eval o X.env) = eval o X.env := by rfl) : DE X W io .tmp [] (.Attribute o fname pos) (ClX.tCVal X.K (tC (.ref C)) fname) (dc v) :=
  ⟨ClX.pe_cval hcls hb, fun ρ ts σ H Q S h => ⟨C, mc, v, u, rfl, r, c, rd_c S h⟩⟩
end
/-! ### o.f = e, o a slot's own object -/
def putFD (f : Str) (y : D) : List Str → List D → List Str × List D
  | g :: r, x :: xs => if g = f then (g :: r, y :: xs) else (g :: (putFD f y r xs).1, x :: (putFD f y r xs).2)
  | _, _ => ([f], [y])
def putFT (f : Str) (y : T) : List Str → List T → List Str × List T
  | g :: r, x :: xs => if g = f then (g :: r, y :: xs) else (g :: (putFT f y r xs).1, x :: (putFT f y r xs).2)
  | _, _ => ([f], [y])
theorem putFT_er (f : Str) (y : T) : ∀ (fs : List Str) (us : List T), (putFT f y fs us).1 = (putFD f y.er fs (T.ers us)).1 ∧ T.ers (putFT f y fs us).2 = (putFD f y.er fs (T.ers us)).2
  | [], [] => ⟨rfl, rfl⟩
  | [], _ :: _ => ⟨rfl, rfl⟩
  | _ :: _, [] => ⟨rfl, rfl⟩
  | g :: r, x :: xs => by
    have ih := putFT_er f y r xs
    unfold putFT putFD
    rw [T.ers]
    by_cases h : g = f
    · rw [if_pos h]; simp only [h, if_true, T.ers]; exact ⟨trivial, trivial⟩
    · rw [if_neg h]; simp only [h, if_false, T.ers, ih.1, ih.2]; exact ⟨trivial, trivial⟩
theorem putFT_rt (f : Str) (y : T) : ∀ (fs : List Str) (us : List T), fs.length = us.length → (putFT f y fs us).1.zip (T.rts (putFT f y fs us).2) = putF f y.rt (fs.zip (T.rts us)) ∧ (putFT f y fs us).1.length = (putFT f y fs us).2.length
  | [], [], _ => ⟨rfl, rfl⟩
  | [], _ :: _, h => by cases h
  | _ :: _, [], h => by cases h
  | g :: r, x :: xs, h => by
    have ih := putFT_rt f y r xs (Nat.succ.inj h)
    unfold putFT
    rw [T.rts, List.zip_cons_cons, putF]
    by_cases hg : g = f
    · rw [if_pos hg, if_pos hg]; exact ⟨by rw [T.rts, List.zip_cons_cons], h⟩
    · rw [if_neg hg, if_neg hg]; exact ⟨by rw [T.rts, List.zip_cons_cons, ih.1], by rw [List.length_cons, List.length_cons, ih.2]⟩
theorem putFT_mem {f : Str} {y : T} : ∀ {fs : List Str} {us : List T} {w : T}, w ∈ (putFT f y fs us).2 → w = y ∨ w ∈ us
  | [], us, w, h => by
    have : w ∈ [y] := by cases us <;> exact h
    exact .inl (by simpa using this)
  | g :: r, [], w, h => .inl (by simpa using (show w ∈ [y] from h))
  | g :: r, x :: xs, w, h => by
    unfold putFT at h
    by_cases hg : g = f
    · rw [if_pos hg] at h
      rcases List.mem_cons.mp h with e | h
      · exact .inl e
      · exact .inr (List.mem_cons_of_mem _ h)
    · rw [if_neg hg] at h
      rcases List.mem_cons.mp h with e | h
      · exact .inr (by rw [e]; exact List.mem_cons_self)
      · exact (putFT_mem h).imp id (List.mem_cons_of_mem _)
theorem putFT_wf {f : Str} {y : T} : ∀ {fs : List Str} {us : List T}, WF us → y.good → (∀ u ∈ us, Dj y u) → WF (putFT f y fs us).2
  | [], us, wf, g, d => by
    have : WF [y] := .cons g (fun _ m => nomatch m) .nil
    cases us <;> exact this
  | _ :: r, [], wf, g, d => .cons g (fun _ m => nomatch m) .nil
  | h :: r, x :: xs, wf, g, d => by
    unfold putFT
    by_cases hg : h = f
    · rw [if_pos hg]; exact .cons g (fun u m => d u (List.mem_cons_of_mem _ m)) wf.head.2.2
    · rw [if_neg hg]
      refine .cons wf.head.1 (fun u m => ?_) (putFT_wf wf.head.2.2 g fun u m => d u (List.mem_cons_of_mem _ m))
      rcases putFT_mem m with rfl | m
      · exact (d x List.mem_cons_self).symm
      · exact wf.head.2.1 u m
def objAt (i : Nat) (p : List Nat) (s : List D) : Option (Addr × List Str × List D) := match s[i]? with
  | none => none
  | some t => match D.at p t with
    | some (.nd (.obj true C fs) xs) => some (C, fs, xs)
    | _ => none
def sFldD (i : Nat) (Cs : List Addr) (f : Str) (m : Md) (de : E) (dp : EP') : S := fun s => match de s with
  | .no => .no
  | .ex c fs s => .ex c fs s
  | .ok q => if (m.isTmp || !q.1.hasOwn) = true then (match dp q.2 with
    | .no => .no
    | .ex c fs s => .ex c fs s
    | .ok r => match objAt i r.1 r.2 with
      | none => .no
      | some (C, fs, xs) => if (Cs.contains C && decide (fs.length < 1000)) = true then .nx (putAt i r.1 (.nd (.obj true C (putFD f q.1 fs xs).1) (putFD f q.1 fs xs).2) r.2) else .no) else .no
section
variable {K : PySem.W.Frag} {W : WX} {io : List Nat}
theorem srd_fld {i : Nat} {Cs : List Addr} {f : Str} {m : Md} {d0 d1 : List Nat} {te to : TE} {de : E} {dp : EP'} (hC : ∀ C ∈ Cs, Cls K C ∧ NoAttr K C f) (he : ERd K W io m d0 te de) (hp : PlRd K W io i d1 to dp) :
    SRd K W io (d0 ++ (d1 ++ [i])) (sFld K to te f) (sFldD i Cs f m de dp) := fun ρ ts σ H Z S h => by
  refine he ρ ts σ H _ S ?_
  unfold sFldD at h
  cases ee : de (T.ers ts) with
  | no => rw [ee] at h; exact h
  | ex c fs s => rw [ee] at h; exact fun ts1 H1 d S1 e1 st1 x => h ts1 σ H1 d S1 e1 st1 x
  | ok q =>
    obtain ⟨y0, s1⟩ := q
    rw [ee] at h
    intro ts1 y H1 S1 e1 ey oky mry st1 pu1
    by_cases hc : (m.isTmp || !y0.hasOwn) = true
    · simp only [hc, if_true] at h
      have try1 : TRel y ts1 := by
        cases m with
        | tmp => exact mry
        | vw src =>
          have : y0.hasOwn = false := by cases z : y0.hasOwn with | false => rfl | true => rw [z] at hc; cases hc
          exact mry.tmp S1.wf (T.own_nil (by rw [ey]; exact this))
      refine hp ρ ts1 σ H1 _ S1 ?_
      rw [e1]
      cases ea : dp s1 with
      | no => rw [ea] at h; exact h
      | ex c fs s => rw [ea] at h; exact fun ts2 H2 d S2 e2 st2 x => h ts2 σ H2 d S2 e2 (st1.tail.trans st2) x
      | ok r =>
        obtain ⟨p, s2⟩ := r
        rw [ea] at h
        intro ts2 H2 tr n S2 e2 ei en st2 pu2
        simp only at h
        have mi2 := List.mem_of_getElem? ei
        have es : s2[i]? = some tr.er := by rw [← e2, T.ers_map, List.getElem?_map, ei]; rfl
        unfold objAt at h
        rw [es] at h
        simp only at h
        cases ed : D.at p tr.er with
        | none => rw [ed] at h; exact h.elim
        | some dn =>
          obtain ⟨n', hn1, hn2⟩ := at_er p tr dn ed
          rw [en] at hn1; cases hn1
          rw [ed] at h
          split at h
          · exact h.elim
          · rename_i C fs xs eo
            split at eo
            · rename_i C1 fs1 xs1 eq1
              cases eq1
              cases eo
              split at h
              · rename_i hcond
                rw [Bool.and_eq_true] at hcond
                have hCm : C ∈ Cs := by simpa using hcond.1
                have hlen := of_decide_eq_true hcond.2
                obtain ⟨a, us, rfl, eu⟩ := er_nd hn2
                have sbn := at_sbt p tr _ en
                have okn := sbn.ok (S2.ok tr mi2)
                have gn := sbn.good (S2.wf.mem mi2)
                obtain ⟨dx, ha, hl⟩ := okn.node
                rw [rts_len] at hl
                have oky2 : y.ok K H2 := keepT oky S1.ok st2 fun u mu b mb => (try1.2 u mu).2 b mb
                have try2 : TRel y ts2 := ⟨try1.1, djStep oky try1.2 st2⟩
                have an : a ∈ (T.nd a (.obj true C fs) us).own := T.mem_col.mpr (.inl ⟨rfl, rfl⟩)
                rw [T.good] at gn
                have dyn : Dj y (.nd a (.obj true C fs) us) := by
                  have d := try2.2 tr mi2
                  exact ⟨fun z mz q => d.1 z mz (sbn.col q), fun z mz q => d.2 z (sbn.col mz) q⟩
                have upn : ∀ {q : NK → Bool} {z : Addr} {w : T}, w ∈ us → z ∈ w.col q → z ∈ (T.nd a (.obj true C fs) us).col q := fun mw mz => T.mem_col.mpr (.inr ⟨_, mw, mz⟩)
                generalize hus' : (putFT f y fs us).2 = us'
                generalize hfs' : (putFT f y fs us).1 = fs'
                have memu : ∀ w ∈ us', w = y ∨ w ∈ us := fun w mw => by rw [← hus'] at mw; exact putFT_mem mw
                have hz := putFT_rt f y fs us hl
                rw [hus', hfs'] at hz
                have na : ∀ w ∈ us', a ∉ w.trk := fun w mw z => by
                  rcases memu w mw with rfl | mw
                  · exact dyn.2 a an z
                  · exact gn.1 rfl (T.mem_cols.mpr ⟨w, mw, z⟩)
                have okn3 : (T.nd a (.obj true C fs') us').ok K (upd H2 a (.ins C dx (putF f y.rt (fs.zip (T.rts us))))) := by
                  rw [T.ok]
                  refine ⟨⟨dx, by rw [upd_same, hz.1], by rw [rts_len]; exact hz.2⟩, T.oks_all.mpr fun w mw => keep_updA ?_ ha rfl (na w mw)⟩
                  rcases memu w mw with rfl | mw
                  · exact oky2
                  · exact okn.child mw
                have wf' : WF us' := by
                  rw [← hus']
                  exact putFT_wf gn.2.2 try2.1 fun u mu => ⟨fun z mz q => dyn.1 z mz (upn mu q), fun z mz q => dyn.2 z (upn mu mz) q⟩
                have gn3 : (T.nd a (.obj true C fs') us').good := by
                  rw [T.good]
                  refine ⟨fun _ m => ?_, fun _ m => ?_, wf'⟩
                  · obtain ⟨w, mw, mz⟩ := T.mem_cols.mp m
                    exact na w mw mz
                  · obtain ⟨w, mw, mz⟩ := T.mem_cols.mp m
                    exact na w mw (T.own_trk mz)
                have fr3 : Frm (.nd a (.obj true C fs') us') (.nd a (.obj true C fs) us) [y] := by
                  have go : ∀ {q : NK → Bool}, (∀ C fs fs', q (.obj true C fs) = q (.obj true C fs')) → ∀ z ∈ (T.nd a (.obj true C fs') us').col q, z ∈ (T.nd a (.obj true C fs) us).col q ∨ ∃ y' ∈ [y], z ∈ y'.col q := fun hq z mz => by
                    rcases T.mem_col.mp mz with ⟨m1, m2⟩ | ⟨w, mw, m⟩
                    · exact .inl (T.mem_col.mpr (.inl ⟨by rw [hq C fs fs']; exact m1, m2⟩))
                    · rcases memu w mw with rfl | mw
                      · exact .inr ⟨w, by simp, m⟩
                      · exact .inl (upn mw m)
                  exact ⟨fun z => go (fun _ _ _ => rfl) z, fun z => go (fun _ _ _ => rfl) z, fun z => go (fun _ _ _ => rfl) z⟩
                obtain ⟨S4, st4, _⟩ := mut_fin S2 ei en ha rfl rfl okn3 gn3 fr3 (fun y' my => by
                  have : y' = y := by simpa using my
                  subst this; exact try2)
                refine ⟨a, C, dx, _, rfl, ha, (hC C hCm).1, (hC C hCm).2, ?_, ?_⟩
                · rw [List.length_zip, rts_len]; omega
                · have stA : Step H ts H2 ([y] ++ ts2) := by
                    have q := st1.tail.trans st2
                    exact q.cons (st1.ow y List.mem_cons_self) (st1.tr y List.mem_cons_self) (st1.im y List.mem_cons_self)
                  refine h _ σ _ S4 ?_ ((st4 stA (fun y' my => my) fun _ _ => trivial).sub fun w mw => List.mem_append_right _ mw) fun k hk => ?_
                  · have hp1 := putFT_er f y fs us
                    rw [hus', hfs', eu, ey] at hp1
                    rw [putAt_of ei, T.er, hp1.1, hp1.2, e2]
                  · rw [List.mem_append, List.mem_append, not_or, not_or] at hk
                    rw [List.getElem?_set_ne (fun z => hk.2.2 (by rw [z]; simp)), pu2 k hk.2.1, pu1 k hk.1]
              · exact h.elim
            · cases eo
    · simp only [hc] at h
      exact h.elim
end
theorem ds_fld {X : Cx} {W : WX} {io : List Nat} {i : Nat} {Cs : List Addr} {f : Str} {m : Md} {d0 d1 : List Nat} {te to : TE} {de : E} {dp : EP'} {o value : Expr} {pos pos' : Pos} (hC : ∀ C ∈ Cs, Cls X.K C ∧ NoAttr X.K C f) (he : DE X W io m d0 value te de) (hp : DP X W io i d1 o to dp)
    (hs : swapsWith value (some (.Attribute o f pos')) pos.line X.env = pure false := by rfl) : DS X W io (d0 ++ (d1 ++ [i])) (.Assign [.Attribute o f pos'] value pos) (sFld X.K to te f) (sFldD i Cs f m de dp) := ⟨ps_fld hp.pe he.pe hs, srd_fld hC he.rd hp.rd⟩
end VS

namespace VS
open PySem PySem.Spec PyProof.Rows L2

/-! ### a new instance -/
def convD (imm : Bool) : D → Option D
  | .nd (.obj true C fs) xs => if imm = true then (if D.hass NK.isOwn xs = false then some (.nd (.ins C fs) xs) else none) else some (.nd (.obj true C fs) xs)
  | _ => none
/-- the same thing, seen as one that is not changed -/
theorem conv_ok {K : PySem.W.Frag} {H : Hp} {imm : Bool} {u : T} {d : D} (ok : u.ok K H) (g : u.good) (h : convD imm u.er = some d) :
    ∃ t : T, t.er = d ∧ t.rt = u.rt ∧ t.ok K H ∧ t.good ∧ (∀ a ∈ t.own, a ∈ u.own) ∧ (∀ a ∈ t.trk, a ∈ u.trk) ∧ (∀ a ∈ t.imm, a ∈ u.imm ∨ u.rt = .ref a) := by
  unfold convD at h
  split at h
  · rename_i C fs xs e
    obtain ⟨a, us, rfl, e2⟩ := er_nd e
    split at h
    · split at h
      · rename_i ho
        cases h
        have own0 : T.cols NK.isOwn us = [] := (T.hass_er us).mp (by rw [e2]; exact ho)
        refine ⟨.nd a (.ins C fs) us, by rw [T.er, e2], rfl, ?_, ?_, fun z mz => ?_, fun z mz => ?_, fun z mz => ?_⟩
        · rw [T.ok] at ok ⊢; exact ok
        · rw [T.good]
          exact ⟨fun z => (by cases z), fun _ m => (by rw [own0] at m; cases m), T.goods_of own0⟩
        · rcases T.mem_col.mp mz with ⟨q, _⟩ | q
          · cases q
          · exact T.mem_col.mpr (.inr q)
        · rcases T.mem_col.mp mz with ⟨_, q⟩ | q
          · exact T.mem_col.mpr (.inl ⟨rfl, q⟩)
          · exact T.mem_col.mpr (.inr q)
        · rcases T.mem_col.mp mz with ⟨_, q⟩ | q
          · exact .inr (by rw [q]; rfl)
          · exact .inl (T.mem_col.mpr (.inr q))
      · cases h
    · cases h
      exact ⟨_, by rw [T.er, e2], rfl, ok, g, fun _ m => m, fun _ m => m, fun _ m => .inl m⟩
  · cases h
def dMake (imm : Bool) (C : Addr) (F : FD) (ks : List AK) (dc : EC) : E := fun s => (dc s).bind fun q => match asmD ks q.1 q.2 with
  | none => .no
  | some args => if (valOk (ixs ks) ks q.1 && args.all fun x => !x.isUn) = true then (match F (.nd (.obj true C []) [] :: args) with
      | .ok (r, x :: os) => match r with
        | .v .non => match convD imm x with
          | some y => if (valFree ks q.1 || (!y.hasShr && !x.hasShr && !D.hass NK.isShr os)) = true then .ok (y, putD ks os q.2) else .no
          | none => .no
        | _ => .no
      | .ex c fs (x :: os) => if (valFree ks q.1 || !D.hass NK.isShr os) = true then .ex c fs (putD ks os q.2) else .no
      | _ => .no)
    else .no
theorem erd_makeS {K : PySem.W.Frag} {W : WX} {io : List Nat} {ks : List AK} {md : List Nat} {t : TA} {dc : EC} {F : FD} {Es : L2.St → XK} {imm : Bool} {C : Addr} (hc : CRd K W io ks md t dc) (hE : ∀ σ c d H', W c d σ H' → Es σ c d H') (hn : (ixs ks).Nodup)
    (hmv : ((ixs ks).all fun i => !io.contains i || (ioIx ks).contains i) = true) : ERd K W io .tmp (md ++ ixs ks) (fun σ H Q => tMake C (spOf K (.io :: ks.map AK.pm) F) [] (Es σ) t σ H Q) (dMake imm C F ks dc) := fun ρ ts σ H Q S h => by
  refine hc ρ ts σ H _ S ?_
  unfold dMake at h
  cases ea : dc (T.ers ts) with
  | no => rw [ea] at h; exact h
  | ex c fs s => rw [ea] at h; exact h
  | ok q =>
    obtain ⟨xs, s⟩ := q
    rw [ea] at h
    simp only [R.bind] at h
    intro ts1 us vs H1 S1 e1 eus ok1 cr st1 pu1 x dx hx hdx hne
    rw [List.append_nil]
    cases em : asmD ks xs s with
    | none => rw [em] at h; exact h.elim
    | some args =>
      rw [em] at h
      simp only at h
      by_cases hk : (valOk (ixs ks) ks xs && args.all fun x => !x.isUn) = true
      · rw [if_pos hk] at h
        rw [Bool.and_eq_true] at hk
        obtain ⟨cs, c1, c2, c3, c4, c5, c6⟩ := asm_ok S1 ks us vs args (ixs ks) cr (by rw [eus, e1]; exact em) (fun _ m => m) (by rw [eus]; exact hk.1) hn
        have okc1 : ∀ c ∈ cs, c.ok K H1 := fun c mc => arg_ok S1 ok1 (c3 c mc)
        generalize hH2 : upd (upd H1 dx (.own x)) x (.ins C dx []) = H2
        have hx1 : upd H1 dx (.own x) x = none := by rw [upd_ne (Ne.symm hne)]; exact hx
        have sm : Same H1 H2 := by
          rw [← hH2]
          exact fun b o e => same_upd hx1 b o (same_upd hdx b o e)
        have hx2 : H2 x = some (.ins C dx []) := by rw [← hH2, upd_same]
        have bck : ∀ b, H2 b = none → H1 b = none := fun b h => sm.free h
        have nxc : ∀ c ∈ cs, x ∉ c.trk := fun c mc z => by
          obtain ⟨o, e⟩ := T.trk_s (okc1 c mc) z
          rw [hx] at e; cases e
        have self0 : ∀ {p : NK → Bool} {a : Addr}, a ∈ (T.nd x (.obj true C []) []).col p → a = x := fun m => by
          rcases T.mem_col.mp m with ⟨_, e⟩ | ⟨c, mc, _⟩
          · exact e
          · cases mc
        have selfi : (T.nd x (.obj true C []) []).imm = [] := by
          show T.col NK.isImm _ = []
          rw [T.col]; rfl
        refine ⟨.nd x (.obj true C []) [] :: cs, by rw [T.rts, c2]; rfl, fun c mc => ?_, ?_, by rw [List.length_cons, List.length_cons, c5, List.length_map], fun i c e1 e2 => ?_, fun c mc => ?_, ?_⟩
        · rcases List.mem_cons.mp mc with rfl | mc
          · rw [T.ok]; exact ⟨⟨dx, hx2, rfl⟩, trivial⟩
          · exact T.ok_same (okc1 c mc) sm
        · refine .cons ?_ (fun u mu => ⟨fun a ma => by rw [self0 ma]; exact nxc u mu, fun a ma z => nxc u mu (by rw [← self0 z]; exact T.own_trk ma)⟩) c4
          rw [T.good]
          exact ⟨fun _ m => (nomatch m), fun _ m => (nomatch m), WF.nil⟩
        · cases i with
          | zero => cases e2
          | succ i => exact c6 i c (by simpa using e1) (by simpa using e2)
        · rcases List.mem_cons.mp mc with rfl | mc
          · exact fun z => nomatch z
          · refine isUn_er ?_
            have := List.all_eq_true.mp hk.2 c.er (by rw [← c1, T.ers_map]; exact List.mem_map.mpr ⟨c, mc, rfl⟩)
            simpa using this
        · have big : ∀ {H' : Hp} {B : List T}, Step H2 (.nd x (.obj true C []) [] :: cs) H' B → Step H1 cs H' B := fun {H' B} st => by
            refine ⟨fun b o e n => st.fr b o (sm b o e) fun u mu z => ?_, fun b e => bck b (st.al b e), fun u mu a ma => ?_, fun u mu a ma => ?_, fun u mu a ma => ?_⟩
            · rcases List.mem_cons.mp mu with rfl | mu
              · rw [self0 z, hx] at e; cases e
              · exact n u mu z
            · rcases st.ow u mu a ma with ⟨w, mw, zw⟩ | q
              · rcases List.mem_cons.mp mw with rfl | mw
                · exact .inr (by rw [self0 zw]; exact hx)
                · exact .inl ⟨w, mw, zw⟩
              · exact .inr (bck a q)
            · rcases st.tr u mu a ma with ⟨w, mw, zw⟩ | q
              · rcases List.mem_cons.mp mw with rfl | mw
                · exact .inr (by rw [self0 zw]; exact hx)
                · exact .inl ⟨w, mw, zw⟩
              · exact .inr (bck a q)
            · rcases st.im u mu a ma with ⟨w, mw, zw⟩ | q
              · rcases List.mem_cons.mp mw with rfl | mw
                · rw [selfi] at zw; cases zw
                · exact .inl ⟨w, mw, zw⟩
              · exact .inr (bck a q)
          show FPost K _ _ _ H2 _ (Es σ) (F (T.er (T.nd x (.obj true C []) []) :: T.ers cs))
          rw [c1, show T.er (T.nd x (.obj true C []) []) = .nd (.obj true C []) [] from rfl]
          cases ef : F (.nd (.obj true C []) [] :: args) with
          | no => rw [ef] at h; exact h
          | ok r =>
            obtain ⟨rv, os⟩ := r
            rw [ef] at h
            cases os with
            | nil => exact h.elim
            | cons x0 os =>
              simp only at h
              split at h
              · split at h
                · rename_i y ey
                  split at h
                  · rename_i hz
                    intro t' us' H' et eu hr nu okt oku wf st
                    have := er_v et; subst this
                    obtain ⟨u, w, rfl, eu1, eu2⟩ := ers_cons eu
                    have hrr : u.rt = .ref x ∧ T.rts w = iov (ks.map AK.pm) vs := by
                      have : T.rts (u :: w) = V.ref x :: iov (ks.map AK.pm) vs := hr
                      rw [T.rts] at this
                      injection this with a b
                      exact ⟨a, b⟩
                    have st' := big st
                    have oku' := oku u List.mem_cons_self
                    have wfu := wf.head.2.2
                    obtain ⟨tn, et2, rt2, okn, gn, own2, trk2, imm2⟩ := conv_ok oku' wfu.head.1 (by rw [eu1]; exact ey)
                    -- the step with the new view
                    have stn : Step H1 cs H' (tn :: w) := by
                      refine ((st'.sub (C := w) fun z mz => by simp [mz])).cons (fun a ma => st'.ow u (by simp) a (own2 a ma)) (fun a ma => st'.tr u (by simp) a (trk2 a ma)) (fun a ma => ?_)
                      rcases imm2 a ma with q | q
                      · exact st'.im u (by simp) a q
                      · rw [hrr.1] at q; cases q; exact .inr hx
                    have hf : valFree ks (oer us) = true ∨ ∀ b ∈ tn :: w, b.col NK.isShr = [] := by
                      rw [Bool.or_eq_true] at hz
                      rcases hz with z | z
                      · exact .inl (by rw [eus]; exact z)
                      · rw [Bool.and_eq_true, Bool.and_eq_true] at z
                        refine .inr fun b mb => ?_
                        rcases List.mem_cons.mp mb with rfl | mb
                        · exact shr_of (by rw [et2]; simpa using z.1.1)
                        · exact hass_shr (by rw [eu2]; simpa using z.2) b mb
                    obtain ⟨S2, st2, pu2, dj2⟩ := slots_after (B := tn :: w) S1 ok1 cr st1 pu1 hn hmv c3 okc1 hrr.2 (fun z mz => nu z (List.mem_cons_of_mem _ mz)) (fun z mz => oku z (List.mem_cons_of_mem _ mz)) (fun z m => List.mem_cons_of_mem _ m) wfu.head.2.2 stn hf
                    refine ⟨rfl, ?_⟩
                    rw [← hrr.1, ← rt2]
                    refine h _ tn H' S2 ?_ et2 okn ⟨gn, dj2 tn List.mem_cons_self fun z mz => ⟨fun a ma => (wfu.head.2.1 z mz).1 a (own2 a ma), fun a ma q => (wfu.head.2.1 z mz).2 a ma (trk2 a q)⟩⟩ (st2.sub fun z mz => ?_) pu2
                    · rw [ers_put, ers_wipe, e1, eu2]; rfl
                    · rcases List.mem_cons.mp mz with rfl | mz
                      · simp
                      · exact List.mem_append_right _ mz
                  · exact h.elim
                · exact h.elim
              · exact h.elim
          | ex c fs os =>
            rw [ef] at h
            cases os with
            | nil => exact h.elim
            | cons x0 os =>
              simp only at h
              split at h
              · rename_i hz
                intro us' H' d eu hr nu oku wf st xr
                obtain ⟨u, w, rfl, eu1, eu2⟩ := ers_cons eu
                have hrr : T.rts w = iov (ks.map AK.pm) vs := by
                  have : T.rts (u :: w) = V.ref x :: iov (ks.map AK.pm) vs := hr
                  rw [T.rts] at this
                  injection this with a b
                have st' : Step H1 cs H' w := (big st).sub fun z mz => List.mem_cons_of_mem _ mz
                have hf : valFree ks (oer us) = true ∨ ∀ b ∈ w, b.col NK.isShr = [] := by
                  rw [Bool.or_eq_true] at hz
                  rcases hz with z | z
                  · exact .inl (by rw [eus]; exact z)
                  · exact .inr fun b mb => hass_shr (by rw [eu2]; simpa using z) b mb
                obtain ⟨S2, st2, pu2, dj2⟩ := slots_after (B := w) S1 ok1 cr st1 pu1 hn hmv c3 okc1 hrr (fun z mz => nu z (List.mem_cons_of_mem _ mz)) (fun z mz => oku z (List.mem_cons_of_mem _ mz)) (fun z m => m) wf.head.2.2 st' hf
                exact hE σ c d H' (h _ H' d S2 (by rw [ers_put, ers_wipe, e1, eu2]; rfl) (st2.sub fun w mw => List.mem_append_right _ mw) xr)
              · exact h.elim
      · rw [if_neg hk] at h; exact h.elim
theorem erd_make {K : PySem.W.Frag} {W : WX} {io : List Nat} {ks : List AK} {md : List Nat} {t : TA} {dc : EC} {F : FD} {E : XK} {imm : Bool} {C : Addr} (hc : CRd K W io ks md t dc) (hE : ∀ σ c d H', W c d σ H' → E c d H') (hn : (ixs ks).Nodup)
    (hmv : ((ixs ks).all fun i => !io.contains i || (ioIx ks).contains i) = true) : ERd K W io .tmp (md ++ ixs ks) (tMake C (spOf K (.io :: ks.map AK.pm) F) [] E t) (dMake imm C F ks dc) := erd_makeS (Es := fun _ => E) hc hE hn hmv
section
variable {X : Cx} {W : WX} {io : List Nat} {CX : CXT} {k : Nat} {C f : Addr} {fd : FuncData} {ps : List Str} {x : Str} {p pos apos : Pos} {e : Expr} {es : List Expr} {ks : List AK} {md : List Nat} {t : TA} {dc : EC} {F : FD}
theorem de_make (imm : Bool) (M : Mk X.K C f) (FN : FnOk X.prog X.w X.K X.mg X.base CX0 k f fd ps (spOf X.K (.io :: ks.map AK.pm) F)) (hr : Room (k + 1) X.A) (hg : Gl X x) (hm : X.mg x = some (.ref C)) (hb : Binds X.K fd ps []) (hc : DC X W0 io ks md (e :: es) t dc)
    (hn : (ixs ks).Nodup := by decide) (hmv : ((ixs ks).all fun i => !io.contains i || (ioIx ks).contains i) = true := by rfl)
    (hdb : (x == ("__debug__" : Str)) = false := by decide) (he : starEach (e :: es) X.env = (false, eval e X.env) :: starEach es X.env := by rfl) (hpl : (backTo pos (starEach es X.env)).any (·.1) = false := by rfl) :
    DE X W0 io .tmp (md ++ ixs ks) (.Call (.Name x p) (e :: es) [] pos) (tMake C (spOf X.K (.io :: ks.map AK.pm) F) [] (fun _ _ _ => False) t) (dMake imm C F ks dc) :=
  ⟨pe_make M FN hr hg hm hb .nil pass0 hc.pa hdb he hpl, erd_make hc.rd (fun _ _ _ _ h => h.elim) hn hmv⟩
end
/-! ### isinstance -/
inductive TK where
  | b (n : String)
  | o (C : Addr)
  deriving DecidableEq
def TK.v : TK → Value
  | .b n => .type n
  | .o C => .ref C
def D.ty : D → Option TK
  | .un => none
  | .v .non => some (.b "NoneType")
  | .v (.bl _) => some (.b "bool")
  | .v (.int _) => some (.b "int")
  | .v (.str _) => some (.b "str")
  | .v _ => none
  | .nd .tup _ => some (.b "tuple")
  | .nd .scr _ => some (.b "list")
  | .nd (.lst _) _ => some (.b "list")
  | .nd (.dic _ _) _ => some (.b "dict")
  | .nd (.dit _ _) _ => some (.b "dict")
  | .nd (.ins C _) _ => some (.o C)
  | .nd (.obj _ C _) _ => some (.o C)
/-- what an own class needs to be told -/
structure InsTy (K : PySem.W.Frag) (C : Addr) : Prop where
  cl : Cls K C
  ha : PySem.W.findIn K (.ref C) "__class__" = some (some (.builtin "object.__class__"))
  hn : PySem.W.specialIn K (.builtin "object.__class__") "__get__" = some (some (.builtin "getset_descriptor.__get__"))
  htk : PySem.W.takesIn K (.builtin "object.__class__") = some true
  hm : PySem.W.mroIn K C (.type "object") = some true
/-- a type, a tuple's too -/
def TyY (K : PySem.W.Frag) (H : Hp) (x : V) (v : Value) : Prop := TyX K H x v ∨ (v = .type "tuple" ∧ ∃ a xs, x = .ref a ∧ SqT K H a xs)
/-- a value's type, told by its tree -/
theorem ty_of {K : PySem.W.Frag} {H : Hp} {Cs : List Addr} (hC : ∀ C ∈ Cs, InsTy K C) {t : T} {v : TK} (ok : t.ok K H) (h : t.er.ty = some v) (hv : ∀ C, v = .o C → C ∈ Cs) : TyY K H t.rt v.v := by
  unfold D.ty at h
  split at h
  · cases h
  · rename_i e; have := er_v e; subst this; cases h; exact .inl (.base .non)
  · rename_i e; have := er_v e; subst this; cases h; exact .inl (.base (.bl _))
  · rename_i e; have := er_v e; subst this; cases h; exact .inl (.base (.int _))
  · rename_i e; have := er_v e; subst this; cases h; exact .inl (.base (.str _))
  · cases h
  · rename_i xs e; obtain ⟨a, us, rfl, _⟩ := er_nd e; cases h; exact .inr ⟨rfl, a, _, rfl, ok.sqT⟩
  · rename_i xs e; obtain ⟨a, us, rfl, _⟩ := er_nd e; cases h
    rcases ok.node with ⟨o, z⟩ | ⟨o, its, n, z, zc, _⟩
    · exact .inl (.base (.frz z))
    · exact .inl (.kList z zc)
  · rename_i xs e; obtain ⟨a, us, rfl, _⟩ := er_nd e; cases h; exact .inl (.base (.lst ok.atL))
  · rename_i xs e; obtain ⟨a, us, rfl, _⟩ := er_nd e; cases h; exact .inl (.base (.dK ok.node.1))
  · rename_i xs e; obtain ⟨a, us, rfl, _⟩ := er_nd e; cases h; exact .inl (.base (.dT ok.node.1))
  · rename_i xs e; obtain ⟨a, us, rfl, _⟩ := er_nd e; cases h
    obtain ⟨dx, z, _⟩ := ok.node
    have c := hC _ (hv _ rfl)
    exact .inl (.base (.ins z c.cl c.ha c.hn c.htk c.hm))
  · rename_i xs e; obtain ⟨a, us, rfl, _⟩ := er_nd e; cases h
    obtain ⟨dx, z, _⟩ := ok.node
    have c := hC _ (hv _ rfl)
    exact .inl (.base (.ins z c.cl c.ha c.hn c.htk c.hm))
theorem kit_ofY {X : Cx} {pins : List (Addr × Obj)} {σ : L2.St} {H : Hp} {s : Shared} {x : V} {u t : Value} (I : Inv X pins σ H s) (rx : RelV x u) (ty : TyY X.K H x t) : ∃ P : Heap → Prop, PySem.W.KitX X.K u t P ∧ P s.heap ∧ u ≠ .builtin "__main__.__loader__#opaque" := by
  rcases ty with ty | ⟨rfl, a, xs, rfl, sq⟩
  · exact kit_of I rx ty
  · cases (show u = Value.ref a from rx)
    obtain ⟨its, r, ⟨o, e, c, _⟩, _⟩ := I.tuple sq
    exact ⟨_, PySem.W.kitx_tuple, ⟨o, e, c⟩, fun z => nomatch z⟩
def rIs1 (K : PySem.W.Frag) : List V → Hp → VK → Prop := fun xs H Q => ∃ (x c : V) (t u : Value) (b : Bool), xs = [x, c] ∧ ClsV c u ∧ TyY K H x t ∧ PySem.W.kitOne K t u = some b ∧ Q (.bl b) H
def rIsN (K : PySem.W.Frag) : List V → Hp → VK → Prop := fun xs H Q => ∃ (x : V) (tp : Addr) (cs : List V) (t : Value) (us : List Value) (b : Bool), xs = [x, .ref tp] ∧ SqT K H tp cs ∧ Paired ClsV cs us ∧ TyY K H x t ∧ PySem.W.kitAny K t us = some b ∧ Q (.bl b) H
theorem call_is1 {X : Cx} : CallR X (.builtin "isinstance") (rIs1 X.K) := by
  intro pins s σ H xs us Q I r h
  obtain ⟨x, c, t, u, b, rfl, k, ty, e, q⟩ := h
  obtain ⟨u1, u2, rfl, r1, r2⟩ := vals2 r
  have e2 := k.eq r2
  subst e2
  obtain ⟨P, Z, p, hx⟩ := kit_ofY I r1 ty
  exact PySem.W.kia_one Z I.kIn p e hx fun tk => ⟨.bl b, H, I.tok tk, rfl, q⟩
theorem call_isN {X : Cx} : CallR X (.builtin "isinstance") (rIsN X.K) := by
  intro pins s σ H xs us Q I r h
  obtain ⟨x, tp, cs, t, ws, b, rfl, hT, k, ty, e, q⟩ := h
  obtain ⟨u1, u2, rfl, r1, r2⟩ := vals2 r
  cases (show u2 = Value.ref tp from r2)
  obtain ⟨P, Z, p, hx⟩ := kit_ofY I r1 ty
  obtain ⟨its, rv, ⟨o, h1, h2, n, h3⟩, _⟩ := I.tuple hT
  have e3 := ClsV.all k rv
  subst e3
  obtain ⟨oc, od, dt, sl⟩ := o
  simp only at h2 h3
  subst h2 h3
  exact PySem.W.kia_tup Z I.kIn p h1 e hx fun tk => ⟨.bl b, H, I.tok tk, rfl, q⟩
/-- kitOne of built-in types -/
def isaB (a b : String) : Option Bool :=
  if a = b then some true
  else if (a = "bool" && b = "int") = true then some true
  else if (["NoneType", "bool", "int", "str", "tuple", "list", "dict"].contains a && ["bool", "int", "str", "tuple", "list", "dict"].contains b) = true then some false else none
theorem isaB_ok {K : PySem.W.Frag} {a b : String} {r : Bool} (h : isaB a b = some r) : PySem.W.kitOne K (.type a) (.type b) = some r := by
  unfold isaB at h
  by_cases e : a = b
  · subst e
    rw [if_pos rfl] at h; cases h
    refine kit_ty ?_
    unfold kitB
    rw [if_pos (by simp)]
  · rw [if_neg e] at h
    by_cases e2 : (a = "bool" && b = "int") = true
    · rw [if_pos e2] at h; cases h
      simp only [Bool.and_eq_true, decide_eq_true_eq] at e2
      obtain ⟨rfl, rfl⟩ := e2
      exact kit_ty (by decide +kernel)
    · rw [if_neg e2] at h
      split at h
      · rename_i e3
        cases h
        have main : ∀ a ∈ ["NoneType", "bool", "int", "str", "tuple", "list", "dict"], ∀ b ∈ ["bool", "int", "str", "tuple", "list", "dict"], a ≠ b → (a = "bool" && b = "int") ≠ true → kitB a b = some false := by decide +kernel
        rw [Bool.and_eq_true] at e3
        exact kit_ty (main a (by simpa using e3.1) b (by simpa using e3.2) e e2)
      · cases h
/-- a table of the other answers -/
abbrev Isa := List (TK × TK × Bool)
def isaD (tab : Isa) : TK → TK → Option Bool
  | .b a, .b b => isaB a b
  | t, u => (tab.find? fun e => e.1 == t && e.2.1 == u).map (·.2.2)
theorem isaD_ok {K : PySem.W.Frag} {tab : Isa} (ht : ∀ e ∈ tab, PySem.W.kitOne K e.1.v e.2.1.v = some e.2.2) {t u : TK} {r : Bool} (h : isaD tab t u = some r) : PySem.W.kitOne K t.v u.v = some r := by
  have main : (tab.find? fun e => e.1 == t && e.2.1 == u).map (·.2.2) = some r → PySem.W.kitOne K t.v u.v = some r := fun h => by
    cases e : tab.find? (fun e => e.1 == t && e.2.1 == u) with
    | none => rw [e] at h; cases h
    | some w =>
      rw [e] at h; cases h
      have q := List.find?_some e
      rw [Bool.and_eq_true] at q
      have := ht w (List.mem_of_find?_eq_some e)
      rw [beq_iff_eq.mp q.1, beq_iff_eq.mp q.2] at this
      exact this
  cases t <;> cases u <;> first | exact isaB_ok h | exact main h
def isaAny (tab : Isa) (t : TK) : List TK → Option Bool
  | [] => some false
  | u :: us => match isaD tab t u with
    | some true => some true
    | some false => isaAny tab t us
    | none => none
theorem isaAny_ok {K : PySem.W.Frag} {tab : Isa} (ht : ∀ e ∈ tab, PySem.W.kitOne K e.1.v e.2.1.v = some e.2.2) {t : TK} : ∀ {us : List TK} {r : Bool}, isaAny tab t us = some r → PySem.W.kitAny K t.v (us.map TK.v) = some r
  | [], r, h => by cases h; exact kitAny_nil
  | u :: us, r, h => by
    unfold isaAny at h
    split at h
    · rename_i e; cases h; exact kitAny_cons (isaD_ok ht e) (fun z => by cases z) fun _ => rfl
    · rename_i e; exact kitAny_cons (isaD_ok ht e) (fun _ => isaAny_ok ht h) fun z => by cases z
    · cases h
/-- a class as a value -/
def V.tk : V → Option TK
  | .ty n => some (.b n)
  | .ref C => some (.o C)
  | _ => none
theorem tk_cls {v : V} {k : TK} (h : V.tk v = some k) : ClsV v k.v := by
  unfold V.tk at h
  split at h
  · cases h; exact .ty _
  · cases h; exact .own _
  · cases h
def D.tks : List D → Option (List TK)
  | [] => some []
  | .v x :: r => match V.tk x, D.tks r with
    | some k, some ks => some (k :: ks)
    | _, _ => none
  | _ => none
theorem tks_of : ∀ {us : List T} {ks : List TK}, D.tks (T.ers us) = some ks → Paired ClsV (T.rts us) (ks.map TK.v)
  | [], ks, h => by cases h; exact .nil
  | u :: r, ks, h => by
    rw [T.ers] at h
    unfold D.tks at h
    split at h
    · rename_i e; cases e
    · rename_i e
      injection e with e1 e2
      have := er_v e1; subst this
      subst e2
      split at h
      · rename_i k ks' h1 h2; cases h; exact .cons (tk_cls h1) (tks_of h2)
      · cases h
    · cases h
def tkIn (Cs : List Addr) : TK → Bool
  | .o C => Cs.contains C
  | .b _ => true
def isiD (tab : Isa) (Cs : List Addr) : List D → Option D
  | [x, .v c] => match x.ty, V.tk c with
    | some t, some u => if tkIn Cs t = true then (isaD tab t u).map D.bl else none
    | _, _ => none
  | [x, .nd .tup cs] => match x.ty, D.tks cs with
    | some t, some us => if tkIn Cs t = true then (isaAny tab t us).map D.bl else none
    | _, _ => none
  | _ => none
abbrev rIsa (K : PySem.W.Frag) : List V → Hp → VK → Prop := fun xs H Q => rIs1 K xs H Q ∨ rIsN K xs H Q
theorem isi_ok {K : PySem.W.Frag} {tab : Isa} {Cs : List Addr} (ht : ∀ e ∈ tab, PySem.W.kitOne K e.1.v e.2.1.v = some e.2.2) (hC : ∀ C ∈ Cs, InsTy K C) : OpN K (rIsa K) (isiD tab Cs) := by
  intro H us d Q ok gd e q
  have chk : ∀ {t : TK}, tkIn Cs t = true → ∀ C, t = .o C → C ∈ Cs := fun h C e => by subst e; simpa [tkIn] using h
  unfold isiD at e
  split at e
  · rename_i x c e1
    obtain ⟨u, w, rfl, e2, e3⟩ := ers_cons e1
    obtain ⟨u1, w, rfl, e4, e5⟩ := ers_cons e3
    have := ers_nil e5; subst this
    have := er_v e4; subst this
    subst e2
    split at e
    · rename_i t k h1 h2
      split at e
      · rename_i h3
        cases ei : isaD tab t k with
        | none => rw [ei] at e; cases e
        | some r =>
          rw [ei] at e; cases e
          exact .inl ⟨u.rt, c, t.v, k.v, r, rfl, tk_cls h2, ty_of hC (ok u (by simp)) h1 (chk h3), isaD_ok ht ei, q (.v _) H rfl trivial Frsh.atom⟩
      · cases e
    · cases e
  · rename_i x cs e1
    obtain ⟨u, w, rfl, e2, e3⟩ := ers_cons e1
    obtain ⟨u1, w, rfl, e4, e5⟩ := ers_cons e3
    have := ers_nil e5; subst this
    obtain ⟨a, ws, rfl, e6⟩ := er_nd e4
    subst e2
    split at e
    · rename_i t k h1 h2
      split at e
      · rename_i h3
        cases ei : isaAny tab t k with
        | none => rw [ei] at e; cases e
        | some r =>
          rw [ei] at e; cases e
          exact .inr ⟨u.rt, a, T.rts ws, t.v, k.map TK.v, r, rfl, (ok _ (by simp)).sqT, tks_of (by rw [e6]; exact h2), ty_of hC (ok u (by simp)) h1 (chk h3), isaAny_ok ht ei, q (.v _) H rfl trivial Frsh.atom⟩
      · cases e
    · cases e
  · cases e
end VS

namespace VS
open PySem PySem.Spec PyProof.Rows L2

/-! ### a name frozen, a name taken out -/
def dfz (i : Nat) : E := fun s => match s[i]? with
  | none => .no
  | some .un => .no
  | some d => .ok (d.fz, s.set i d.fz)
def dmv (i : Nat) : E := fun s => match s[i]? with
  | none => .no
  | some .un => .no
  | some d => .ok (d, s.set i .un)
theorem fz_own' (t : T) : t.fz.own = [] := T.fz_own t
theorem fz_trk_sub {t : T} {a : Addr} (h : a ∈ t.fz.trk) : a ∈ t.trk := by rw [T.fz_trk] at h; exact h
theorem fz_imm_sub {t : T} {a : Addr} (h : a ∈ t.fz.imm) : a ∈ t.imm := by rw [T.fz_imm] at h; exact h
theorem Dj.fz {t u : T} (h : Dj t u) : Dj t.fz u := ⟨fun a ma => (by rw [fz_own'] at ma; cases ma), fun a ma z => h.2 a ma (fz_trk_sub z)⟩
theorem dj_fz_self {t : T} : Dj t.fz t.fz := ⟨fun a ma => (by rw [fz_own'] at ma; cases ma), fun a ma => (by rw [fz_own'] at ma; cases ma)⟩
theorem fz_ne {t : T} (h : t ≠ .un) : t.fz ≠ .un := by cases t <;> first | exact h | (intro z; cases z)
section
variable {K : PySem.W.Frag} {W : WX} {io : List Nat}
theorem set_inv {ts : List T} {i : Nat} {t' w : T} (m : w ∈ ts.set i t') : w = t' ∨ ∃ j, j ≠ i ∧ ts[j]? = some w := by
  obtain ⟨j, ej⟩ := List.getElem?_of_mem m
  by_cases hj : j = i
  · subst hj
    have hl : j < ts.length := by
      have := (List.getElem?_eq_some_iff.mp ej).1
      simpa using this
    rw [List.getElem?_set_self hl] at ej
    exact .inl (Option.some.inj ej).symm
  · rw [List.getElem?_set_ne (Ne.symm hj)] at ej
    exact .inr ⟨j, hj, ej⟩
theorem rd_fz {i : Nat} : ERd K W io .tmp [i] (tVar i) (dfz i) := fun ρ ts σ H Q S h => by
  unfold dfz at h
  cases e : (T.ers ts)[i]? with
  | none => rw [e] at h; exact h.elim
  | some d =>
    obtain ⟨t, et, ed⟩ := ers_get e
    have mt := List.mem_of_getElem? et
    have hl := (List.getElem?_eq_some_iff.mp et).1
    rw [e] at h
    have go : t ≠ .un → EPost K W io ρ .tmp [i] ts σ H Q (.ok (d.fz, (T.ers ts).set i d.fz)) → tVar i σ H Q := fun ne h => by
      refine ⟨t.rt, S.rt i t et ne, ?_⟩
      rw [← T.fz_rt]
      have inv : ∀ {w : T}, w ∈ ts.set i t.fz → w = t.fz ∨ ∃ j, j ≠ i ∧ ts[j]? = some w := fun m => set_inv m
      refine h (ts.set i t.fz) t.fz H ⟨by rw [List.length_set]; exact S.len, fun j w ew nw => ?_, fun w mw => ?_, S.wf.set (T.fz_good t) fun j w hj ew => (S.wf.get (Ne.symm hj) et ew).fz, fun j mj => ?_⟩ (by rw [ers_set, T.fz_er, ed]) (by rw [T.fz_er, ed]) (T.ok_fz (S.ok t mt)) ⟨T.fz_good t, fun w mw => ?_⟩ ⟨fun _ _ e _ => e, fun _ e => e, fun w mw a ma => .inl ?_, fun w mw a ma => .inl ?_, fun w mw a ma => .inl ?_⟩ fun j hj => ?_
      · by_cases hj : j = i
        · subst hj
          rw [List.getElem?_set_self hl] at ew; cases ew
          rw [T.fz_rt]; exact S.rt j t et ne
        · rw [List.getElem?_set_ne (Ne.symm hj)] at ew; exact S.rt j w ew nw
      · rcases inv mw with rfl | ⟨j, _, ej⟩
        · exact T.ok_fz (S.ok t mt)
        · exact S.ok w (List.mem_of_getElem? ej)
      · obtain ⟨w, ew, nw, r⟩ := S.pin j mj
        by_cases hj : j = i
        · subst hj
          rw [et] at ew; cases ew
          exact ⟨t.fz, by rw [List.getElem?_set_self hl], fz_ne ne, by rw [T.fz_rt]; exact r⟩
        · exact ⟨w, by rw [List.getElem?_set_ne (Ne.symm hj)]; exact ew, nw, r⟩
      · rcases inv mw with rfl | ⟨j, hj, ej⟩
        · exact dj_fz_self
        · exact (S.wf.get (Ne.symm hj) et ej).fz
      · rcases List.mem_cons.mp mw with rfl | mw
        · rw [fz_own'] at ma; cases ma
        · rcases inv mw with rfl | ⟨j, _, ej⟩
          · rw [fz_own'] at ma; cases ma
          · exact ⟨w, List.mem_of_getElem? ej, ma⟩
      · rcases List.mem_cons.mp mw with rfl | mw
        · exact ⟨t, mt, fz_trk_sub ma⟩
        · rcases inv mw with rfl | ⟨j, _, ej⟩
          · exact ⟨t, mt, fz_trk_sub ma⟩
          · exact ⟨w, List.mem_of_getElem? ej, ma⟩
      · rcases List.mem_cons.mp mw with rfl | mw
        · exact ⟨t, mt, fz_imm_sub ma⟩
        · rcases inv mw with rfl | ⟨j, _, ej⟩
          · exact ⟨t, mt, fz_imm_sub ma⟩
          · exact ⟨w, List.mem_of_getElem? ej, ma⟩
      · rw [List.getElem?_set_ne (fun z => hj (by rw [z]; simp))]
    cases d with
    | un => exact h.elim
    | v x => exact go (er_un (by rw [ed]; intro z; cases z)) h
    | nd k xs => exact go (er_un (by rw [ed]; intro z; cases z)) h
theorem rd_mv {i : Nat} (hi : io.contains i = false) : ERd K W io .tmp [i] (tVar i) (dmv i) := fun ρ ts σ H Q S h => by
  have hi' : i ∉ io := by simpa using hi
  unfold dmv at h
  cases e : (T.ers ts)[i]? with
  | none => rw [e] at h; exact h.elim
  | some d =>
    obtain ⟨t, et, ed⟩ := ers_get e
    have mt := List.mem_of_getElem? et
    have hl := (List.getElem?_eq_some_iff.mp et).1
    rw [e] at h
    have go : t ≠ .un → EPost K W io ρ .tmp [i] ts σ H Q (.ok (d, (T.ers ts).set i .un)) → tVar i σ H Q := fun ne h => by
      refine ⟨t.rt, S.rt i t et ne, ?_⟩
      have inv : ∀ {w : T}, w ∈ ts.set i .un → w = .un ∨ ∃ j, j ≠ i ∧ ts[j]? = some w := fun m => set_inv m
      refine h (ts.set i .un) t H ⟨by rw [List.length_set]; exact S.len, fun j w ew nw => ?_, fun w mw => ?_, S.wf.set trivial fun j w hj ew => dj_un, fun j mj => ?_⟩ (by rw [ers_set]; rfl) ed (S.ok t mt) ⟨S.wf.mem mt, fun w mw => ?_⟩ ⟨fun _ _ e _ => e, fun _ e => e, fun w mw a ma => .inl ?_, fun w mw a ma => .inl ?_, fun w mw a ma => .inl ?_⟩ fun j hj => ?_
      · by_cases hj : j = i
        · subst hj
          rw [List.getElem?_set_self hl] at ew; cases ew
          exact absurd rfl nw
        · rw [List.getElem?_set_ne (Ne.symm hj)] at ew; exact S.rt j w ew nw
      · rcases inv mw with rfl | ⟨j, _, ej⟩
        · exact trivial
        · exact S.ok w (List.mem_of_getElem? ej)
      · obtain ⟨w, ew, nw, r⟩ := S.pin j mj
        exact ⟨w, by rw [List.getElem?_set_ne (fun z => hi' (by rw [z]; exact mj))]; exact ew, nw, r⟩
      · rcases inv mw with rfl | ⟨j, hj, ej⟩
        · exact dj_un.symm
        · exact S.wf.get (Ne.symm hj) et ej
      · rcases List.mem_cons.mp mw with rfl | mw
        · exact ⟨_, mt, ma⟩
        · rcases inv mw with rfl | ⟨j, _, ej⟩
          · cases ma
          · exact ⟨w, List.mem_of_getElem? ej, ma⟩
      · rcases List.mem_cons.mp mw with rfl | mw
        · exact ⟨_, mt, ma⟩
        · rcases inv mw with rfl | ⟨j, _, ej⟩
          · cases ma
          · exact ⟨w, List.mem_of_getElem? ej, ma⟩
      · rcases List.mem_cons.mp mw with rfl | mw
        · exact ⟨_, mt, ma⟩
        · rcases inv mw with rfl | ⟨j, _, ej⟩
          · cases ma
          · exact ⟨w, List.mem_of_getElem? ej, ma⟩
      · rw [List.getElem?_set_ne (fun z => hj (by rw [z]; simp))]
    cases d with
    | un => exact h.elim
    | v x => exact go (er_un (by rw [ed]; intro z; cases z)) h
    | nd k xs => exact go (er_un (by rw [ed]; intro z; cases z)) h
/-- a temporary, frozen -/
def dFz (da : E) : E := fun s => (da s).bind fun q => .ok (q.1.fz, q.2)
theorem erd_fz {d1 : List Nat} {ta : TE} {da : E} (ha : ERd K W io .tmp d1 ta da) : ERd K W io .tmp d1 ta (dFz da) := fun ρ ts σ H Q S h => by
  refine ha ρ ts σ H _ S ?_
  unfold dFz at h
  cases ea : da (T.ers ts) with
  | no => rw [ea] at h; exact h
  | ex c fs s => rw [ea] at h; exact h
  | ok q =>
    obtain ⟨x, s⟩ := q
    rw [ea] at h
    intro ts1 t1 H1 S1 e1 et ok1 mr1 st1 pu1
    rw [← T.fz_rt]
    exact h ts1 t1.fz H1 S1 e1 (by rw [T.fz_er, et]) (T.ok_fz ok1) ⟨T.fz_good t1, fun u mu => (mr1.2 u mu).fz⟩ (st1.tail.cons (fun a ma => (by rw [fz_own'] at ma; cases ma)) (fun a ma => st1.tr t1 List.mem_cons_self a (fz_trk_sub ma)) (fun a ma => st1.im t1 List.mem_cons_self a (fz_imm_sub ma))) pu1
end
section
variable {X : Cx} {W : WX} {io : List Nat}
theorem de_nf (i : Nat) {x : Str} {pos : Pos} (hN : X.N[i]? = some x := by rfl) (hv : Vis X.env.scope x := by first | exact Or.inl rfl | exact Or.inr (Or.inl rfl) | exact Or.inr (Or.inr rfl)) (hd : (x == ("__debug__" : Str)) = false := by decide)
    (hcd : (x == ("__classdict__" : Str)) = false := by decide) : DE X W io .tmp [i] (.Name x pos) (tVar i) (dfz i) := ⟨pe_var hN hv hd hcd, rd_fz⟩
theorem de_nm (i : Nat) {x : Str} {pos : Pos} (hi : io.contains i = false := by rfl) (hN : X.N[i]? = some x := by rfl) (hv : Vis X.env.scope x := by first | exact Or.inl rfl | exact Or.inr (Or.inl rfl) | exact Or.inr (Or.inr rfl)) (hd : (x == ("__debug__" : Str)) = false := by decide)
    (hcd : (x == ("__classdict__" : Str)) = false := by decide) : DE X W io .tmp [i] (.Name x pos) (tVar i) (dmv i) := ⟨pe_var hN hv hd hcd, rd_mv hi⟩
theorem de_fzt {e : Expr} {d1 : List Nat} {ta : TE} {da : E} (h : DE X W io .tmp d1 e ta da) : DE X W io .tmp d1 e ta (dFz da) := ⟨h.pe, erd_fz h.rd⟩
/-! ### list comprehensions -/
structure DTs (X : Cx) (W : WX) (io : List Nat) (md : List Nat) (es : List Expr) (t : TT) (d : B) : Prop where
  pt : PTs X es t
  rd : TRd X.K W io md t d
theorem dts_nil : DTs X W io [] [] tYes bYes := ⟨pts_nil, trd_yes⟩
theorem dts_one {c : Expr} {md : List Nat} {t : TT} {d : B} (h : DT X W io md c t d) : DTs X W io md [c] t d := ⟨pts_one h.pt, h.rd⟩
theorem de_lc {elt tg iter : Expr} {ifs : List Expr} {scope : Scope} {own : List (Str × Nat)} {pos : Pos} {mi m : Md} {md mg mt me : List Nat} {ti : TI} {g : TG} {tt : TT} {te : TE} {it : I} {gd : Gd} {c : B} {e : E}
    (hc : X.calm = true) (hN : X.N.Nodup) (hi : DI X W io mi md tg iter ti it) (ok : BlkOk X.N X.env.scope scope own)
    (hg : ∀ (s : Shared) (H : Hp) (C : Addr) (cl : List (Str × Addr)) (fp : List Addr), DG (X.blk s H scope (compEnvC scope cl C X.env) fp) io mg tg g gd)
    (ht : ∀ (s : Shared) (H : Hp) (C : Addr) (cl : List (Str × Addr)) (fp : List Addr), DTs (X.blk s H scope (compEnvC scope cl C X.env) fp) W0 io mt ifs tt c)
    (he : ∀ (s : Shared) (H : Hp) (C : Addr) (cl : List (Str × Addr)) (fp : List Addr), DE (X.blk s H scope (compEnvC scope cl C X.env) fp) W0 io m me elt te e)
    (hmg : (mg.all fun j => (own.map (·.2)).contains j) = true := by rfl) (hio : (io.all fun i => !(own.map (·.2)).contains i) = true := by rfl) (hs : ∀ x, foldedSetIterable iter X.env x = pure x := by intro _; rfl) :
    DE X W io .tmp (md ++ (mg ++ (mt ++ me) ++ own.map (·.2))) (.ListComp elt [⟨tg, iter, ifs, 0⟩] scope pos) (tLc ti g tt te (own.map (·.2))) (dLc mi (mg ++ (mt ++ me) ++ own.map (·.2)) (own.map (·.2)) it gd c m e) :=
  ⟨pe_lc hc hN hi.pi ok (fun s H C cl fp => (hg s H C cl fp).pg) (fun s H C cl fp => (ht s H C cl fp).pt) (fun s H C cl fp => (he s H C cl fp).pe) hs,
    erd_lc hi.rd (hg X.s_0 X.H_0 0 [] []).rd (ht X.s_0 X.H_0 0 [] []).rd (he X.s_0 X.H_0 0 [] []).rd hmg hio⟩
theorem ds_setLc {i : Nat} {y : Str} {py : Pos} {elt tg iter : Expr} {ifs : List Expr} {scope : Scope} {own : List (Str × Nat)} {pos spos : Pos} {mi m : Md} {md mg mt me : List Nat} {ti : TI} {g : TG} {tt : TT} {te : TE} {it : I} {gd : Gd} {c : B} {e : E}
    (hc : X.calm = true) (hN : X.N.Nodup) (hy : X.N[i]? = some y) (hyl : X.env.scope.names.lookup y = some .local)
    (hsw : swapsWith (.ListComp elt [⟨tg, iter, ifs, 0⟩] scope pos) (some (.Name y py)) spos.line X.env = pure true) (hi : DI X W io mi md tg iter ti it) (ok : BlkOk X.N X.env.scope scope own)
    (hg : ∀ (s : Shared) (H : Hp) (C : Addr) (cl : List (Str × Addr)) (fp : List Addr), DG (X.blk s H scope (compEnvC scope cl C X.env) fp) io mg tg g gd)
    (ht : ∀ (s : Shared) (H : Hp) (C : Addr) (cl : List (Str × Addr)) (fp : List Addr), DTs (X.blk s H scope (compEnvC scope cl C X.env) fp) W0 io mt ifs tt c)
    (he : ∀ (s : Shared) (H : Hp) (C : Addr) (cl : List (Str × Addr)) (fp : List Addr), DE (X.blk s H scope (compEnvC scope cl C X.env) fp) W0 io m me elt te e)
    (hmg : (mg.all fun j => (own.map (·.2)).contains j) = true := by rfl) (hio : (io.all fun i => !(own.map (·.2)).contains i) = true := by rfl) (hi2 : io.contains i = false := by rfl) (hs : ∀ x, foldedSetIterable iter X.env x = pure x := by intro _; rfl) :
    DS X W io ((md ++ (mg ++ (mt ++ me) ++ own.map (·.2))) ++ [i]) (.Assign [.Name y py] (.ListComp elt [⟨tg, iter, ifs, 0⟩] scope pos) spos) (tAsg (tLc ti g tt te (own.map (·.2))) (gName i)) (sAsg .tmp (dLc mi (mg ++ (mt ++ me) ++ own.map (·.2)) (own.map (·.2)) it gd c m e) (gdN i)) :=
  ⟨ps_setLc hc hN hy hyl hsw hi.pi ok (fun s H C cl fp => (hg s H C cl fp).pg) (fun s H C cl fp => (ht s H C cl fp).pt) (fun s H C cl fp => (he s H C cl fp).pe) hs,
    srd_asg (erd_lc hi.rd (hg X.s_0 X.H_0 0 [] []).rd (ht X.s_0 X.H_0 0 [] []).rd (he X.s_0 X.H_0 0 [] []).rd hmg hio) (grd_n hi2)⟩
end
/-! ### list(range(..)) -/
def rgL (i j : Int) : D := .nd (.lst true) ((List.range (j - i).toNat).map fun (k : Nat) => D.int (i + k))
def rgOk (i j : Int) : Bool := decide (i.natAbs < 4000000000000000000 ∧ j.natAbs < 4000000000000000000 ∧ (j - i).toNat ≤ 16777216)
theorem rgOk_ok {i j : Int} (h : rgOk i j = true) : RgOk i j := by
  have q := of_decide_eq_true h
  exact ⟨by omega, by omega, by omega, by omega, by omega⟩
def lrD1 : D → Option D
  | .v (.int n) => if rgOk 0 n = true then some (rgL 0 n) else none
  | _ => none
def lrD2 : D → D → Option D
  | .v (.int i), .v (.int j) => if rgOk i j = true then some (rgL i j) else none
  | _, _ => none
def rLr1 : V → Hp → VK → Prop := fun x H1 Q => ∃ n, x = .int n ∧ (RgOk 0 n ∧ ∀ q, H1 q = none → Q (.ref q) (upd H1 q (.lst (rgV 0 n))))
def rLr2 : R2 := fun x y H1 Q => ∃ i j, x = .int i ∧ y = .int j ∧ (RgOk i j ∧ ∀ q, H1 q = none → Q (.ref q) (upd H1 q (.lst (rgV i j))))
section
variable {K : PySem.W.Frag}
theorem rg_new {H : Hp} {A : List T} {i j : Int} {q : Addr} (hq : H q = none) (okA : ∀ u ∈ A, u.ok K H) : ∃ t : T, t.er = rgL i j ∧ t.rt = .ref q ∧ t.ok K (upd H q (.lst (rgV i j))) ∧ Frsh H A (upd H q (.lst (rgV i j))) t := by
  obtain ⟨h1, h2⟩ := new_atoms (K := K) (A := A) (vs := rgV i j) hq okA
  refine ⟨_, ?_, rfl, h1, h2⟩
  rw [T.er, T.ers_map]
  unfold rgL rgV
  rw [List.map_map, List.map_map]; rfl
theorem lr1_ok : Op1 K rLr1 lrD1 := by
  intro H x d Q ok g e q
  unfold lrD1 at e
  split at e
  · rename_i n e1
    have := er_v e1; subst this
    split at e
    · rename_i h
      cases e
      refine ⟨n, rfl, rgOk_ok h, fun p hp => ?_⟩
      obtain ⟨t, t1, t2, t3, t4⟩ := rg_new (K := K) (A := [T.v (.int n)]) (i := 0) (j := n) hp fun u m => by rw [List.mem_singleton.mp m]; trivial
      rw [← t2]; exact q t _ t1 t3 t4
    · cases e
  · cases e
theorem lr2_ok : Op2 K rLr2 lrD2 := by
  intro H x y d Q okx oky gx gy e q
  unfold lrD2 at e
  split at e
  · rename_i i j e1 e2
    have := er_v e1; subst this
    have := er_v e2; subst this
    split at e
    · rename_i h
      cases e
      refine ⟨i, j, rfl, rfl, rgOk_ok h, fun p hp => ?_⟩
      obtain ⟨t, t1, t2, t3, t4⟩ := rg_new (K := K) (A := [T.v (.int i), T.v (.int j)]) (i := i) (j := j) hp fun u m => by
        rcases List.mem_cons.mp m with rfl | m
        · trivial
        · rw [List.mem_singleton.mp m]; trivial
      rw [← t2]; exact q t _ t1 t3 t4
    · cases e
  · cases e
end
section
variable {X : Cx} {W : WX} {io : List Nat} {a b : Expr} {ta tb : TE} {da db : E} {m1 m2 : Md} {d1 d2 : List Nat} {p p1 pos pos1 : Pos}
theorem de_lr1 (hc : X.calm = true) (hgl : Gl X "list") (hml : X.mg "list" = none) (hgr : Gl X "range") (hmr : X.mg "range" = none) (ha : DE X W io m1 d1 a ta da) (na : starEach [a] X.env = (false, eval a X.env) :: starEach [] X.env := by rfl)
    (nr : starEach [.Call (.Name "range" p1) [a] [] pos1] X.env = (false, eval (.Call (.Name "range" p1) [a] [] pos1) X.env) :: starEach [] X.env := by rfl) :
    DE X W io .tmp d1 (.Call (.Name "list" p) [.Call (.Name "range" p1) [a] [] pos1] [] pos) (tLstRg (tRg1 ta)) (dOne lrD1 da) := ⟨pe_listRg hc hgl hml (prg_1 hgr hmr ha.pe na) nr, fun ρ ts σ H Q S h => erd_oneU ha.rd lr1_ok ρ ts σ H Q S h⟩
theorem de_lr2 (hc : X.calm = true) (hgl : Gl X "list") (hml : X.mg "list" = none) (hgr : Gl X "range") (hmr : X.mg "range" = none) (ha : DE X W io m1 d1 a ta da) (hb : DE X W io m2 d2 b tb db) (na : starEach [a, b] X.env = (false, eval a X.env) :: starEach [b] X.env := by rfl)
    (nb : starEach [b] X.env = (false, eval b X.env) :: starEach [] X.env := by rfl) (hp : (backTo pos1 (starEach [b] X.env)).any (·.1) = false := by rfl)
    (nr : starEach [.Call (.Name "range" p1) [a, b] [] pos1] X.env = (false, eval (.Call (.Name "range" p1) [a, b] [] pos1) X.env) :: starEach [] X.env := by rfl) :
    DE X W io .tmp (d1 ++ d2) (.Call (.Name "list" p) [.Call (.Name "range" p1) [a, b] [] pos1] [] pos) (tLstRg (tRg2 ta tb)) (dTwo m1 d2 lrD2 da db) := ⟨pe_listRg hc hgl hml (prg_2 hgr hmr ha.pe hb.pe na nb hp) nr, fun ρ ts σ H Q S h => erd_two ha.rd hb.rd lr2_ok ρ ts σ H Q S h⟩
end
end VS

namespace VS
open PySem PySem.Spec PyProof.Rows L2

/-! ### an own __iter__ that gives iter(self.rows), rows a tuple -/
def TIo (t it : Addr) (i : Nat) : HO := .ext fun h => h.IsTupleIter it t i
def TIe (it : Addr) : HO := .ext fun h => ∃ o, h.get? it = some o
theorem tio_ok {P : Program} {w : World} {H : Hp} {h : Heap} {t it : Addr} {i : Nat} (e : h.IsTupleIter it t i) : ObjOk P w H h it (TIo t it i) := ⟨e, (let ⟨o, ho, _⟩ := e; ⟨o, ho⟩), fun _ _ q k => q.at k⟩
theorem tie_ok {P : Program} {w : World} {H : Hp} {h : Heap} {it : Addr} (e : ∃ o, h.get? it = some o) : ObjOk P w H h it (TIe it) := ⟨e, e, fun _ _ ⟨o, q⟩ k => ⟨o, k o q⟩⟩
section
variable {prog : Program} {w : World} {A : Around} {E : Value → Shared → Prop} {s : Shared}
theorem tup_iter_call {t : Addr} {items : Array Value} {Q : Value → Shared → Prop} (ht : s.heap.IsTuple t items) (h : Q (.ref s.heap.objs.size) { s with heap := s.heap.push { cls := .type "tuple_iterator", data := .fields #[.ref t, .int 0 0] } }) : wpAny (model prog w) A (call (.builtin "iter") [.ref t]) Q E s := by
  refine Calls.call_function_entry (by decide +kernel) (by decide +kernel) PySem.W.kdk_entry_iter (PySem.W.kdk_args_iter _) ?_
  unfold Builtin.«iter»
  refine wpAny_bind (m := someArgs "iter" 1 2 _) (wpAny_of_eq (a := [Value.ref t]) (by first | rfl | kernel_rfl!) ?_)
  show wpAny _ _ (pyIter (.ref t) >>= _) _ _ _
  exact wpAny_bind (wpAny_pyIter_tuple ht (wpAny_pure ⟨_, rfl, h⟩))
/-- the end of a tuple's iterator; the iterator is still there -/
theorem tup_iter_end {it t : Addr} {i : Nat} {items : Array Value} {Q : Option Value → Shared → Prop} (hh : A.handled = none) (hit : s.heap.IsTupleIter it t i) (ht : s.heap.IsTuple t items) (hx : items[i]? = none)
    (hQ : ∀ h', Heap.ExtBut it s.heap h' → (∃ o, h'.get? it = some o) → Q none { s with heap := h' }) : wpAny (model prog w) A (pyNext (.ref it)) Q E s := by
  obtain ⟨o, ho, hc, hd⟩ := id hit; obtain ⟨ol, hol, _, nl, hdl⟩ := ht
  unfold pyNext
  refine wpAny_bind (wpAny_attempt (wpAny_callSpecial?_slot (name := Str.ofString "__next__") hit.typeIs F.slot_tuple_iterator_next (wpAny_call_entry F.slot_tuple_iterator_next hit.typeIs F.entry_tuple_iterator_next ?_ (F.args_tuple_iterator_next_1 _))))
  show wpAny _ _ (field (.ref it) 0 >>= _) _ _ s
  refine wpAny_bind (wpAny_field ho hd (x := .ref t) rfl ?_); show wpAny _ _ (if (Value.ref t == Value.none) = true then _ else _) _ _ s
  rw [if_neg (show ¬ ((Value.ref t == Value.none) = true) from Bool.false_ne_true)]; show wpAny _ _ (field (.ref it) 1 >>= _) _ _ s
  refine wpAny_bind (wpAny_field ho hd (x := .int i 0) rfl ?_); show wpAny _ _ (seqItems? (.ref t) >>= _) _ _ s
  refine wpAny_bind (wpAny_seqItems hol hdl ?_); simp only [Int.toNat_natCast, hx]
  refine wpAny_bind (wpAny_rule (wpAny_bind (wpAny_setField ho hd (by simp) ?_))); show wpAny _ _ (newExc (.type "StopIteration") [] >>= _) _ _ _
  refine wpAny_bind ?_; simp only [newExc, newTuple]
  refine wpAny_bind (wpAny_newObj_type ?_ (by size_fits)); refine wpAny_bind (m := firstArgMember _ _) (wpAny_of_eq (a := Value.none) (by first | rfl | (simp only [firstArgMember]; rfl)) ?_)
  refine wpAny_newObj_type ?_ (by size_fits); simp only [raiseNew]
  refine wpAny_bind (wpAny_handled ?_); first | rw [show A.in1.handled = none from hh] | rw [hh]
  refine wpAny_bind (wpAny_pure (wpAny_throw ?_)); refine wpAny_bind (wpAny_isInstance (T := "StopIteration") (b := true) ⟨_, Heap.get?_push_size _ rfl, rfl⟩ isSubtype_stop ?_)
  exact wpAny_pure (hQ _ (((Heap.SameBut.update ..).extBut.push _).push _) ⟨_, Heap.get?_push_of_some _ (Heap.get?_push_of_some _ (Heap.get?_update_self _ ho (Obj.isFreed_of_fields (Obj.data_mapFields hd _))))⟩)
end
def rIterT (K : PySem.W.Frag) : List V → Hp → VK → Prop := fun xs H Q => ∃ (t : Addr) (zs : List V), xs = [.ref t] ∧ SqT K H t zs ∧ ∀ it, H it = none → Q (.ref it) (upd H it (TIo t it 0))
theorem call_iterT {X : Cx} : CallR X (.builtin "iter") (rIterT X.K) := by
  intro pins s σ H xs us Q I r h
  obtain ⟨t, zs, rfl, hq, q⟩ := h
  obtain rfl := Vals.ref1 r
  obtain ⟨its, rv, pl, hz⟩ := I.tuple hq
  refine tup_iter_call (show s.heap.IsTuple t its.toArray from pl) ?_
  have hit : (s.heap.push { cls := .type "tuple_iterator", data := .fields #[.ref t, .int 0 0] }).IsTupleIter s.heap.objs.size t 0 := ⟨_, Heap.get?_push_size _ rfl, rfl, rfl⟩
  exact ⟨.ref s.heap.objs.size, _, I.laid (t' := s.toks) (fun b u e => Heap.get?_push_of_some _ e) (Nat.le_refl _) (tio_ok hit), rfl, q _ (I.hok.fresh (Nat.le_refl _))⟩
/-- what such an __iter__ promises -/
def spIter (K : PySem.W.Frag) (f : Str) : Sp := fun vs H Q _ => ∃ a C dx fs t zs, vs = [.ref a] ∧ H a = some (.ins C dx fs) ∧ Cls K C ∧ NoAttr K C f ∧ fs.lookup f = some (.ref t) ∧ SqT K H t zs ∧ ∀ it, H it = none → Q (.ref it) (upd H it (TIo t it 0))
theorem iter_fn {P : Program} {w : World} {K : PySem.W.Frag} {mg : Str → Option Value} {base : Heap} {x qual fld : Str} {st : Stmt} {f : Addr} {fd : FuncData} {y : Str} {k : Nat} (F : Fun K x qual st f fd) (S : FnScope [y] [y] (defScope st))
    (hbody : ∀ (cdv : Value) (A : Around) (outer : List Env) (s : Shared) (H : Hp) (E : XK), Room k (A.deeper (envOfC qual (defScope st) s.heap.objs.size f cdv)) →
      PSs (cxOf CX0 P w K mg base [y] qual (defScope st) f cdv A outer s H E).nox (defBody st) (tRet (tCB (rIterT K) (tCons (tFld K (tVar 0) fld) tNil)))) : FnOk P w K mg base CX0 (k + 1) f fd [y] (spIter K fld) := by
  refine F.ok S (fun vs H Q E h => by obtain ⟨_, _, _, _, _, _, rfl, _⟩ := h; rfl) fun cdv A outer s H vs Q E hr h => ?_
  refine ⟨_, hbody cdv A outer s H E hr, ?_⟩
  obtain ⟨a, C, dx, fs, t, zs, rfl, ha, c, n, l, sq, q⟩ := h
  exact ⟨.ref a, rfl, a, C, dx, fs, .ref t, rfl, ha, c, n, l, t, zs, rfl, sq, q⟩
/-- a class with such an __iter__ -/
structure ItT (K : PySem.W.Frag) (C fi : Addr) : Prop where
  it : PySem.W.findIn K (.ref C) "__iter__" = some (some (.ref fi))
  itF : PySem.W.isFn K (.ref fi) = true
  nolen : PySem.W.findIn K (.ref C) "__len__" = some none
  nohint : PySem.W.findIn K (.ref C) "__length_hint__" = some none
section
variable {X : Cx} {pins : List (Addr × Obj)} {σ : L2.St} {H : Hp} {s s' : Shared} {C fi a q : Addr} {n : Nat} {A1 : Around}
theorem sq_keepT {K : PySem.W.Frag} {H : Hp} {t it q : Addr} {zs : List V} {u v : HO} (sq : SqT K H t zs) (h1 : t ≠ it) (h2 : t ≠ q) : SqT K (upd (upd H it u) q v) t zs := by
  have e : upd (upd H it u) q v t = H t := by rw [upd_ne h2, upd_ne h1]
  rcases sq with (z | ⟨o, z⟩) | z
  · exact .inl (.inl (e.trans z))
  · exact .inl (.inr ⟨o, e.trans z⟩)
  · exact .inr z
theorem tup_hint {M : Model} {A : Around} {E : Value → Shared → Prop} {Q : Bool → Shared → Prop} {K : PySem.W.Frag} {ox : Obj} {od : Option Obj} (hc : ItT K C fi) (hK : K.In s.heap) (J : PySem.W.InstAt s.heap a ox C od) (h : Q true s) :
    wpAny M A (Builtin.List.listLengthHint (.ref a)) Q E s := by
  unfold Builtin.List.listLengthHint
  refine wpAny_bind (wpAny_bind (J.type.here ((PySem.W.looks_findIn hK hc.nolen).here (PySem.W.KFB.if_not rfl ?_))))
  exact PySem.W.KFB.if_not rfl (wpAny_bind (wpAny_bind (J.type.here ((PySem.W.looks_findIn hK hc.nohint).here (wpAny_pure h)))))
/-- the list at q filled from the iterator at it over the tuple at t -/
theorem tup_fill {Rs : Result → Shared → Prop} {t it : Addr} {zs : List V} {R : Hp → Prop} (hcalm : A1.in1.handled = none) (hne : q ≠ it) (htne : t ≠ it) (htq : t ≠ q) (hz : zs.length < sizeLine) (hdone : ∀ H s, Inv X pins σ H s → R H → Rs (.ok (.ret .none)) s) :
    ∀ (m i : Nat) (H : Hp) (s : Shared), Inv X pins σ H s → m = zs.length - i → i ≤ zs.length → SqT X.K H t zs → H it = some (TIo t it i) → H q = some (.lst (zs.take i)) → (∀ H', (∀ b, b ≠ q → b ≠ it → H' b = H b) → H' q = some (.lst zs) → H' it = some (TIe it) → R H') →
      codeAny (model X.prog X.w) A1 (.builtin "list.extend.loop" ⟨[.ref q, .ref it, .none], []⟩) Rs s := by
  intro m
  induction m with
  | zero =>
    intro i H s I hm hi sq hit hq hR
    have hii : i = zs.length := by omega
    subst hii
    refine codeAny_builtin PySem.F.entry_extend_loop ?_
    rw [Around.under_plainId PySem.F.plain_extend_loop _]
    show wpAny _ A1.in1 (pyNext (.ref it) >>= _) _ _ s
    obtain ⟨its, rv, pl, hz'⟩ := I.tuple sq
    have hl := rv.length
    refine wpAny_bind (tup_iter_end (by exact hcalm) ((I.hok it _ hit).1) (show s.heap.IsTuple t its.toArray from pl) (by simp; omega) fun h' eb ex => ?_)
    have mu : Mut (H it) := by rw [hit]; exact True.intro
    refine wpAny_pure (hdone (upd H it (TIe it)) _ (I.write (x := it) (e := it) (t' := s.toks) mu (.inl rfl) (fun b o nb z => eb b o nb z) ex (tie_ok ex)) (hR _ (fun b h1 h2 => upd_ne h2) ?_ upd_same))
    rw [upd_ne hne, hq, List.take_length]
  | succ m ih =>
    intro i H s I hm hi sq hit hq hR
    have hlt : i < zs.length := by omega
    refine codeAny_builtin PySem.F.entry_extend_loop ?_
    rw [Around.under_plainId PySem.F.plain_extend_loop _]
    show wpAny _ A1.in1 (pyNext (.ref it) >>= _) _ _ s
    obtain ⟨its, rv, pl, hz'⟩ := I.tuple sq
    obtain ⟨u, hu, ru⟩ := rv.get (List.getElem?_eq_getElem hlt)
    refine wpAny_bind (wpAny_pyNext_tuple_item ((I.hok it _ hit).1) (show s.heap.IsTuple t its.toArray from pl) (x := u) (by simpa using hu) fun h' st' sb => ?_)
    have mu : Mut (H it) := by rw [hit]; exact True.intro
    have I1 : Inv X pins σ (upd H it (TIo t it (i + 1))) { s with heap := h' } := I.write (x := it) (e := it) (t' := s.toks) mu (.inl rfl) (fun b o nb z => (sb.2 b nb).trans z) (let ⟨o, ho, _⟩ := st'; ⟨o, ho⟩) (tio_ok st')
    have hq1 : upd H it (TIo t it (i + 1)) q = some (.lst (zs.take i)) := by rw [upd_ne hne]; exact hq
    show wpAny _ A1.in1 (updateSeq q (·.push u) >>= _) _ _ _
    obtain ⟨z, ys, k, r2, hl2, e⟩ := I1.lstM hq1
    have hlen : (zs.take i).length = i := by rw [List.length_take]; omega
    have hyl : ys.length = i := by rw [← r2.length, hlen]
    refine wpAny_bind (wpAny_updateSeq e rfl (wpAny_pure ⟨plainId_quiet PySem.F.plain_extend_loop _, ?_⟩) (by rw [List.size_toArray]; omega) (by show (ys.toArray.push u).size ≤ sizeLine + 1; rw [Array.size_push, List.size_toArray]; omega))
    have hts : zs.take i ++ [zs[i]] = zs.take (i + 1) := (List.take_succ_eq_append_getElem hlt).symm
    refine ih (i + 1) (upd (upd H it (TIo t it (i + 1))) q (.lst (zs.take i ++ [zs[i]]))) _ (I1.lset (its' := ys ++ [u]) (t' := s.toks) hq1 e (by simp) (r2.append (.cons ru .nil)) (by rw [List.length_append, List.length_singleton]; omega)) (by omega) hlt ?_ ?_ ?_ fun H' h1 h2 h3 => hR H' (fun b hb1 hb2 => ?_) h2 h3
    · exact sq_keepT sq htne htq
    · rw [upd_ne (Ne.symm hne), upd_same]
    · rw [upd_same, hts]
    · rw [h1 b hb1 hb2, upd_ne hb1, upd_ne hb2]
/-- list(o) -/
def rOwnT (K : PySem.W.Frag) (C : Addr) (f : Str) : List V → Hp → VK → Prop := fun xs H Q => ∃ a dx fs t zs, xs = [.ref a] ∧ H a = some (.ins C dx fs) ∧ fs.lookup f = some (.ref t) ∧ SqT K H t zs ∧ zs.length < sizeLine ∧
  ∀ q it H', H q = none → H it = none → q ≠ it → (∀ b, b ≠ q → b ≠ it → H' b = H b) → H' q = some (.lst zs) → (∃ o, H' it = some o) → Q (.ref q) H'
theorem sqT_ne {t q : Addr} {zs : List V} (I : Inv X pins σ H s) (sq : SqT X.K H t zs) (hq : s.heap.objs.size ≤ q) : t ≠ q := fun e => by
  obtain ⟨its, rv, ⟨o, ho, _⟩, _⟩ := I.tuple sq
  subst e
  exact absurd (Heap.lt_size ho) (Nat.not_lt.mpr hq)
theorem call_listT {f : Str} {fdI : FuncData} {psI : List Str} (hcalm : X.calm = true) (hc : ItT X.K C fi) (cl : Cls X.K C) (na : NoAttr X.K C f) (FI : FnOk X.prog X.w X.K X.mg X.base CX0 n fi fdI psI (spIter X.K f)) (bI : Binds X.K fdI psI []) (hr : Room (n + 2) X.A) : CallR X (.type "list") (rOwnT X.K C f) := by
  intro pins s σ H xs us Q I rv h
  obtain ⟨a, dx, fs, t, zs, rfl, ha, hl, sq, hz, hQ⟩ := h
  obtain ⟨u, rfl, ru⟩ := rv.one
  cases ru
  have sb : Sub X n X.A.in1.in1 := (Sub.in1 (Sub.in1 (⟨hr, rfl⟩ : Sub X (n + 2) X.A)))
  refine callType_codes (Q₁ := fun obj s₁ => obj = .ref s.heap.objs.size ∧ s₁ = { s with heap := s.heap.push { cls := .type "list", data := .seq #[] } }) PySem.F.called_list (PySem.F.typeCall_list_1 _) PySem.F.entry_list_init (code_list_new _ ⟨rfl, rfl⟩) fun obj s₁ h₁ => ?_
  obtain ⟨rfl, rfl⟩ := h₁
  have hS : (s.heap.push { cls := .type "list", data := .seq #[] }).get? s.heap.objs.size = some { cls := .type "list", data := .seq #[] } := Heap.get?_push_size _ rfl
  refine ⟨⟨_, hS, rfl⟩, PySem.F.args_list_init_2 _ _, ?_⟩
  have fr : H s.heap.objs.size = none := I.hok.fresh (Nat.le_refl _)
  have I1 : Inv X pins σ (upd H s.heap.objs.size (.lst [])) { s with heap := s.heap.push { cls := .type "list", data := .seq #[] } } := I.lnew (its := []) (t' := s.toks) .nil (Nat.zero_le _)
  show wpAny _ _ (do let old ← Builtin.List.listItems (.ref s.heap.objs.size); Builtin.List.listUpdate (.ref s.heap.objs.size) (fun _ => #[]); letGo old.toList.reverse; Builtin.List.listExtendWith (.ref s.heap.objs.size) (.ref a) .none) _ _ _
  refine wpAny_bind ?_
  unfold Builtin.List.listItems
  refine wpAny_bind (wpAny_seqItems hS rfl (wpAny_pure ?_))
  show wpAny _ _ (updateSeq s.heap.objs.size (fun _ => #[]) >>= fun _ => letGo (#[] : Array Value).toList.reverse >>= fun _ => Builtin.List.listExtendWith (.ref s.heap.objs.size) (.ref a) .none) _ _ _
  refine wpAny_bind (wpAny_updateSeq hS rfl (wpAny_bind (wpAny_letGo ?_)))
  have I2 := I1.lset (f := fun _ => #[]) (its := []) (its' := []) (ys := []) (t' := s.toks) upd_same hS rfl .nil (Nat.zero_le _)
  rw [upd_upd] at I2
  have ht0 : t ≠ s.heap.objs.size := sqT_ne I sq (Nat.le_refl _)
  generalize hq0 : s.heap.objs.size = q at *
  generalize hs2 : ({ s with heap := ((s.heap.push { cls := .type "list", data := .seq #[] }).update q fun ob => ob.mapSeq fun _ => #[]) } : Shared) = s2 at *
  have ha2 : upd H q (.lst []) a = some (.ins C dx fs) := by rw [upd_ne (ne_of_none ha fr)]; exact ha
  have hqn : upd H q (.lst []) q = some (.lst []) := upd_same
  have sq2 : SqT X.K (upd H q (.lst [])) t zs := by
    have := sq_keepT (it := q) (q := q) (u := .lst []) (v := .lst []) sq ht0 ht0
    rwa [upd_upd] at this
  have hne : q ≠ a := ne_of hqn ha2 (fun z => nomatch z)
  obtain ⟨mA, J, _⟩ := ins_get I2.hok ha2
  obtain ⟨od, J, _⟩ := J.look
  obtain ⟨m0, hF⟩ := I2.fr
  unfold Builtin.List.listExtendWith
  refine wpAny_bind (J.type.here ?_)
  have h1 : Builtin.List.listSameRef (.ref q) (.ref a) = false := by simp [Builtin.List.listSameRef, hne]
  simp only [h1, show (Value.ref C == Value.type "list") = false from rfl, show (Value.ref C == Value.type "tuple") = false from rfl, Bool.or_false, Bool.false_eq_true, if_false]
  refine wpAny_bind (PySem.W.owit_iter hF I2.ok.mod.kin J hc.it hc.itF ?_)
  have e0 : Env0 X.prog X.w X.K X.mg X.base X.A.in1.in1 X.stack s2 (upd H q (.lst [])) := by
    have e := I2.env0
    exact ⟨by rw [sb.fr]; exact e.frames, e.mod, e.bs, e.bsz, e.funs, e.frf, e.hok, e.bare⟩
  have hspI : spIter X.K f [.ref a] (upd H q (.lst [])) (fun v H' => ∃ it, v = .ref it ∧ upd H q (.lst []) it = none ∧ H' = upd (upd H q (.lst [])) it (TIo t it 0)) (fun _ _ _ => False) := ⟨a, C, dx, fs, t, zs, rfl, ha2, cl, na, hl, sq2, fun it hit => ⟨it, rfl, hit, rfl⟩⟩
  have hlen := FI.len _ _ _ _ hspI
  have r2 : Vals [V.ref a] [Value.ref a] := .cons rfl .nil
  refine wpAny_call (codeAny_mono (FI.run X.A.in1.in1 X.stack s2 (upd H q (.lst [])) ⟨[.ref a], []⟩ [.ref a] [.ref a] _ (fun _ _ _ => False) sb.room e0 (by
    have := bI s2 [.ref a] I2.kIn (by simpa using hlen)
    simpa using this) r2 hspI) fun r s' hq' => ?_)
  cases r with
  | error e => exact hq'.elim
  | ok fl =>
    cases fl with
    | next => exact False.elim hq'
    | brk => exact False.elim hq'
    | cont => exact False.elim hq'
    | ret u =>
      obtain ⟨v, H', I', rv', it, ev, hit, eH⟩ := I2.after hq'
      subst ev
      subst eH
      cases rv'
      have hqi : q ≠ it := fun z => by rw [← z, hqn] at hit; cases hit
      have hHit : H it = none := by rw [upd_ne (Ne.symm hqi)] at hit; exact hit
      have hti : upd (upd H q (.lst [])) it (TIo t it 0) it = some (TIo t it 0) := upd_same
      obtain ⟨o2, ho2, hc2, _⟩ := (I'.hok it _ hti).1
      have htne : t ≠ it := fun z => by
        rcases sq with (z1 | ⟨o, z1⟩) | ⟨o, its, n, hk, hcl, _⟩
        · rw [z, hHit] at z1; cases z1
        · rw [z, hHit] at z1; cases z1
        · have e1 := I'.kIn _ _ hk
          rw [z, ho2] at e1
          cases e1
          rw [hc2] at hcl
          injection hcl with e
          exact absurd e (by decide)
      have hT : s'.TypeIs (.ref it) "tuple_iterator" := ⟨o2, ho2, hc2⟩
      unfold PySem.W.OwitIt
      refine wpAny_specialOf hT PySem.F.slot_tuple_iterator_next.lookup ?_
      have ha3 : upd (upd H q (.lst [])) it (TIo t it 0) a = some (.ins C dx fs) := by rw [upd_ne (ne_of_none ha2 hit)]; exact ha2
      have hq3 : upd (upd H q (.lst [])) it (TIo t it 0) q = some (.lst []) := by rw [upd_ne hqi]; exact hqn
      obtain ⟨mA', J', _⟩ := ins_get I'.hok ha3
      obtain ⟨od', J', _⟩ := J'.look
      refine wpAny_bind (wpAny_holding (tup_hint hc I'.kIn J' ?_))
      obtain ⟨z, its, k, r3, hl3, e3⟩ := I'.lstM hq3
      cases r3
      have fill : ∀ {s4 : Shared}, Inv X pins σ (upd (upd H q (.lst [])) it (TIo t it 0)) s4 → codeAny (model X.prog X.w) X.A.in1 (.builtin "list.extend.loop" ⟨[.ref q, .ref it, .none], []⟩) (wants (fun r s₂ => r = .none ∧ EP X pins σ Q (.ref q) s₂) X.xe) s4 := fun {s4} I4 =>
        tup_fill (R := fun H' => Q (.ref q) H') (t := t) (it := it) (zs := zs) (by exact I.ok.hd hcalm) hqi htne ht0 hz (fun H' s5 I5 h5 => ⟨rfl, .ref q, H', I5, rfl, h5⟩) zs.length 0 _ _ I4 rfl (Nat.zero_le _) (sq_keepT sq ht0 htne) hti hq3 fun H' e1 e2 e3 => hQ q it H' fr hHit hqi (fun b b1 b2 => by rw [e1 b b1 b2, upd_ne b2, upd_ne b1]) e2 ⟨_, e3⟩
      refine wpAny_ite_split (fun _ => ?_) (fun _ => wpAny_pure ⟨plainId_quiet PySem.F.plain_extend_loop _, fill I'⟩)
      refine wpAny_bind (wpAny_rule (wpAny_bind ?_))
      show wpAny _ _ (updateSeq q (·.push .none) >>= fun _ => updateSeq q (·.pop)) _ _ _
      refine wpAny_bind (wpAny_updateSeq e3 rfl ?_)
      have I5 := I'.lset (f := (·.push Value.none)) (its' := [Value.none]) (ys := [.non]) (t' := s'.toks) hq3 e3 (by simp) (.cons rfl .nil) (by rw [List.length_singleton, sizeLine_eq]; decide)
      obtain ⟨z4, its4, k4, r4, hl4, e4⟩ := I5.lstM upd_same
      obtain ⟨u4, rfl, ru4⟩ := r4.one
      refine wpAny_updateSeq e4 rfl ?_ (by show 1 ≤ sizeLine; rw [sizeLine_eq]; decide) (by show 0 ≤ sizeLine + 1; exact Nat.zero_le _)
      refine wpAny_pure ⟨plainId_quiet PySem.F.plain_extend_loop _, ?_⟩
      have I6 := I5.lset (f := (·.pop)) (its := [u4]) (its' := []) (ys := []) (t' := s'.toks) upd_same e4 (by rfl) .nil (Nat.zero_le _)
      rw [upd_upd] at I6
      have hH : upd (upd (upd H q (.lst [])) it (TIo t it 0)) q (.lst []) = upd (upd H q (.lst [])) it (TIo t it 0) := by
        funext b
        by_cases hb : b = q
        · rw [hb, upd_same, hq3]
        · rw [upd_ne hb]
      rw [hH] at I6
      exact fill I6
end
end VS

namespace VS
open PySem PySem.Spec PyProof.Rows L2

def orD (f g : D → Option D) : D → Option D := fun x => match f x with
  | some d => some d
  | none => g x
theorem One.or {K : PySem.W.Frag} {r r' : List V → Hp → VK → Prop} {f g : D → Option D} (h : One K r f) (h' : One K r' g) : One K (fun xs H Q => r xs H Q ∨ r' xs H Q) (orD f g) := by
  intro H x d Q ok gd e q
  unfold orD at e
  split at e
  · rename_i ef; cases e; exact .inl (h H x _ Q ok gd ef q)
  · exact .inr (h' H x d Q ok gd e q)
section
variable {K : PySem.W.Frag} {H H' : Hp} {A : List T}
theorem Frsh.nodeS {p : Addr} {k : NK} {cs : List T} (sm : Same H H') (hp : H p = none) (okA : ∀ u ∈ A, u.ok K H) (hc : ∀ c ∈ cs, ∃ u ∈ A, Sub0 c u) : Frsh H A H' (.nd p k cs) := by
  have f := Frsh.node (K := K) (H := H) (A := A) (p := p) (k := k) (cs := cs) (o := .lst []) hp okA hc
  exact ⟨sm, f.gd, f.ow, f.tr, f.im⟩
end
/-- list(o) of an instance that hands out its tuple f -/
def ownD (C : Addr) (f : Str) (x : D) : Option D := match x.inst with
  | some (C', fs, xs) => if (C' == C) = true then (match fIx f fs with
    | some i => match xs[i]? with
      | some (.nd .tup zs) => if (!D.hass NK.isOwn zs && decide (zs.length < sizeLine)) = true then some (.nd (.lst true) zs) else none
      | _ => none
    | none => none) else none
  | none => none
theorem own_ok {K : PySem.W.Frag} {C : Addr} {f : Str} : One K (rOwnT K C f) (ownD C f) := by
  intro H x d Q ok g e q
  unfold ownD at e
  split at e
  · rename_i C' fs xs ei
    split at e
    · rename_i hC
      have hC := beq_iff_eq.mp hC
      subst hC
      split at e
      · rename_i i ex
        split at e
        · rename_i zs ez
          split at e
          · rename_i hc
            rw [Bool.and_eq_true] at hc
            cases e
            obtain ⟨a, k, us, dx, rfl, eu, ha, hl⟩ := inst_of ok ei
            rw [← eu] at ez
            obtain ⟨u, eu1, eu2, eu3⟩ := rts_get ez
            obtain ⟨t, ws, rfl, ew⟩ := er_nd eu2
            have mu := List.mem_of_getElem? eu1
            have oku := ok.child mu
            have gu : (T.nd t .tup ws).good := by
              rw [T.good] at g
              exact goods_mem g.2.2 mu
            have ho : D.hass NK.isOwn (T.ers ws) = false := by
              rw [ew]
              cases z : D.hass NK.isOwn zs with
              | false => rfl
              | true => rw [z] at hc; cases hc.1
            have hzl := of_decide_eq_true hc.2
            refine ⟨a, dx, _, t, T.rts ws, rfl, ha, by rw [lookup_zip fs _ f i ex]; exact eu3, oku.sqT, by rw [rts_len, ← ers_len, ew]; exact hzl, fun p it H' hp hit hne h1 h2 h3 => ?_⟩
            have sm : Same H H' := fun b o eb => by
              rw [h1 b (ne_of_none eb hp) (ne_of_none eb hit)]; exact eb
            have sub : ∀ c ∈ ws, Sub0 c (.nd a k us) := fun c mc => by
              have oc := hass_own ho c mc
              have s1 : Sbt c (.nd a k us) := .child mu (.child mc (.refl c))
              refine ⟨oc, fun z mz => ⟨s1.col mz, fun zo => ?_⟩, fun z mz => s1.col mz⟩
              have q2 := T.good_own g zo
              rcases T.trk_cases c z mz with w | w | w
              · rw [oc] at w; cases w
              · exact q2.1 (s1.col w)
              · exact q2.2 (s1.col w)
            refine q (.nd p (.lst true) ws) H' (by rw [T.er, ew]) ?_ (Frsh.nodeS sm hp (fun u m => by rw [List.mem_singleton.mp m]; exact ok) fun c mc => ⟨_, List.mem_singleton_self _, sub c mc⟩)
            rw [T.ok]
            exact ⟨h2, T.oks_all.mpr fun c mc => T.ok_same (oku.child mc) sm⟩
          · cases e
        · cases e
      · cases e
    · cases e
  · cases e
end VS

namespace VS
open PySem PySem.Spec PyProof.Rows L2
theorem oMod_ok {K : PySem.W.Frag} : Op2 K (rI (fun _ j => 0 < j) fun i j => .int (i % j)) oMod := oInt_ok fun _ _ h => of_decide_eq_true h
theorem oDiv_ok {K : PySem.W.Frag} : Op2 K (rI CDivW fun i j => .int (i / j)) oDiv := oInt_ok fun i j h => (show 0 < j ∧ j.natAbs.log2 < 9000 from of_decide_eq_true h)
theorem oPow_ok {K : PySem.W.Frag} : Op2 K (rI CPow fun i j => .int (i ^ j.toNat)) oPow := oInt_ok fun i j h => (show 0 ≤ j ∧ j ≤ 1000000 ∧ i.natAbs < 2 ^ 64 from of_decide_eq_true h)
theorem oShl_ok {K : PySem.W.Frag} : Op2 K (rI CPow fun i j => .int (i * 2 ^ j.toNat)) oShl := oInt_ok fun i j h => (show 0 ≤ j ∧ j ≤ 1000000 ∧ i.natAbs < 2 ^ 64 from of_decide_eq_true h)
theorem oShr_ok {K : PySem.W.Frag} : Op2 K (rI (fun _ j => 0 ≤ j) fun i j => .int (i / 2 ^ j.toNat)) oShr := oInt_ok fun _ _ h => of_decide_eq_true h
theorem huX {k : Nat} {A : Around} (hr : Room k A) : A.units + 64 < cLine := by have := hr.un; omega
theorem boot_iter : bootBuiltins "iter" = some (.builtin "iter") := by rfl
theorem de_gc {X : Cx} {W : WX} {io : List Nat} {x : Str} {pos : Pos} {v : V} (hg : Gl X x) (h : ∃ u, X.mg x = some u ∧ RelV v u) (hd : (x == ("__debug__" : Str)) = false := by decide) : DE X W io .tmp [] (.Name x pos) (tC v) (dc v) := by
  obtain ⟨u, h1, h2⟩ := h
  exact de_glob hg h1 h2 hd
/-! ### the same rules, what may change told apart (so that the printed meaning fits) -/
section
variable {X : Cx} {W : WX} {io : List Nat}
/-- the meaning itself as a reading -/
def tcE (K : PySem.W.Frag) (W : WX) (io : List Nat) (m : Md) (md : List Nat) (d : E) : TE := fun σ H Q => ∃ ρ ts, Sim K io ρ ts σ H ∧ EPost K W io ρ m md ts σ H Q (d (T.ers ts))
def tcT (K : PySem.W.Frag) (W : WX) (io : List Nat) (md : List Nat) (d : B) : TT := fun σ H Q => ∃ ρ ts, Sim K io ρ ts σ H ∧ TPost K W io ρ md ts σ H Q (d (T.ers ts))
def tcG (K : PySem.W.Frag) (io mg : List Nat) (d : Gd) : TG := fun v σ H Q => ∃ ρ ts u, u.rt = v ∧ Sim K io ρ ts σ H ∧ u.ok K H ∧ TRel u ts ∧ (∀ s, d u.er (T.ers ts) = some s → ∀ ts' σ', Sim K io ρ ts' σ' H → T.ers ts' = s → Step H (u :: ts) H ts' → (∀ j, j ∉ mg → ts'[j]? = ts[j]?) → (σ'.length = σ.length ∧ ∀ j, j ∉ mg → σ'[j]? = σ[j]?) → Q σ' H) ∧ d u.er (T.ers ts) ≠ none
theorem can_e {m : Md} {md : List Nat} {e : Expr} {t : TE} {d : E} (h : DE X W io m md e t d) : DE X W io m md e (tcE X.K W io m md d) d :=
  ⟨⟨fun pins s σ H Q I ⟨ρ, ts, S, p⟩ => h.pe.run pins s σ H Q I (h.rd ρ ts σ H Q S p)⟩, fun ρ ts σ H Q S p => ⟨ρ, ts, S, p⟩⟩
theorem can_ts {md : List Nat} {es : List Expr} {t : TT} {d : B} (h : DTs X W io md es t d) : DTs X W io md es (tcT X.K W io md d) d :=
  ⟨⟨fun pins s σ H Q I ⟨ρ, ts, S, p⟩ => h.pt.run pins s σ H Q I (h.rd ρ ts σ H Q S p)⟩, fun ρ ts σ H Q S p => ⟨ρ, ts, S, p⟩⟩
theorem can_g {mg : List Nat} {e : Expr} {g : TG} {d : Gd} (h : DG X io mg e g d) : DG X io mg e (tcG X.K io mg d) d :=
  ⟨⟨fun pins s σ H v u Q I rv ⟨ρ, ts, w, ew, S, ok, tr, k, n⟩ => h.pg.run pins s σ H v u Q I rv (by rw [← ew]; exact h.rd ρ ts σ H w Q S ok tr k n)⟩, fun ρ ts σ H u Q S ok tr k n => ⟨ρ, ts, u, rfl, S, ok, tr, k, n⟩⟩
theorem lc_ {elt tg iter : Expr} {ifs : List Expr} {scope : Scope} {own : List (Str × Nat)} {pos : Pos} {mi m : Md} {md mg mt me mb vs : List Nat} {ti : TI} {it : I} {gd : Gd} {c : B} {e : E}
    (hc : X.calm = true) (hN : X.N.Nodup) (hi : DI X W io mi md tg iter ti it) (ok : BlkOk X.N X.env.scope scope own)
    (hg : ∀ (s : Shared) (H : Hp) (C : Addr) (cl : List (Str × Addr)) (fp : List Addr), ∃ g, DG (X.blk s H scope (compEnvC scope cl C X.env) fp) io mg tg g gd)
    (ht : ∀ (s : Shared) (H : Hp) (C : Addr) (cl : List (Str × Addr)) (fp : List Addr), ∃ tt, DTs (X.blk s H scope (compEnvC scope cl C X.env) fp) W0 io mt ifs tt c)
    (he : ∀ (s : Shared) (H : Hp) (C : Addr) (cl : List (Str × Addr)) (fp : List Addr), ∃ te, DE (X.blk s H scope (compEnvC scope cl C X.env) fp) W0 io m me elt te e)
    (hmb : mg ++ (mt ++ me) ++ own.map (·.2) = mb := by rfl) (hvs : own.map (·.2) = vs := by rfl) (hmg : (mg.all fun j => (own.map (·.2)).contains j) = true := by rfl) (hio : (io.all fun i => !(own.map (·.2)).contains i) = true := by rfl) (hs : ∀ x, foldedSetIterable iter X.env x = pure x := by intro _; rfl) :
    DE X W io .tmp (md ++ mb) (.ListComp elt [⟨tg, iter, ifs, 0⟩] scope pos) (tLc ti (tcG X.K io mg gd) (tcT X.K W0 io mt c) (tcE X.K W0 io m me e) vs) (dLc mi mb vs it gd c m e) := by
  subst hmb; subst hvs
  exact de_lc hc hN hi ok (fun s H C cl fp => (hg s H C cl fp).elim fun g h => can_g h) (fun s H C cl fp => (ht s H C cl fp).elim fun g h => can_ts h) (fun s H C cl fp => (he s H C cl fp).elim fun g h => can_e h) hmg hio hs
theorem setLc_ {i : Nat} {y : Str} {py : Pos} {elt tg iter : Expr} {ifs : List Expr} {scope : Scope} {own : List (Str × Nat)} {pos spos : Pos} {mi m : Md} {md mg mt me mb vs : List Nat} {ti : TI} {it : I} {gd : Gd} {c : B} {e : E}
    (hc : X.calm = true) (hN : X.N.Nodup) (hy : X.N[i]? = some y) (hyl : X.env.scope.names.lookup y = some .local)
    (hsw : swapsWith (.ListComp elt [⟨tg, iter, ifs, 0⟩] scope pos) (some (.Name y py)) spos.line X.env = pure true) (hi : DI X W io mi md tg iter ti it) (ok : BlkOk X.N X.env.scope scope own)
    (hg : ∀ (s : Shared) (H : Hp) (C : Addr) (cl : List (Str × Addr)) (fp : List Addr), ∃ g, DG (X.blk s H scope (compEnvC scope cl C X.env) fp) io mg tg g gd)
    (ht : ∀ (s : Shared) (H : Hp) (C : Addr) (cl : List (Str × Addr)) (fp : List Addr), ∃ tt, DTs (X.blk s H scope (compEnvC scope cl C X.env) fp) W0 io mt ifs tt c)
    (he : ∀ (s : Shared) (H : Hp) (C : Addr) (cl : List (Str × Addr)) (fp : List Addr), ∃ te, DE (X.blk s H scope (compEnvC scope cl C X.env) fp) W0 io m me elt te e)
    (hmb : mg ++ (mt ++ me) ++ own.map (·.2) = mb := by rfl) (hvs : own.map (·.2) = vs := by rfl) (hmg : (mg.all fun j => (own.map (·.2)).contains j) = true := by rfl) (hio : (io.all fun i => !(own.map (·.2)).contains i) = true := by rfl) (hi2 : io.contains i = false := by rfl) (hs : ∀ x, foldedSetIterable iter X.env x = pure x := by intro _; rfl) :
    DS X W io ((md ++ mb) ++ [i]) (.Assign [.Name y py] (.ListComp elt [⟨tg, iter, ifs, 0⟩] scope pos) spos) (tAsg (tLc ti (tcG X.K io mg gd) (tcT X.K W0 io mt c) (tcE X.K W0 io m me e) vs) (gName i)) (sAsg .tmp (dLc mi mb vs it gd c m e) (gdN i)) := by
  subst hmb; subst hvs
  exact ds_setLc hc hN hy hyl hsw hi ok (fun s H C cl fp => (hg s H C cl fp).elim fun g h => can_g h) (fun s H C cl fp => (ht s H C cl fp).elim fun g h => can_ts h) (fun s H C cl fp => (he s H C cl fp).elim fun g h => can_e h) hmg hio hi2 hs
theorem for_ {mi mg mb mm : List Nat} {m : Md} {tg iter : Expr} {body : List Stmt} {pos : Pos} {ti : TI} {g : TG} {tb : TS} {it : I} {gd : Gd} {db : S} (hp : PassesOwn (model X.prog X.w) X.A X.env X.xe) (hcalm : X.calm = true) (hi : DI X W io m mi tg iter ti it) (hg : DG X io mg tg g gd) (hb : DSs X W io mb body tb db)
    (hmm : mg ++ mb = mm := by rfl) (hs : ∀ x, foldedSetIterable iter X.env x = pure x := by intro _; rfl) : DS X W io (mi ++ mm) (.For tg iter body [] pos) (tFor ti g tb) (sFor m mm it gd db) := by
  subst hmm; exact ds_for hp hcalm hi hg hb hs
variable {a b c : Expr} {pos p2 : Pos} {ta tb tc : TE} {da db dc : E} {m1 m2 m3 : Md} {d1 d2 d3 dd de : List Nat}
theorem s11_ (ha : DE X W io m1 d1 a ta da) (hb : DE X W io m2 d2 b tb db) (hc : DE X W io m3 d3 c tc dc) (h : d2 ++ (d3 ++ []) = dd := by rfl) : DE X W io .tmp (d1 ++ dd) (.Subscript a (.Slice (some b) (some c) none p2) pos) (tSl (rSl X.K) ta (tPart tb) (tPart tc)) (dS11 m1 dd de da db dc) := by
  subst h; exact de_s11 ha hb hc
theorem s10_ (ha : DE X W io m1 d1 a ta da) (hb : DE X W io m2 d2 b tb db) (h : d2 ++ [] = dd := by rfl) : DE X W io .tmp (d1 ++ dd) (.Subscript a (.Slice (some b) none none p2) pos) (tSl (rSl X.K) ta (tPart tb) tNoPart) (dS10 m1 dd da db) := by
  subst h; exact de_s10 ha hb
theorem s01_ (ha : DE X W io m1 d1 a ta da) (hb : DE X W io m2 d2 b tb db) (h : d2 ++ [] = dd := by rfl) : DE X W io .tmp (d1 ++ dd) (.Subscript a (.Slice none (some b) none p2) pos) (tSl (rSl X.K) ta tNoPart (tPart tb)) (dS01 m1 dd da db) := by
  subst h; exact de_s01 ha hb
end
section
variable {X : Cx} {W : WX} {io : List Nat} {m : Md} {md md' : List Nat} {ks : List AK} {ms : List Md} {e tg : Expr} {es : List Expr}
theorem wE {t : TE} {d : E} (h : DE X W io m md e t d) (hm : md = md' := by rfl) : DE X W io m md' e t d := by subst hm; exact h
theorem wT {t : TT} {d : B} (h : DT X W io md e t d) (hm : md = md' := by rfl) : DT X W io md' e t d := by subst hm; exact h
theorem wA {t : TA} {d : EA} (h : DA X W io ms md es t d) (hm : md = md' := by rfl) : DA X W io ms md' es t d := by subst hm; exact h
theorem wC {t : TA} {d : EC} (h : DC X W io ks md es t d) (hm : md = md' := by rfl) : DC X W io ks md' es t d := by subst hm; exact h
theorem wI {t : TI} {d : I} (h : DI X W io m md tg e t d) (hm : md = md' := by rfl) : DI X W io m md' tg e t d := by subst hm; exact h
theorem wP {i : Nat} {t : TE} {d : EP'} (h : DP X W io i md e t d) (hm : md = md' := by rfl) : DP X W io i md' e t d := by subst hm; exact h
end
end VS

namespace VS
open PySem PySem.Spec PyProof.Rows L2
/-! ### plain reckoning over the meanings -/
@[simp] theorem dn_s (i : Nat) (s : List D) : dn i s = match s[i]? with
  | none => .no
  | some d => if d.isUn = true then .no else .ok (d, s) := by
  unfold dn
  cases s[i]? with
  | none => rfl
  | some d => cases d <;> rfl
@[simp] theorem dpN_s (i : Nat) (s : List D) : dpN i s = match s[i]? with
  | none => .no
  | some d => if d.isUn = true then .no else .ok ([], s) := by
  unfold dpN
  cases s[i]? with
  | none => rfl
  | some d => cases d <;> rfl
@[simp] theorem asm_val (m : Md) (ks : List AK) (x : D) (xs : List (Option D)) (s : List D) : asmD (.val m :: ks) (some x :: xs) s = (asmD ks xs s).map fun r => x.fz :: r := by rw [asmD]
@[simp] theorem asm_io (i : Nat) (ks : List AK) (xs : List (Option D)) (s : List D) : asmD (.io i :: ks) (none :: xs) s = match s[i]? with
  | none => none
  | some d => if d.isUn = true then none else (asmD ks xs s).map fun r => d :: r := by
  rw [asmD]
  cases s[i]? with
  | none => rfl
  | some d => cases d <;> rfl
@[simp] theorem asm_nil (s : List D) : asmD [] [] s = some [] := by rw [asmD]
section
variable {o : Bool} {C : Addr} {fs : List Str} {ks : List Key} {ks2 : List (List Key)} {x : V} {k : NK} {xs : List D}
@[simp] theorem NK.isOwn_tup : NK.isOwn NK.tup = false := rfl
@[simp] theorem NK.isOwn_scr : NK.isOwn NK.scr = false := rfl
@[simp] theorem NK.isOwn_lst : NK.isOwn (NK.lst o) = o := rfl
@[simp] theorem NK.isOwn_ins : NK.isOwn (NK.ins C fs) = false := rfl
@[simp] theorem NK.isOwn_obj : NK.isOwn (NK.obj o C fs) = o := rfl
@[simp] theorem NK.isOwn_dic : NK.isOwn (NK.dic o ks) = o := rfl
@[simp] theorem NK.isOwn_dit : NK.isOwn (NK.dit o ks2) = o := rfl
@[simp] theorem NK.isShr_tup : NK.isShr NK.tup = false := rfl
@[simp] theorem NK.isShr_scr : NK.isShr NK.scr = false := rfl
@[simp] theorem NK.isShr_lst : NK.isShr (NK.lst o) = (!o) := rfl
@[simp] theorem NK.isShr_ins : NK.isShr (NK.ins C fs) = false := rfl
@[simp] theorem NK.isShr_obj : NK.isShr (NK.obj o C fs) = (!o) := rfl
@[simp] theorem NK.isShr_dic : NK.isShr (NK.dic o ks) = (!o) := rfl
@[simp] theorem NK.isShr_dit : NK.isShr (NK.dit o ks2) = (!o) := rfl
@[simp] theorem NK.fz_tup : NK.fz NK.tup = NK.tup := rfl
@[simp] theorem NK.fz_scr : NK.fz NK.scr = NK.scr := rfl
@[simp] theorem NK.fz_lst : NK.fz (NK.lst o) = NK.lst false := rfl
@[simp] theorem NK.fz_ins : NK.fz (NK.ins C fs) = NK.ins C fs := rfl
@[simp] theorem NK.fz_obj : NK.fz (NK.obj o C fs) = NK.obj false C fs := rfl
@[simp] theorem NK.fz_dic : NK.fz (NK.dic o ks) = NK.dic false ks := rfl
@[simp] theorem NK.fz_dit : NK.fz (NK.dit o ks2) = NK.dit false ks2 := rfl
@[simp] theorem D.isUn_un : D.isUn D.un = true := rfl
@[simp] theorem D.isUn_v : D.isUn (D.v x) = false := rfl
@[simp] theorem D.isUn_nd : D.isUn (D.nd k xs) = false := rfl
end
@[simp] def u_sSeq_1 := @VS.sSeq.eq_1
@[simp] def u_sNx_1 := @VS.sNx.eq_1
@[simp] def u_sBk_1 := @VS.sBk.eq_1
@[simp] def u_sCt_1 := @VS.sCt.eq_1
@[simp] def u_sRt_1 := @VS.sRt.eq_1
@[simp] def u_sRtN_1 := @VS.sRtN.eq_1
@[simp] def u_sIf_1 := @VS.sIf.eq_1
@[simp] def u_sDrop_1 := @VS.sDrop.eq_1
@[simp] def u_sAsg_1 := @VS.sAsg.eq_1
@[simp] def u_gdN_1 := @VS.gdN.eq_1
@[simp] def u_sSetIx_1 := @VS.sSetIx.eq_1
@[simp] def u_dTwo_1 := @VS.dTwo.eq_1
@[simp] def u_dOne_1 := @VS.dOne.eq_1
@[simp] def u_dOp_1 := @VS.dOp.eq_1
@[simp] def u_dAcons_1 := @VS.dAcons.eq_1
@[simp] def u_dAnil_1 := @VS.dAnil.eq_1
@[simp] def u_dc_1 := @VS.dc.eq_1
@[simp] def u_dTv_1 := @VS.dTv.eq_1
@[simp] def u_dTt_1 := @VS.dTt.eq_1
@[simp] def u_dTand_1 := @VS.dTand.eq_1
@[simp] def u_dTor_1 := @VS.dTor.eq_1
@[simp] def u_dTnot_1 := @VS.dTnot.eq_1
@[simp] def u_dVand_1 := @VS.dVand.eq_1
@[simp] def u_dVor_1 := @VS.dVor.eq_1
@[simp] def u_dVnot_1 := @VS.dVnot.eq_1
@[simp] def u_dIf_1 := @VS.dIf.eq_1
@[simp] def u_dTmp_1 := @VS.dTmp.eq_1
@[simp] def u_dCmp_1 := @VS.dCmp.eq_1
@[simp] def u_oB_1 := @VS.oB.eq_1
@[simp] def u_R_bind_1 := @VS.R.bind.eq_1
@[simp] def u_R_bind_2 := @VS.R.bind.eq_2
@[simp] def u_R_bind_3 := @VS.R.bind.eq_3
@[simp] def u_clr_1 := @VS.clr.eq_1
@[simp] def u_clr_2 := @VS.clr.eq_2
@[simp] def u_Md_isTmp_1 := @VS.Md.isTmp.eq_1
@[simp] def u_Md_isTmp_2 := @VS.Md.isTmp.eq_2
@[simp] def u_dIx_1 := @VS.dIx.eq_1
@[simp] def u_dpIx_1 := @VS.dpIx.eq_1
@[simp] def u_lstAt_1 := @VS.lstAt.eq_1
@[simp] def u_putAt_1 := @VS.putAt.eq_1
@[simp] def u_D_at_1 := @VS.D.at.eq_1
@[simp] def u_D_at_2 := @VS.D.at.eq_2
@[simp] def u_D_at_3 := @VS.D.at.eq_3
@[simp] def u_D_put_1 := @VS.D.put.eq_1
@[simp] def u_D_put_2 := @VS.D.put.eq_2
@[simp] def u_D_put_3 := @VS.D.put.eq_3
@[simp] def u_D_kids_1 := @VS.D.kids.eq_1
@[simp] def u_D_kids_2 := @VS.D.kids.eq_2
@[simp] def u_D_kids_3 := @VS.D.kids.eq_3
@[simp] def u_D_kids_4 := @VS.D.kids.eq_4
@[simp] def u_u1_1 := @VS.u1.eq_1
@[simp] def u_u1_2 := @VS.u1.eq_2
@[simp] def u_i2D_1 := @VS.i2D.eq_1
@[simp] def u_i2D_2 := @VS.i2D.eq_2
@[simp] def u_intD_1 := @VS.intD.eq_1
@[simp] def u_intD_2 := @VS.intD.eq_2
@[simp] def u_intD_3 := @VS.intD.eq_3
@[simp] def u_absD_1 := @VS.absD.eq_1
@[simp] def u_absD_2 := @VS.absD.eq_2
@[simp] def u_sumD_1 := @VS.sumD.eq_1
@[simp] def u_oAdd_1 := @VS.oAdd.eq_1
@[simp] def u_oAdd_2 := @VS.oAdd.eq_2
@[simp] def u_oAdd_3 := @VS.oAdd.eq_3
@[simp] def u_oAdd_4 := @VS.oAdd.eq_4
@[simp] def u_oAdd_5 := @VS.oAdd.eq_5
@[simp] def u_oInt_1 := @VS.oInt.eq_1
@[simp] def u_oInt_2 := @VS.oInt.eq_2
@[simp] def u_oInt0_1 := @VS.oInt0.eq_1
@[simp] def u_oInt0_2 := @VS.oInt0.eq_2
@[simp] def u_cmpD_1 := @VS.cmpD.eq_1
@[simp] def u_cmpD_2 := @VS.cmpD.eq_2
@[simp] def u_cmpD_3 := @VS.cmpD.eq_3
@[simp] def u_fnN_1 := @VS.fnN.eq_1
@[simp] def u_fnD_1 := @VS.fnD.eq_1
@[simp] def u_nox_1 := @VS.nox.eq_1
@[simp] def u_nox_2 := @VS.nox.eq_2
@[simp] def u_outs_1 := @VS.outs.eq_1
@[simp] def u_dCall_1 := @VS.dCall.eq_1
@[simp] def u_valOk_1 := @VS.valOk.eq_1
@[simp] def u_valOk_2 := @VS.valOk.eq_2
@[simp] def u_valOk_3 := @VS.valOk.eq_3
@[simp] def u_valFree_1 := @VS.valFree.eq_1
@[simp] def u_valFree_2 := @VS.valFree.eq_2
@[simp] def u_valFree_3 := @VS.valFree.eq_3
@[simp] def u_dCslot_1 := @VS.dCslot.eq_1
@[simp] def u_dCval_1 := @VS.dCval.eq_1
@[simp] def u_dCvalC_1 := @VS.dCvalC.eq_1
@[simp] def u_dCnil_1 := @VS.dCnil.eq_1
@[simp] def u_ixs_1 := @VS.ixs.eq_1
@[simp] def u_ixs_2 := @VS.ixs.eq_2
@[simp] def u_ixs_3 := @VS.ixs.eq_3
@[simp] def u_ixs_4 := @VS.ixs.eq_4
@[simp] def u_putD_1 := @VS.putD.eq_1
@[simp] def u_putD'_1 := @VS.putD'.eq_1
@[simp] def u_putD'_2 := @VS.putD'.eq_2
@[simp] def u_putD'_3 := @VS.putD'.eq_3
@[simp] def u_putD'_4 := @VS.putD'.eq_4
@[simp] def u_wipeD_1 := @VS.wipeD.eq_1
@[simp] def u_D_has_1 := @VS.D.has.eq_1
@[simp] def u_D_has_2 := @VS.D.has.eq_2
@[simp] def u_D_has_3 := @VS.D.has.eq_3
@[simp] def u_D_hass_1 := @VS.D.hass.eq_1
@[simp] def u_D_hass_2 := @VS.D.hass.eq_2
@[simp] def u_D_fz_1 := @VS.D.fz.eq_1
@[simp] def u_D_fz_2 := @VS.D.fz.eq_2
@[simp] def u_D_fz_3 := @VS.D.fz.eq_3
@[simp] def u_D_fzs_1 := @VS.D.fzs.eq_1
@[simp] def u_D_fzs_2 := @VS.D.fzs.eq_2
@[simp] def u_dDis_1 := @VS.dDis.eq_1
@[simp] def u_chkT_1 := @VS.chkT.eq_1
@[simp] def u_dVof_1 := @VS.dVof.eq_1
@[simp] def u_dAconsC_1 := @VS.dAconsC.eq_1
@[simp] def u_dAconsI_1 := @VS.dAconsI.eq_1
@[simp] def u_dMeth_1 := @VS.dMeth.eq_1
@[simp] def u_mAppend_1 := @VS.mAppend.eq_1
@[simp] def u_mAppend_2 := @VS.mAppend.eq_2
@[simp] def u_D_isStr_1 := @VS.D.isStr.eq_1
@[simp] def u_D_isStr_2 := @VS.D.isStr.eq_2
@[simp] def u_D_isLst_1 := @VS.D.isLst.eq_1
@[simp] def u_D_isLst_2 := @VS.D.isLst.eq_2
@[simp] def u_D_isLst_3 := @VS.D.isLst.eq_3
@[simp] def u_D_tru_1 := @VS.D.tru.eq_1
@[simp] def u_D_tru_2 := @VS.D.tru.eq_2
@[simp] def u_D_tru_3 := @VS.D.tru.eq_3
@[simp] def u_D_tru_4 := @VS.D.tru.eq_4
@[simp] def u_D_tru_5 := @VS.D.tru.eq_5
@[simp] def u_D_tru_6 := @VS.D.tru.eq_6
@[simp] def u_D_tru_7 := @VS.D.tru.eq_7
@[simp] def u_D_tru_8 := @VS.D.tru.eq_8
@[simp] def u_D_tru_9 := @VS.D.tru.eq_9
@[simp] def u_dFld_1 := @VS.dFld.eq_1
theorem has_ints (q : NK → Bool) : ∀ cs : List Int, D.hass q (cs.map D.int) = false
  | [] => rfl
  | c :: r => by rw [List.map_cons, D.hass, has_ints q r]; rfl
theorem log2_lt {i : Int} (h : i.natAbs < 2 ^ 400) : i.natAbs.log2 < 400 := by
  by_cases h0 : i.natAbs = 0
  · rw [h0]; decide
  · exact (Nat.log2_lt h0).mpr h
theorem oMul_s {i j : Int} (h1 : -(10 ^ 100) < i) (h2 : i < 10 ^ 100) (h3 : -(10 ^ 100) < j) (h4 : j < 10 ^ 100) : oMul (.v (.int i)) (.v (.int j)) = some (.v (.int (i * j))) := by
  have a := log2_lt (i := i) (by omega)
  have b := log2_lt (i := j) (by omega)
  have h : i.natAbs.log2 + j.natAbs.log2 < 1000000 := by omega
  show (if i.natAbs.log2 + j.natAbs.log2 < 1000000 then _ else _) = _
  rw [if_pos h]
theorem oDiv_s {i j : Int} (h1 : 0 < j) (h2 : j < 10 ^ 100) : oDiv (.v (.int i)) (.v (.int j)) = some (.v (.int (i / j))) := by
  have a := log2_lt (i := j) (by omega)
  show (if decide (0 < j ∧ j.natAbs.log2 < 9000) = true then _ else _) = _
  rw [if_pos (by simp only [decide_eq_true_eq]; exact ⟨h1, by omega⟩)]
theorem oMod_s {i j : Int} (h1 : 0 < j) : oMod (.v (.int i)) (.v (.int j)) = some (.v (.int (i % j))) := by
  show (if decide (0 < j) = true then _ else _) = _
  rw [if_pos (decide_eq_true h1)]
theorem ix_lst {o : Bool} {xs : List D} {p : Int} (h0 : 0 ≤ p) : ixD (.nd (.lst o) xs) (.v (.int p)) = xs[p.toNat]? := by
  unfold ixD
  simp only [D.kids]
  unfold ixN
  rw [if_pos h0]
  by_cases h : p < (xs.length : Int)
  · rw [if_pos h]
  · rw [if_neg h, List.getElem?_eq_none (by omega)]
theorem ix_tup {xs : List D} {p : Int} (h0 : 0 ≤ p) : ixD (.nd .tup xs) (.v (.int p)) = xs[p.toNat]? := by
  unfold ixD
  simp only [D.kids]
  unfold ixN
  rw [if_pos h0]
  by_cases h : p < (xs.length : Int)
  · rw [if_pos h]
  · rw [if_neg h, List.getElem?_eq_none (by omega)]
theorem ixN_pos {n : Nat} {p : Int} (h0 : 0 ≤ p) (h1 : p < n) : ixN n p = some p.toNat := by unfold ixN; rw [if_pos h0, if_pos h1]
theorem len_ints {o : Bool} {cs : List Int} : lenD (.nd (.lst o) (cs.map D.int)) = some (.int cs.length) := by simp [lenD]

@[simp] theorem eqD_int {i j : Int} : eqD (.v (.int i)) (.v (.int j)) = some (decide (i = j)) := by
  unfold eqD; simp [scal]
@[simp] theorem eqD_bl {i j : Bool} : eqD (.v (.bl i)) (.v (.bl j)) = some (decide (i = j)) := by
  unfold eqD; simp [scal]
@[simp] theorem eqD_str {i j : Str} : eqD (.v (.str i)) (.v (.str j)) = some (decide (i = j)) := by
  unfold eqD; simp [scal]
@[simp] theorem neD_int {i j : Int} : neD (.v (.int i)) (.v (.int j)) = some (!decide (i = j)) := by unfold neD; rw [eqD_int]; rfl
@[simp] theorem neD_bl {i j : Bool} : neD (.v (.bl i)) (.v (.bl j)) = some (!decide (i = j)) := by unfold neD; rw [eqD_bl]; rfl
@[simp] theorem neD_str {i j : Str} : neD (.v (.str i)) (.v (.str j)) = some (!decide (i = j)) := by unfold neD; rw [eqD_str]; rfl
theorem has_strs (q : NK → Bool) : ∀ cs : List Str, D.hass q (cs.map D.str) = false
  | [] => rfl
  | c :: r => by rw [List.map_cons, D.hass, has_strs q r]; rfl
theorem fzs_strs : ∀ cs : List Str, D.fzs (cs.map D.str) = cs.map D.str
  | [] => rfl
  | c :: r => by rw [List.map_cons, D.fzs, fzs_strs r]; rfl
theorem fzs_ints : ∀ cs : List Int, D.fzs (cs.map D.int) = cs.map D.int
  | [] => rfl
  | c :: r => by rw [List.map_cons, D.fzs, fzs_ints r]; rfl
theorem strs_map : ∀ cs : List Str, D.strs (cs.map D.str) = some cs
  | [] => rfl
  | c :: r => by rw [List.map_cons, D.strs, strs_map r]; rfl
theorem ints_map : ∀ cs : List Int, D.ints (cs.map D.int) = some cs
  | [] => rfl
  | c :: r => by rw [List.map_cons, D.ints, ints_map r]; rfl
/-- a for loop that runs to its end -/
theorem forL_inv {g : Gd} {body : S} (I : List D → List D → Prop) (step : ∀ x r s, I (x :: r) s → ∃ s1 s2, g x s = some s1 ∧ (body s1 = .nx s2 ∨ body s1 = .ct s2) ∧ I r s2) : ∀ (xs s : List D), I xs s → ∃ s', forL g body xs s = .nx s' ∧ I [] s'
  | [], s, h => ⟨s, by rw [forL], h⟩
  | x :: r, s, h => by
    obtain ⟨s1, s2, e1, e2, h2⟩ := step x r s h
    obtain ⟨s', e3, h3⟩ := forL_inv I step r s2 h2
    refine ⟨s', ?_, h3⟩
    rw [forL, e1]
    rcases e2 with e2 | e2
    · simp only [e2, e3]
    · simp only [e2, e3]
/-- a list comprehension -/
theorem lcL_inv {vs : List Nat} {g : Gd} {c : B} {m : Md} {e : E} (I : List D → List D → List D → Prop)
    (step : ∀ x r s acc, I (x :: r) s acc → ∃ s1, g x s = some s1 ∧ ((∃ q, c s1 = .ok (true, q) ∧ ∃ p, e q = .ok p ∧ (m.isTmp || !p.1.hasOwn) = true ∧ I r (wipeD vs p.2) (acc ++ [p.1])) ∨ ∃ q, c s1 = .ok (false, q) ∧ I r (wipeD vs q) acc)) :
    ∀ (xs s acc : List D), I xs s acc → ∃ z, lcL vs g c m e xs s = .ok z ∧ I [] z.2 (acc ++ z.1)
  | [], s, acc, h => ⟨([], s), by rw [lcL], by rw [List.append_nil]; exact h⟩
  | x :: r, s, acc, h => by
    obtain ⟨s1, e1, h1⟩ := step x r s acc h
    rcases h1 with ⟨q, e2, p, e3, hp, h2⟩ | ⟨q, e2, h2⟩
    · obtain ⟨z, e4, h4⟩ := lcL_inv I step r (wipeD vs p.2) (acc ++ [p.1]) h2
      refine ⟨(p.1 :: z.1, z.2), ?_, by rw [List.append_assoc] at h4; exact h4⟩
      rw [lcL, e1]
      simp only [e2, nox, R.bind, if_true, e3]
      rw [if_pos hp, e4]
    · obtain ⟨z, e4, h4⟩ := lcL_inv I step r (wipeD vs q) acc h2
      refine ⟨z, ?_, h4⟩
      rw [lcL, e1]
      simp only [e2, nox, R.bind, Bool.false_eq_true, if_false, e4]
end VS

namespace VS
open PySem PySem.Spec PyProof.Rows L2
/-! ### texts of signs 0 and 1 -/
abbrev Str.cs (z : Str) : List Nat := z.cps.toList
def Bits (z : Str) : Prop := ∀ c ∈ Str.cs z, c = 48 ∨ c = 49
def bit (b : Bool) : Str := if b = true then ⟨#[49]⟩ else ⟨#[48]⟩
theorem str_ext {x y : Str} (h : Str.cs x = Str.cs y) : x = y := by
  cases x; cases y
  simp only [Str.cs, Array.toList_inj] at h
  rw [h]
theorem cs_append (x y : Str) : Str.cs (x ++ y) = Str.cs x ++ Str.cs y := by
  show (x.append y).cps.toList = _
  unfold PySem.Str.append
  simp [Str.cs]
theorem cs_len (x : Str) : (Str.cs x).length = x.length := by simp [Str.cs, PySem.Str.length]
theorem bits_append {x y : Str} (hx : Bits x) (hy : Bits y) : Bits (x ++ y) := fun c hc => by
  rw [cs_append, List.mem_append] at hc
  exact hc.elim (hx c) (hy c)
theorem bit_bits (b : Bool) : Bits (bit b) := by
  intro c hc
  cases b
  · exact .inl (by simpa [bit, Str.cs] using hc)
  · exact .inr (by simpa [bit, Str.cs] using hc)
theorem bit_len (b : Bool) : (bit b).length = 1 := by cases b <;> rfl
theorem s01 : ("01" : Str) = ⟨#[48, 49]⟩ := by decide +kernel
theorem s10 : ("10" : Str) = ⟨#[49, 48]⟩ := by decide +kernel
theorem s1 : ("1" : Str) = bit true := by decide +kernel
theorem s0 : ("0" : Str) = bit false := by decide +kernel
theorem sE : ("" : Str) = ⟨#[]⟩ := by decide +kernel
theorem ix_s {z : Str} {j : Int} (hz : z.length ≤ 10000) : ixD (.v (.str z)) (.v (.int j)) = (atI z.cps.toList j).map fun c => .v (.str ⟨#[c]⟩) := by
  show (if z.length ≤ sizeLine then _ else _) = _
  rw [if_pos (by rw [sizeLine_eq]; omega)]
theorem ix01 {d : Int} (h0 : 0 ≤ d) (h1 : d < 2) : ixD (.v (.str "01")) (.v (.int d)) = some (.v (.str (bit (decide (d = 1))))) := by
  have : d = 0 ∨ d = 1 := by omega
  rcases this with rfl | rfl
  · rw [s01, ix_s (by decide)]; rfl
  · rw [s01, ix_s (by decide)]; rfl
theorem ix10 {d : Int} (h0 : 0 ≤ d) (h1 : d < 2) : ixD (.v (.str "10")) (.v (.int d)) = some (.v (.str (bit (decide (d = 0))))) := by
  have : d = 0 ∨ d = 1 := by omega
  rcases this with rfl | rfl
  · rw [s10, ix_s (by decide)]; rfl
  · rw [s10, ix_s (by decide)]; rfl
theorem join_cs : ∀ zs : List Str, Str.cs (Txt.join "" zs) = (zs.map Str.cs).flatten := by
  intro zs
  show Str.cs (Builtin.Str.glued "" zs) = _
  rw [StrLaws.glued_eq_join]
  induction zs with
  | nil => rfl
  | cons x r ih =>
    cases r with
    | nil => simp [PySem.Str.join, Str.cs]
    | cons y r =>
      rw [show PySem.Str.join "" (x :: y :: r) = x ++ "" ++ PySem.Str.join "" (y :: r) from rfl, cs_append, cs_append, ih]
      simp [sE, Str.cs]
theorem join_ok1 {zs : List Str} (h1 : ∀ z ∈ zs, z.length = 1) (hb : ∀ z ∈ zs, Bits z) : (Txt.join "" zs).length = zs.length ∧ Bits (Txt.join "" zs) := by
  constructor
  · rw [← cs_len, join_cs]
    induction zs with
    | nil => rfl
    | cons x r ih =>
      rw [List.map_cons, List.flatten_cons, List.length_append, ih (fun z m => h1 z (List.mem_cons_of_mem _ m)) (fun z m => hb z (List.mem_cons_of_mem _ m)), cs_len, h1 x List.mem_cons_self, List.length_cons]
      omega
  · intro c hc
    rw [join_cs, List.mem_flatten] at hc
    obtain ⟨l, ml, mc⟩ := hc
    obtain ⟨z, mz, rfl⟩ := List.mem_map.mp ml
    exact hb z mz c mc
theorem sum_len1 : ∀ {zs : List Str}, (∀ z ∈ zs, z.length = 1) → (zs.map (·.length)).sum = zs.length
  | [], _ => rfl
  | x :: r, h => by rw [List.map_cons, List.sum_cons, h x List.mem_cons_self, sum_len1 fun z m => h z (List.mem_cons_of_mem _ m), List.length_cons]; omega
theorem join_d {o : Bool} {zs : List Str} (h1 : ∀ z ∈ zs, z.length = 1) (hl : zs.length ≤ 1000) : joinD [.v (.str ""), .nd (.lst o) (zs.map D.str)] = some (.v (.str (Txt.join "" zs))) := by
  unfold joinD seqS
  simp only [strs_map]
  rw [if_pos]
  rw [sum_len1 h1, sE]
  show zs.length + zs.length * 0 ≤ _
  omega
theorem cnt_bits : ∀ {l : List Nat}, (∀ c ∈ l, c = 48 ∨ c = 49) → PyProof.Rows.cnt 48 l + PyProof.Rows.cnt 49 l = (l.length : Nat)
  | [], _ => rfl
  | c :: r, h => by
    have ih := cnt_bits (l := r) fun x m => h x (List.mem_cons_of_mem _ m)
    rw [PyProof.Rows.cnt_cons, PyProof.Rows.cnt_cons, List.length_cons]
    rcases h c List.mem_cons_self with rfl | rfl
    · simp; omega
    · simp; omega
theorem count_sum {z : Str} (h : Bits z) : Txt.count z (bit false) + Txt.count z (bit true) = (z.length : Nat) := by
  show Txt.count z ⟨#[48]⟩ + Txt.count z ⟨#[49]⟩ = _
  rw [count_cnt, count_cnt, ← cs_len]
  exact cnt_bits h
/-! ### ranges -/
def rangeD (n : Nat) : List D := (List.range n).map fun (i : Nat) => D.int (i : Int)
theorem rangeD_len (n : Nat) : (rangeD n).length = n := by unfold rangeD; rw [List.length_map, List.length_range]
theorem rangeD_has (q : NK → Bool) (n : Nat) : D.hass q (rangeD n) = false := by
  have : rangeD n = ((List.range n).map fun (i : Nat) => (i : Int)).map D.int := by unfold rangeD; rw [List.map_map]; rfl
  rw [this]; exact has_ints q _
theorem rg1_ok {d : EA} {s s' : List D} {w : Int} (h : d s = .ok ([.v (.int w)], s')) (h0 : -1000000 ≤ w) (h1 : w ≤ 1000000) : dRg1 d s = .ok ((.v .non, rangeD w.toNat), s') := by
  unfold dRg1
  rw [h]
  have hb : w.natAbs < 4000000000000000000 := by omega
  simp only [R.bind, if_pos hb]
  unfold rangeD
  simp
theorem for_rg {mb : List Nat} {it : I} {g : Gd} {body : S} {s s1 : List D} {n : Nat} (h : it s = .ok ((.v .non, rangeD n), s1)) : sFor .tmp mb it g body s = forL g body (rangeD n) s1 := by
  unfold sFor
  rw [h]
  simp [rangeD_has]
theorem lc_rg {mb vs : List Nat} {it : I} {g : Gd} {c : B} {m : Md} {e : E} {s s1 : List D} {n : Nat} (h : it s = .ok ((.v .non, rangeD n), s1)) (hn : n ≤ 1000000) : dLc .tmp mb vs it g c m e s = (lcL vs g c m e (rangeD n) (wipeD vs s1)).bind fun z => .ok (.nd (.lst true) z.1, z.2) := by
  unfold dLc
  rw [h]
  have hl : n ≤ sizeLine := by rw [sizeLine_eq]; omega
  simp [rangeD_has, rangeD_len, hl]
end VS

namespace VS
open PySem PySem.Spec PyProof.Rows L2
/-! ### the law's own def at a script -/
def spLaw (K : PySem.W.Frag) : Sp := fun vs H Q _ => ∃ (a : Addr) (ns : List Int), vs = [.ref a] ∧ Only H ∧ SqL K H a (ns.map V.int) ∧ ns.length ≤ 63 ∧ ∀ H', Q (.bl true) H'
theorem law_imp {K : PySem.W.Frag} {F : FD} (hF : ∀ ns : List Int, ns.length ≤ 63 → ∃ os, F [.nd .scr (ns.map D.int)] = .ok (.v (.bl true), os)) {vs : List V} {H : Hp} {Q : VK} {E : XK} (h : spLaw K vs H Q E) : spOf K [.val] F vs H Q E := by
  obtain ⟨a, ns, rfl, hO, hS, hl, q⟩ := h
  have er : T.ers (ns.map fun n => T.v (.int n)) = ns.map D.int := ers_ints ns
  have rt : T.rts (ns.map fun n => T.v (.int n)) = ns.map V.int := rts_ints ns
  have atom : ∀ c ∈ ns.map fun n => T.v (.int n), ∃ v, c = T.v v := fun c m => by
    obtain ⟨n, _, e⟩ := List.mem_map.mp m; exact ⟨_, e.symm⟩
  have own0 : (T.nd a .scr (ns.map fun n => T.v (.int n))).own = [] := by
    refine T.own_nil ?_
    rw [T.er, er]
    show (NK.isOwn .scr || D.hass NK.isOwn (ns.map D.int)) = false
    rw [has_ints]; rfl
  refine ⟨[.nd a .scr (ns.map fun n => T.v (.int n))], rfl, fun t m => ?_, .cons (T.good_of own0) (fun _ m => nomatch m) .nil, rfl, fun i t e _ => ?_, fun t m => ?_, ?_⟩
  · rw [List.mem_singleton.mp m, T.ok]
    refine ⟨?_, T.oks_all.mpr fun c mc => ?_⟩
    · rw [rt]
      rcases hS with (z | z) | z
      · rcases hO a with y | ⟨o, xs, y⟩
        · rw [z] at y; cases y
        · rw [z] at y; cases y
      · exact .inl z
      · exact .inr z
    · obtain ⟨v, rfl⟩ := atom c mc; trivial
  · cases i with
    | zero => cases e; exact own0
    | succ i => cases e
  · rw [List.mem_singleton.mp m]; intro z; cases z
  · obtain ⟨os, e⟩ := hF ns hl
    show FPost K _ _ _ H Q E (F [.nd .scr (T.ers (ns.map fun n => T.v (.int n)))])
    rw [er, e]
    intro t us H' et _ _ _ _ _ _ _
    have := er_v et; subst this
    exact q H'
theorem law_walk {l : PySem.W.OpenLaw} {q : Program} {loose : List Str} {XP : (Str → Option Value) → Heap → Prop} {YP : World → Heap → Prop} {d : DefRec} {K : Params → PySem.W.Frag} {kk : Nat} {DL : Addr → FD} (hn : l.most = some 63) (hdf : d.params.defaults = []) (hr : Room kk callerA)
    (hY : ∀ (w : World) (h : Heap), YP w h → (K w.params).In h) (hD : ∀ (C : Addr) (ns : List Int), ns.length ≤ 63 → ∃ os, DL C [.nd .scr (ns.map D.int)] = .ok (.v (.bl true), os))
    (F : ∀ (w : World) (mg : Str → Option Value) (fa : Addr) (h : Heap), (K w.params).In h → h.Ns mainGlobals mg → mg d.name = some (.ref fa) →
      ∃ (C : Addr) (fd : FuncData), (∀ (s : Shared) (u : Value), BindsTo s fd ⟨[u], []⟩ [("script", u)]) ∧ ∀ base : Heap, (K w.params).In base → base.Ns mainGlobals mg → FnOk l.prog w (K w.params) mg base CX0 kk fa fd ["script"] (spOf (K w.params) [.val] (DL C))) :
    PySem.W.WalkO q loose XP YP l.row.toRowW d [] (fun f vs => PySem.call f vs) :=
  L2.walk_of (n := 63) (k := kk) (x := "script") (CX := fun _ => CX0) (sp := fun w => spLaw (K w.params)) hn (by rw [sizeLine_eq]; decide) hdf hr hY (fun w mg fa h KX G hmg => by
    obtain ⟨C, fd, b, f⟩ := F w mg fa h KX G hmg
    exact ⟨fd, b, fun base k1 k2 => (f base k1 k2).imp fun vs H Q E h => law_imp (hD C) h⟩) (fun _ _ a ns hl hO hS => ⟨a, ns, rfl, hO, hS, hl, fun _ => rfl⟩) fun _ _ _ _ _ z => z
theorem kit_co {K : PySem.W.Frag} {C : Addr} {T : String} {r : Bool} (hm : PySem.W.kitMeta T = true) (h : PySem.W.mroIn K C (.type T) = some r) : PySem.W.kitOne K (.ref C) (.type T) = some r := by
  unfold PySem.W.kitOne
  rw [if_neg (by intro z; cases z)]
  show (if PySem.W.kitMeta T = true then PySem.W.subIn K (.ref C) (.type T) else none) = _
  rw [if_pos hm]
  exact h
theorem kit_cc {K : PySem.W.Frag} {C : Addr} : PySem.W.kitOne K (.ref C) (.ref C) = some true := by
  unfold PySem.W.kitOne
  rw [if_pos (by simp)]
theorem kit_bo {K : PySem.W.Frag} {C : Addr} {T : String} (h1 : PySem.W.isClsIn K C = true) (h2 : PySem.W.typeIn K (.ref C) = some (.type "type")) (hb : (PySem.fastBuiltinMro T).map (·.contains (Value.ref C)) = some false) : PySem.W.kitOne K (.type T) (.ref C) = some false := by
  unfold PySem.W.kitOne
  rw [if_neg (by intro z; cases z)]
  show (if ((PySem.W.clsIn K C).isSome && PySem.W.typeIn K (.ref C) == some (.type "type")) = true then PySem.W.subIn K (.type T) (.ref C) else none) = _
  have h3 : (PySem.W.clsIn K C).isSome = true := h1
  rw [if_pos (by rw [h3, h2]; simp)]
  exact hb
end VS

namespace VS
open PySem PySem.Spec PyProof.Rows L2
/-! ### loops that build -/
theorem lcL_map {α : Type} {vs : List Nat} {g : Gd} {c : B} {m : Md} {e : E} {s : List D} {enc F : α → D} : ∀ l : List α,
    (∀ a ∈ l, ∃ s1 s2, g (enc a) s = some s1 ∧ c s1 = .ok (true, s1) ∧ e s1 = .ok (F a, s2) ∧ (m.isTmp || !(F a).hasOwn) = true ∧ wipeD vs s2 = s) →
    lcL vs g c m e (l.map enc) s = .ok (l.map F, s)
  | [], _ => by rw [List.map_nil, lcL]; rfl
  | a :: r, h => by
    obtain ⟨s1, s2, e1, e2, e3, e4, e5⟩ := h a List.mem_cons_self
    rw [List.map_cons, lcL, e1]
    simp only [e2, nox, R.bind, if_true, e3]
    rw [if_pos e4, e5, lcL_map r fun b m => h b (List.mem_cons_of_mem _ m)]
    rfl
/-- with a test -/
theorem lcL_filter {α : Type} {vs : List Nat} {g : Gd} {c : B} {m : Md} {e : E} {s : List D} {enc F : α → D} {p : α → Bool} : ∀ l : List α,
    (∀ a ∈ l, ∃ s1, g (enc a) s = some s1 ∧ ((p a = true ∧ ∃ s2 s3, c s1 = .ok (true, s2) ∧ e s2 = .ok (F a, s3) ∧ (m.isTmp || !(F a).hasOwn) = true ∧ wipeD vs s3 = s) ∨ (p a = false ∧ ∃ s2, c s1 = .ok (false, s2) ∧ wipeD vs s2 = s))) →
    lcL vs g c m e (l.map enc) s = .ok ((l.filter p).map F, s)
  | [], _ => by rw [List.map_nil, lcL]; rfl
  | a :: r, h => by
    obtain ⟨s1, e1, h1⟩ := h a List.mem_cons_self
    have ih := lcL_filter r fun b m => h b (List.mem_cons_of_mem _ m)
    rw [List.map_cons, lcL, e1]
    rcases h1 with ⟨hp, s2, s3, e2, e3, e4, e5⟩ | ⟨hp, s2, e2, e5⟩
    · simp only [e2, nox, R.bind, if_true, e3]
      rw [if_pos e4, e5, ih, List.filter_cons_of_pos hp]
      rfl
    · simp only [e2, nox, R.bind, Bool.false_eq_true, if_false]
      rw [e5, ih, List.filter_cons_of_neg (by simp [hp])]
/-- a for loop over encoded items: the state behind a prefix is told by I -/
theorem forL_pre {α : Type} {g : Gd} {body : S} {enc : α → D} (I : List α → List D → Prop) : ∀ (l pre : List α) (s : List D), I pre s →
    (∀ pre' a post s, pre ++ l = pre' ++ a :: post → I pre' s → ∃ s1 s2, g (enc a) s = some s1 ∧ (body s1 = .nx s2 ∨ body s1 = .ct s2) ∧ I (pre' ++ [a]) s2) → ∃ s', forL g body (l.map enc) s = .nx s' ∧ I (pre ++ l) s'
  | [], pre, s, h, _ => ⟨s, by rw [List.map_nil, forL], by rw [List.append_nil]; exact h⟩
  | a :: r, pre, s, h, step => by
    obtain ⟨s1, s2, e1, e2, h2⟩ := step pre a r s rfl h
    obtain ⟨s', e3, h3⟩ := forL_pre I r (pre ++ [a]) s2 h2 fun pre' b post s e => step pre' b post s (by rw [← e]; simp)
    refine ⟨s', ?_, by simpa using h3⟩
    rw [List.map_cons, forL, e1]
    rcases e2 with e2 | e2
    · simp only [e2, e3]
    · simp only [e2, e3]
theorem rangeD_map (n : Nat) : rangeD n = (List.range n).map fun (i : Nat) => D.int (i : Int) := rfl
/-- over a range -/
theorem for_range {g : Gd} {body : S} {n : Nat} (I : Nat → List D → Prop) {s : List D} (h0 : I 0 s)
    (step : ∀ k s, k < n → I k s → ∃ s1 s2, g (.int (k : Int)) s = some s1 ∧ (body s1 = .nx s2 ∨ body s1 = .ct s2) ∧ I (k + 1) s2) : ∃ s', forL g body (rangeD n) s = .nx s' ∧ I n s' := by
  obtain ⟨s', e, h⟩ := forL_pre (g := g) (body := body) (enc := fun (i : Nat) => D.int (i : Int)) (fun pre s => I pre.length s) (List.range n) [] s h0 (fun pre a post s e h => by
    have hl : pre.length < n := by
      have := congrArg List.length e
      rw [List.nil_append, List.length_range, List.length_append, List.length_cons] at this
      omega
    have ha : a = pre.length := by
      have : (List.range n)[pre.length]? = some a := by
        rw [List.nil_append] at e
        rw [e, List.getElem?_append_right (Nat.le_refl _), Nat.sub_self]; rfl
      rw [List.getElem?_range hl] at this
      exact (Option.some.inj this).symm
    subst ha
    obtain ⟨s1, s2, e1, e2, h2⟩ := step pre.length s hl h
    exact ⟨s1, s2, e1, e2, by rw [List.length_append]; exact h2⟩)
  refine ⟨s', e, ?_⟩
  simpa using h
/-! ### rows of signs as functions -/
def mkRow (n : Nat) (f : Nat → Bool) : Str := ⟨((List.range n).map fun j => if f j = true then 49 else 48).toArray⟩
theorem mkRow_cs (n : Nat) (f : Nat → Bool) : Str.cs (mkRow n f) = (List.range n).map fun j => if f j = true then 49 else 48 := rfl
theorem mkRow_len (n : Nat) (f : Nat → Bool) : (mkRow n f).length = n := by rw [← cs_len, mkRow_cs]; simp
theorem mkRow_bits (n : Nat) (f : Nat → Bool) : Bits (mkRow n f) := by
  intro c hc
  rw [mkRow_cs, List.mem_map] at hc
  obtain ⟨j, _, rfl⟩ := hc
  by_cases h : f j = true
  · rw [if_pos h]; exact .inr rfl
  · rw [if_neg h]; exact .inl rfl
theorem bit_cs (b : Bool) : Str.cs (bit b) = [if b = true then 49 else 48] := by cases b <;> rfl
theorem join_mkRow (n : Nat) (f : Nat → Bool) : Txt.join "" ((List.range n).map fun j => bit (f j)) = mkRow n f := by
  apply str_ext
  rw [join_cs, mkRow_cs, List.map_map]
  generalize List.range n = l
  induction l with
  | nil => rfl
  | cons a r ih => rw [List.map_cons, List.flatten_cons, ih, List.map_cons]; show Str.cs (bit (f a)) ++ _ = _; rw [bit_cs]; rfl
def rowAt (z : Str) (j : Nat) : Bool := (Str.cs z).getD j 0 == 49
theorem rowAt_mk {n : Nat} {f : Nat → Bool} {j : Nat} (h : j < n) : rowAt (mkRow n f) j = f j := by
  unfold rowAt
  rw [mkRow_cs, List.getD_eq_getElem?_getD, List.getElem?_map, List.getElem?_range h]
  cases e : f j <;> simp [e]
theorem row_mk {z : Str} (hb : Bits z) : z = mkRow z.length (rowAt z) := by
  apply str_ext
  rw [mkRow_cs]
  apply List.ext_getElem?
  intro j
  rw [List.getElem?_map]
  by_cases h : j < z.length
  · rw [List.getElem?_range h]
    have hl : j < (Str.cs z).length := by rw [cs_len]; exact h
    rw [List.getElem?_eq_getElem hl]
    simp only [Option.map_some, Option.some.injEq]
    unfold rowAt
    rw [List.getD_eq_getElem?_getD, List.getElem?_eq_getElem hl, Option.getD_some]
    rcases hb _ (List.getElem_mem hl) with q | q <;> rw [q] <;> rfl
  · rw [List.getElem?_eq_none (by rw [cs_len]; omega), List.getElem?_eq_none (by rw [List.length_range]; omega)]; rfl
theorem mkRow_congr {n : Nat} {f g : Nat → Bool} (h : ∀ j, j < n → f j = g j) : mkRow n f = mkRow n g := by
  apply str_ext
  rw [mkRow_cs, mkRow_cs]
  exact List.map_congr_left fun j m => by rw [h j (List.mem_range.mp m)]
theorem mkRow_inj {n : Nat} {f g : Nat → Bool} (h : mkRow n f = mkRow n g) : ∀ j, j < n → f j = g j := fun j hj => by
  rw [← rowAt_mk (n := n) (f := f) hj, h, rowAt_mk hj]
def mk (h w : Nat) (f : Nat → Nat → Bool) : List Str := (List.range h).map fun i => mkRow w (f i)
theorem mk_len (h w : Nat) (f : Nat → Nat → Bool) : (mk h w f).length = h := by unfold mk; simp
theorem mk_congr {h w : Nat} {f g : Nat → Nat → Bool} (e : ∀ i j, i < h → j < w → f i j = g i j) : mk h w f = mk h w g :=
  List.map_congr_left fun i m => mkRow_congr fun j hj => e i j (List.mem_range.mp m) hj
theorem mk_get {h w : Nat} {f : Nat → Nat → Bool} {i : Nat} (hi : i < h) : (mk h w f)[i]? = some (mkRow w (f i)) := by
  unfold mk; rw [List.getElem?_map, List.getElem?_range hi]; rfl
theorem mk_inj {h w : Nat} {f g : Nat → Nat → Bool} (e : mk h w f = mk h w g) : ∀ i j, i < h → j < w → f i j = g i j := fun i j hi hj => by
  have := mk_get (w := w) (f := f) hi
  rw [e, mk_get hi] at this
  exact (mkRow_inj (Option.some.inj this) j hj).symm
theorem mk_mem {h w : Nat} {f : Nat → Nat → Bool} {z : Str} (m : z ∈ mk h w f) : z.length = w ∧ Bits z := by
  obtain ⟨i, _, rfl⟩ := List.mem_map.mp m
  exact ⟨mkRow_len _ _, mkRow_bits _ _⟩
theorem rows_mk {rows : List Str} {w : Nat} (hw : ∀ z ∈ rows, z.length = w ∧ Bits z) : ∃ f, rows = mk rows.length w f := by
  refine ⟨fun i => rowAt (rows.getD i ""), ?_⟩
  apply List.ext_getElem?
  intro i
  by_cases h : i < rows.length
  · rw [mk_get h, List.getElem?_eq_getElem h, List.getD_eq_getElem?_getD, List.getElem?_eq_getElem h, Option.getD_some]
    obtain ⟨l, b⟩ := hw _ (List.getElem_mem h)
    conv => lhs; rw [row_mk b, l]
  · rw [List.getElem?_eq_none (by omega), List.getElem?_eq_none (by rw [mk_len]; omega)]
/-- rows as trees -/
def rowsD (h w : Nat) (f : Nat → Nat → Bool) : List D := (mk h w f).map D.str
theorem rowsD_get {h w : Nat} {f : Nat → Nat → Bool} {i : Nat} (hi : i < h) : (rowsD h w f)[i]? = some (.v (.str (mkRow w (f i)))) := by
  unfold rowsD
  rw [List.getElem?_map, mk_get hi]; rfl
@[simp] theorem rowsHas {q : NK → Bool} {h w : Nat} {f : Nat → Nat → Bool} : D.hass q (rowsD h w f) = false := has_strs _ _
@[simp] theorem rowsFz {h w : Nat} {f : Nat → Nat → Bool} : D.fzs (rowsD h w f) = rowsD h w f := fzs_strs _
theorem rowsD_zero (w : Nat) (f : Nat → Nat → Bool) : rowsD 0 w f = [] := rfl
theorem rowsD_eq {rows : List Str} {w : Nat} (hw : ∀ z ∈ rows, z.length = w ∧ Bits z) : ∃ f, rows.map D.str = rowsD rows.length w f := by
  obtain ⟨f, e⟩ := rows_mk hw
  exact ⟨f, congrArg (List.map D.str) e⟩
theorem rowsD_map (h w : Nat) (f : Nat → Nat → Bool) : rowsD h w f = (List.range h).map fun i => D.str (mkRow w (f i)) := by unfold rowsD mk; rw [List.map_map]; rfl
@[simp] theorem rowsD_len (h w : Nat) (f : Nat → Nat → Bool) : (rowsD h w f).length = h := by unfold rowsD; rw [List.length_map, mk_len]
theorem rowsD_succ (h w : Nat) (f : Nat → Nat → Bool) : rowsD (h + 1) w f = rowsD h w f ++ [.v (.str (mkRow w (f h)))] := by
  simp [rowsD, mk, List.range_succ]
theorem ix_row {w : Nat} {f : Nat → Bool} {j : Int} (hw : w ≤ 10000) (j0 : 0 ≤ j) (j1 : j < w) : ixD (.v (.str (mkRow w f))) (.v (.int j)) = some (.v (.str (bit (f j.toNat)))) := by
  rw [ix_s (by rw [mkRow_len]; exact hw)]
  have hl : j.toNat < w := by omega
  have e : atI (mkRow w f).cps.toList j = some (if f j.toNat = true then 49 else 48) := by
    unfold atI
    rw [ixN_pos j0 (by show j < ((Str.cs (mkRow w f)).length : Nat); rw [cs_len, mkRow_len]; exact j1)]
    show (Str.cs (mkRow w f))[j.toNat]? = _
    rw [mkRow_cs, List.getElem?_map, List.getElem?_range hl]; rfl
  rw [e]
  cases f j.toNat <;> rfl
theorem len_row {w : Nat} {f : Nat → Bool} (hw : w ≤ 10000) : lenD (.v (.str (mkRow w f))) = some (.v (.int w)) := by
  show (if (mkRow w f).length ≤ sizeLine then _ else _) = _
  rw [mkRow_len, if_pos (by rw [sizeLine_eq]; omega)]
theorem len_rows {o : Bool} {h w : Nat} {f : Nat → Nat → Bool} : lenD (.nd (.lst o) (rowsD h w f)) = some (.v (.int h)) := by simp [lenD]
theorem len_rowsT {h w : Nat} {f : Nat → Nat → Bool} : lenD (.nd .tup (rowsD h w f)) = some (.v (.int h)) := by simp [lenD]
end VS
namespace VS
open PySem PySem.Spec PyProof.Rows L2
theorem lc_it {α : Type} {l : List α} {enc F : α → D} {m0 : Md} {vs mb : List Nat} {it : I} {c : B} {g : Gd} {m : Md} {e : E} {s s1 s2 : List D} {x : D} (h : it s = .ok ((x, l.map enc), s1)) (hc : (clr m0 mb || !x.hasOwn) = true)
    (ho : D.hass NK.isOwn (l.map enc) = false) (hl : l.length ≤ 10000) (hs : wipeD vs s1 = s2)
    (he : ∀ a ∈ l, ∃ t1 t2, g (enc a) s2 = some t1 ∧ c t1 = .ok (true, t1) ∧ e t1 = .ok (F a, t2) ∧ (m.isTmp || !(F a).hasOwn) = true ∧ wipeD vs t2 = s2) : dLc m0 mb vs it g c m e s = .ok (.nd (.lst true) (l.map F), s2) := by
  unfold dLc
  rw [h]
  have hz : l.length ≤ sizeLine := by rw [sizeLine_eq]; omega
  simp only [R.bind]
  rw [if_pos (by rw [hc, ho, List.length_map, decide_eq_true hz]; rfl), hs, lcL_map (F := F) l he]
theorem lc_range {vs mb : List Nat} {it : I} {c : B} {g : Gd} {m : Md} {e : E} {s s1 s2 : List D} {n : Nat} {F : Nat → D} (h : it s = .ok ((.v .non, rangeD n), s1)) (hn : n ≤ 1000000) (hs : wipeD vs s1 = s2)
    (he : ∀ k, k < n → ∃ t1 t2, g (.int (k : Int)) s2 = some t1 ∧ c t1 = .ok (true, t1) ∧ e t1 = .ok (F k, t2) ∧ (m.isTmp || !(F k).hasOwn) = true ∧ wipeD vs t2 = s2) : dLc .tmp mb vs it g c m e s = .ok (.nd (.lst true) ((List.range n).map F), s2) := by
  rw [lc_rg h hn, hs, rangeD_map, lcL_map (F := F) (List.range n) (fun k m => he k (List.mem_range.mp m))]
  rfl
theorem for_it {m0 : Md} {mb : List Nat} {it : I} {g : Gd} {body : S} {s s1 : List D} {x : D} {xs : List D} (h : it s = .ok ((x, xs), s1)) (hc : (clr m0 mb || !x.hasOwn) = true) (ho : D.hass NK.isOwn xs = false) : sFor m0 mb it g body s = forL g body xs s1 := by
  unfold sFor
  rw [h]
  simp only
  rw [if_pos (by rw [hc, ho]; rfl)]
end VS

namespace VS
open PySem PySem.Spec PyProof.Rows L2
/-! ### lists compared -/
theorem datas_map {α : Type} {enc : α → D} {dat : α → PyData} (h : ∀ a, (enc a).data = some (dat a)) : ∀ l : List α, D.datas (l.map enc) = some (l.map dat)
  | [] => rfl
  | a :: r => by rw [List.map_cons, D.datas, h a, datas_map h r]; rfl
theorem eqvAll_map {α : Type} [DecidableEq α] {dat : α → PyData} (h : ∀ a b, PyData.eqv (dat a) (dat b) = decide (a = b)) : ∀ l m : List α, PyData.eqvAll (l.map dat) (m.map dat) = decide (l = m)
  | [], [] => rfl
  | [], b :: m => rfl
  | a :: l, [] => rfl
  | a :: l, b :: m => by
    rw [List.map_cons, List.map_cons, PyData.eqvAll, h, eqvAll_map h l m]
    by_cases e : a = b <;> by_cases f : l = m <;> simp [e, f]
theorem canAll_map {α : Type} {dat : α → PyData} : ∀ l : List α, (∀ a ∈ l, (dat a).canLay0 = true) → PyData.canLayAll0 (l.map dat) = true
  | [], _ => rfl
  | a :: l, h => by rw [List.map_cons, PyData.canLayAll0, h a List.mem_cons_self, canAll_map l fun b m => h b (List.mem_cons_of_mem _ m)]; rfl
theorem depthAll_map {α : Type} {dat : α → PyData} {n : Nat} : ∀ l : List α, (∀ a ∈ l, (dat a).depth ≤ n) → PyData.depthAll (l.map dat) ≤ n
  | [], _ => Nat.zero_le _
  | a :: l, h => by rw [List.map_cons, PyData.depthAll]; exact Nat.max_le.mpr ⟨h a List.mem_cons_self, depthAll_map l fun b m => h b (List.mem_cons_of_mem _ m)⟩
/-- a kind of data: its tree, its data, what equality says -/
theorem eqD_lsts {α : Type} [DecidableEq α] {enc : α → D} {dat : α → PyData} {a b : Bool} {l m : List α} (hd : ∀ a, (enc a).data = some (dat a)) (he : ∀ a b, PyData.eqv (dat a) (dat b) = decide (a = b))
    (hl : ∀ a ∈ l, (dat a).canLay0 = true ∧ (dat a).depth ≤ 60) (hm : ∀ a ∈ m, (dat a).canLay0 = true ∧ (dat a).depth ≤ 60) : eqD (.nd (.lst a) (l.map enc)) (.nd (.lst b) (m.map enc)) = some (decide (l = m)) := by
  have sh : ∀ l : List α, (∀ a ∈ l, (dat a).canLay0 = true ∧ (dat a).depth ≤ 60) → SeqAt.shaped (.list (l.map dat)) = true := fun l hl => by
    unfold SeqAt.shaped
    rw [PyData.canLay0, canAll_map l fun a m => (hl a m).1]
    have := depthAll_map l fun a m => (hl a m).2
    rw [PyData.depth]
    simp; omega
  have e : eqD (.nd (.lst a) (l.map enc)) (.nd (.lst b) (m.map enc)) = deepEq (.nd (.lst a) (l.map enc)) (.nd (.lst b) (m.map enc)) := rfl
  rw [e]
  unfold deepEq
  rw [D.data, D.data, datas_map hd, datas_map hd]
  simp only [Option.map_some]
  rw [sh l hl, sh m hm, if_pos (by rfl), PyData.eqv, eqvAll_map he]
theorem eqD_tups {α : Type} [DecidableEq α] {enc : α → D} {dat : α → PyData} {l m : List α} (hd : ∀ a, (enc a).data = some (dat a)) (he : ∀ a b, PyData.eqv (dat a) (dat b) = decide (a = b))
    (hl : ∀ a ∈ l, (dat a).canLay0 = true ∧ (dat a).depth ≤ 60) (hm : ∀ a ∈ m, (dat a).canLay0 = true ∧ (dat a).depth ≤ 60) : eqD (.nd .tup (l.map enc)) (.nd .tup (m.map enc)) = some (decide (l = m)) := by
  have sh : ∀ l : List α, (∀ a ∈ l, (dat a).canLay0 = true ∧ (dat a).depth ≤ 60) → SeqAt.shaped (.tuple (l.map dat)) = true := fun l hl => by
    unfold SeqAt.shaped
    rw [PyData.canLay0, canAll_map l fun a m => (hl a m).1]
    have := depthAll_map l fun a m => (hl a m).2
    rw [PyData.depth]
    simp; omega
  have e : eqD (.nd .tup (l.map enc)) (.nd .tup (m.map enc)) = deepEq (.nd .tup (l.map enc)) (.nd .tup (m.map enc)) := rfl
  rw [e]
  unfold deepEq
  rw [D.data, D.data, datas_map hd, datas_map hd]
  simp only [Option.map_some]
  rw [sh l hl, sh m hm, if_pos (by rfl), PyData.eqv, eqvAll_map he]
theorem str_beq (a b : Str) : (a == b) = decide (a = b) := by
  by_cases h : a = b
  · subst h; simp
  · simp [h]
theorem int_beq (a b : Int) : (a == b) = decide (a = b) := by
  by_cases h : a = b
  · subst h; simp
  · simp [h]
theorem eqD_strs {a b : Bool} {l m : List Str} (hl : ∀ z ∈ l, PyData.strOk z = true) (hm : ∀ z ∈ m, PyData.strOk z = true) : eqD (.nd (.lst a) (l.map D.str)) (.nd (.lst b) (m.map D.str)) = some (decide (l = m)) :=
  eqD_lsts (dat := .str) (fun _ => rfl) (fun a b => by rw [PyData.eqv, str_beq]) (fun z mz => ⟨hl z mz, Nat.zero_le _⟩) fun z mz => ⟨hm z mz, Nat.zero_le _⟩
theorem eqD_strsT {l m : List Str} (hl : ∀ z ∈ l, PyData.strOk z = true) (hm : ∀ z ∈ m, PyData.strOk z = true) : eqD (.nd .tup (l.map D.str)) (.nd .tup (m.map D.str)) = some (decide (l = m)) :=
  eqD_tups (dat := .str) (fun _ => rfl) (fun a b => by rw [PyData.eqv, str_beq]) (fun z mz => ⟨hl z mz, Nat.zero_le _⟩) fun z mz => ⟨hm z mz, Nat.zero_le _⟩
theorem eqD_ints {a b : Bool} {l m : List Int} : eqD (.nd (.lst a) (l.map D.int)) (.nd (.lst b) (m.map D.int)) = some (decide (l = m)) :=
  eqD_lsts (dat := .int) (fun _ => rfl) (fun a b => by rw [PyData.eqv, int_beq]) (fun z mz => ⟨rfl, Nat.zero_le _⟩) fun z mz => ⟨rfl, Nat.zero_le _⟩
theorem eqD_intsT {l m : List Int} : eqD (.nd .tup (l.map D.int)) (.nd .tup (m.map D.int)) = some (decide (l = m)) :=
  eqD_tups (dat := .int) (fun _ => rfl) (fun a b => by rw [PyData.eqv, int_beq]) (fun z mz => ⟨rfl, Nat.zero_le _⟩) fun z mz => ⟨rfl, Nat.zero_le _⟩
end VS
namespace VS
open PySem PySem.Spec PyProof.Rows L2
theorem bits_ok {z : Str} (h : Bits z) : PyData.strOk z = true := by
  unfold PyData.strOk
  rw [Array.all_eq_true']
  intro c hc
  rcases h c (by simpa [Str.cs] using hc) with rfl | rfl <;> decide
theorem rows_ok {h w : Nat} {f : Nat → Nat → Bool} : ∀ z ∈ mk h w f, PyData.strOk z = true := fun z m => bits_ok (mk_mem m).2
theorem eqD_rows {a b : Bool} {h w h' w' : Nat} {f g : Nat → Nat → Bool} : eqD (.nd (.lst a) (rowsD h w f)) (.nd (.lst b) (rowsD h' w' g)) = some (decide (mk h w f = mk h' w' g)) := eqD_strs rows_ok rows_ok
theorem eqD_rowsT {h w h' w' : Nat} {f g : Nat → Nat → Bool} : eqD (.nd .tup (rowsD h w f)) (.nd .tup (rowsD h' w' g)) = some (decide (mk h w f = mk h' w' g)) := eqD_strsT rows_ok rows_ok
theorem neD_rows {a b : Bool} {h w h' w' : Nat} {f g : Nat → Nat → Bool} : neD (.nd (.lst a) (rowsD h w f)) (.nd (.lst b) (rowsD h' w' g)) = some (!decide (mk h w f = mk h' w' g)) := by unfold neD; rw [eqD_rows]; rfl
end VS
namespace VS
open PySem PySem.Spec PyProof.Rows L2
theorem take_min {α : Type} (k : Nat) (l : List α) : l.take (min k l.length) = l.take k := by
  by_cases h : k ≤ l.length
  · rw [Nat.min_eq_left h]
  · rw [Nat.min_eq_right (by omega), List.take_of_length_le (Nat.le_refl _), List.take_of_length_le (by omega)]
theorem cutL_to {α : Type} (xs : List α) (k : Nat) : cutL xs none (some (k : Int)) = xs.take k := by
  unfold cutL
  rw [HT.sIx_nat, show HT.sIx xs.length 0 none = 0 from rfl, List.drop_zero, Nat.sub_zero, take_min]
theorem cutL_from {α : Type} (xs : List α) (k : Nat) : cutL xs (some (k : Int)) none = xs.drop k := by
  unfold cutL
  rw [HT.sIx_nat, show HT.sIx xs.length xs.length none = xs.length from rfl]
  by_cases h : k ≤ xs.length
  · rw [Nat.min_eq_left h, List.take_of_length_le (by rw [List.length_drop]; omega)]
  · rw [Nat.min_eq_right (by omega), List.drop_of_length_le (Nat.le_refl _), List.drop_of_length_le (by omega), List.take_nil]
theorem cutL_both {α : Type} (xs : List α) (a b : Nat) : cutL xs (some (a : Int)) (some (b : Int)) = (xs.drop a).take (b - a) := by
  unfold cutL
  rw [HT.sIx_nat, HT.sIx_nat]
  by_cases h : a ≤ xs.length
  · rw [Nat.min_eq_left h]
    by_cases h2 : b ≤ xs.length
    · rw [Nat.min_eq_left h2]
    · rw [Nat.min_eq_right (by omega), List.take_of_length_le (by rw [List.length_drop]; omega), List.take_of_length_le (by rw [List.length_drop]; omega)]
  · rw [Nat.min_eq_right (show xs.length ≤ a by omega), List.drop_of_length_le (Nat.le_refl _), List.drop_of_length_le (show xs.length ≤ a by omega)]; simp
theorem cutS_to (z : Str) (k : Nat) : Str.cs (cutS z none (some (k : Int))) = (Str.cs z).take k := by
  have e : Str.cs (cutS z none (some (k : Int))) = cutL (Str.cs z) none (some (k : Int)) := by unfold cutS cutL Str.cs; simp [PySem.Str.length]
  rw [e, cutL_to]
theorem cutS_from (z : Str) (k : Nat) : Str.cs (cutS z (some (k : Int)) none) = (Str.cs z).drop k := by
  have e : Str.cs (cutS z (some (k : Int)) none) = cutL (Str.cs z) (some (k : Int)) none := by unfold cutS cutL Str.cs; simp [PySem.Str.length]
  rw [e, cutL_from]
theorem cutS_both (z : Str) (a b : Nat) : Str.cs (cutS z (some (a : Int)) (some (b : Int))) = ((Str.cs z).drop a).take (b - a) := by
  have e : Str.cs (cutS z (some (a : Int)) (some (b : Int))) = cutL (Str.cs z) (some (a : Int)) (some (b : Int)) := by unfold cutS cutL Str.cs; simp [PySem.Str.length]
  rw [e, cutL_both]
end VS

namespace VS
open PySem PySem.Spec PyProof.Rows L2
theorem rg2_one {d : EA} {s s' : List D} {b : Nat} (h : d s = .ok ([.v (.int 1), .v (.int b)], s')) (hb : b ≤ 1000000) : dRg2 d s = .ok ((.v .non, (List.range (b - 1)).map fun (k : Nat) => D.int (1 + (k : Int))), s') := by
  unfold dRg2
  rw [h]
  simp only [R.bind]
  rw [if_pos ⟨by omega, by omega⟩]
  have : ((b : Int) - 1).toNat = b - 1 := by omega
  rw [this]
/-- a for loop that looks for the first item with P -/
theorem forL_find {α : Type} {g : Gd} {body : S} {enc : α → D} (P : α → Bool) (r : α → D) (J : List D → Prop) (K : α → List D → Prop) : ∀ (l : List α) (s : List D), J s →
    (∀ a ∈ l, ∀ s, J s → ∃ s1, g (enc a) s = some s1 ∧ ((P a = true ∧ ∃ s2, body s1 = .rt (r a) s2 ∧ K a s2) ∨ (P a = false ∧ ∃ s2, body s1 = .nx s2 ∧ J s2))) →
    (∃ pre a post s2, l = pre ++ a :: post ∧ (∀ b ∈ pre, P b = false) ∧ P a = true ∧ forL g body (l.map enc) s = .rt (r a) s2 ∧ K a s2) ∨ ((∀ b ∈ l, P b = false) ∧ ∃ s2, forL g body (l.map enc) s = .nx s2 ∧ J s2)
  | [], s, h, _ => .inr ⟨fun _ m => (nomatch m), s, by rw [List.map_nil, forL], h⟩
  | a :: l, s, h, step => by
    obtain ⟨s1, e1, h1⟩ := step a List.mem_cons_self s h
    rcases h1 with ⟨hp, s2, e2, k2⟩ | ⟨hp, s2, e2, j2⟩
    · refine .inl ⟨[], a, l, s2, rfl, fun _ m => (nomatch m), hp, ?_, k2⟩
      rw [List.map_cons, forL, e1]; simp only [e2]
    · rcases forL_find P r J K l s2 j2 fun b m => step b (List.mem_cons_of_mem _ m) with ⟨pre, b, post, s3, q1, q2, q3, q4, q5⟩ | ⟨q1, s3, q2, q3⟩
      · refine .inl ⟨a :: pre, b, post, s3, by rw [q1]; rfl, fun c m => ?_, q3, ?_, q5⟩
        · rcases List.mem_cons.mp m with rfl | m
          · exact hp
          · exact q2 c m
        · rw [List.map_cons, forL, e1]; simp only [e2, q4]
      · refine .inr ⟨fun b m => ?_, s3, ?_, q3⟩
        · rcases List.mem_cons.mp m with rfl | m
          · exact hp
          · exact q1 b m
        · rw [List.map_cons, forL, e1]; simp only [e2, q2]
/-! ### lists told by their items -/
section
variable {α : Type}
theorem gen_ext {n : Nat} {F : Nat → α} {l : List α} (hl : l.length = n) (h : ∀ i, i < n → l[i]? = some (F i)) : l = (List.range n).map F := by
  apply List.ext_getElem?
  intro i
  by_cases hi : i < n
  · rw [h i hi, List.getElem?_map, List.getElem?_range hi]; rfl
  · rw [List.getElem?_eq_none (by omega), List.getElem?_eq_none (by simp; omega)]
theorem gen_get {n i : Nat} {F : Nat → α} (h : i < n) : ((List.range n).map F)[i]? = some (F i) := by rw [List.getElem?_map, List.getElem?_range h]; rfl
theorem gen_len {n : Nat} {F : Nat → α} : ((List.range n).map F).length = n := by simp
theorem gen_take {n m : Nat} {F : Nat → α} (h : m ≤ n) : ((List.range n).map F).take m = (List.range m).map F := by
  refine gen_ext (by simp; omega) fun i hi => ?_
  rw [List.getElem?_take_of_lt hi, gen_get (by omega)]
theorem gen_drop {n m : Nat} {F : Nat → α} : ((List.range n).map F).drop m = (List.range (n - m)).map fun i => F (m + i) := by
  refine gen_ext (by simp) fun i hi => ?_
  rw [List.getElem?_drop, gen_get (by omega)]
theorem gen_append {a b : Nat} {F G : Nat → α} : (List.range a).map F ++ (List.range b).map G = (List.range (a + b)).map fun i => if i < a then F i else G (i - a) := by
  refine gen_ext (by simp) fun i hi => ?_
  by_cases h : i < a
  · rw [List.getElem?_append_left (by simpa using h), gen_get h, if_pos h]
  · rw [List.getElem?_append_right (by simp; omega), gen_len, gen_get (by omega), if_neg h]
theorem gen_rot {n m : Nat} {F : Nat → α} (h : m ≤ n) : ((List.range n).map F).drop m ++ ((List.range n).map F).take m = (List.range n).map fun i => F ((m + i) % n) := by
  rw [gen_take h, gen_drop, gen_append, show n - m + m = n by omega]
  refine List.map_congr_left fun i hi => ?_
  have hi := List.mem_range.mp hi
  by_cases h2 : i < n - m
  · rw [if_pos h2, Nat.mod_eq_of_lt (by omega)]
  · rw [if_neg h2, show m + i = (i - (n - m)) + n by omega, Nat.add_mod_right, Nat.mod_eq_of_lt (by omega)]
theorem gen_rep {d : Nat} {F : Nat → α} : ∀ k : Nat, (List.replicate k ((List.range d).map F)).flatten = (List.range (k * d)).map fun i => F (i % d)
  | 0 => by simp
  | k + 1 => by
    rw [List.replicate_succ, List.flatten_cons, gen_rep k, gen_append, show d + k * d = (k + 1) * d by rw [Nat.add_mul]; omega]
    refine List.map_congr_left fun i hi => ?_
    by_cases h : i < d
    · rw [if_pos h, Nat.mod_eq_of_lt h]
    · rw [if_neg h, ← Nat.mod_eq_sub_mod (by omega)]
theorem gen_rev {n : Nat} {F : Nat → α} : ((List.range n).map F).reverse = (List.range n).map fun i => F (n - 1 - i) := by
  refine gen_ext (by simp) fun i hi => ?_
  rw [List.getElem?_reverse (by simpa using hi), gen_len, gen_get (by omega)]
end
/-! the same of rows -/
theorem rows_take {h w n : Nat} {f : Nat → Nat → Bool} (hn : n ≤ h) : (rowsD h w f).take n = rowsD n w f := by rw [rowsD_map, gen_take hn, ← rowsD_map]
theorem rows_drop {h w n : Nat} {f : Nat → Nat → Bool} : (rowsD h w f).drop n = rowsD (h - n) w fun i => f (n + i) := by rw [rowsD_map, gen_drop, rowsD_map]
theorem rows_rot {h w n : Nat} {f : Nat → Nat → Bool} (hn : n ≤ h) : (rowsD h w f).drop n ++ (rowsD h w f).take n = rowsD h w fun i => f ((n + i) % h) := by rw [rowsD_map, gen_rot hn, rowsD_map]
theorem rows_rep {k d w : Nat} {f : Nat → Nat → Bool} : (List.replicate k (rowsD d w f)).flatten = rowsD (k * d) w fun i => f (i % d) := by rw [rowsD_map, gen_rep, rowsD_map]
theorem rows_rev {h w : Nat} {f : Nat → Nat → Bool} : (rowsD h w f).reverse = rowsD h w fun i => f (h - 1 - i) := by rw [rowsD_map, gen_rev, rowsD_map]
theorem row_take {w n : Nat} {f : Nat → Bool} (hn : n ≤ w) : cutS (mkRow w f) none (some (n : Int)) = mkRow n f := by
  apply str_ext; rw [cutS_to, mkRow_cs, mkRow_cs, gen_take hn]
theorem row_drop {w n : Nat} {f : Nat → Bool} : cutS (mkRow w f) (some (n : Int)) none = mkRow (w - n) fun j => f (n + j) := by
  apply str_ext; rw [cutS_from, mkRow_cs, mkRow_cs, gen_drop]
theorem row_app {a b : Nat} {f g : Nat → Bool} : mkRow a f ++ mkRow b g = mkRow (a + b) fun j => if j < a then f j else g (j - a) := by
  apply str_ext; rw [cs_append, mkRow_cs, mkRow_cs, mkRow_cs, gen_append]
  refine List.map_congr_left fun i _ => ?_
  by_cases h : i < a <;> simp [h]
theorem row_rot {w n : Nat} {f : Nat → Bool} (hn : n ≤ w) : cutS (mkRow w f) (some (n : Int)) none ++ cutS (mkRow w f) none (some (n : Int)) = mkRow w fun j => f ((n + j) % w) := by
  apply str_ext; rw [cs_append, cutS_from, cutS_to, mkRow_cs, mkRow_cs, gen_rot hn]
theorem foldl_reps (a : Array Nat) : ∀ (k : Nat) (z : Array Nat), ((List.replicate k a).foldl (· ++ ·) z).toList = z.toList ++ (List.replicate k a.toList).flatten
  | 0, z => by simp
  | k + 1, z => by rw [List.replicate_succ, List.foldl_cons, foldl_reps a k, List.replicate_succ, List.flatten_cons, Array.toList_append, List.append_assoc]
theorem mul_cs {z : Str} {k : Int} (h : 0 ≤ k) : Str.cs (Txt.mul z k) = (List.replicate k.toNat (Str.cs z)).flatten := by
  unfold Txt.mul
  by_cases h1 : k < 1
  · rw [if_pos h1, show k.toNat = 0 by omega]; rfl
  · rw [if_neg h1]
    by_cases h2 : (k == 1 || z.length == 0) = true
    · rw [if_pos h2]
      rw [Bool.or_eq_true] at h2
      rcases h2 with h2 | h2
      · have : k = 1 := by simpa using h2
        subst this; simp
      · have h3 : (Str.cs z).length = 0 := by rw [cs_len]; simpa using h2
        rw [List.length_eq_zero_iff.mp h3]
        induction k.toNat with
        | zero => rfl
        | succ n ih => rw [List.replicate_succ, List.flatten_cons, ← ih]; rfl
    · rw [if_neg h2]
      show ((List.replicate k.toNat z.cps).foldl (· ++ ·) #[]).toList = _
      rw [foldl_reps]; rfl
theorem row_mul {w k : Nat} {f : Nat → Bool} : Txt.mul (mkRow w f) (k : Int) = mkRow (k * w) fun j => f (j % w) := by
  apply str_ext; rw [mul_cs (by omega), mkRow_cs, mkRow_cs, Int.toNat_natCast, gen_rep]
end VS

namespace VS
open PySem PySem.Spec PyProof.Rows L2
/-! ### calls where something may be let out -/
section
variable {X : Cx} {W : WX} {io : List Nat} {CX : CXT} {k : Nat} {C f : Addr} {fd : FuncData} {ps : List Str} {ds : List Value} {dvs : List V} {sp : Sp} {x m : Str} {p pos apos : Pos} {o e : Expr} {es : List Expr} {ta : TE} {t : TA} {Es : L2.St → XK} {E0 : XK}
theorem px0 (σ : L2.St) : PassesAt CX0 X σ (WE W σ) := by intro _ _ _ _ _ _ h; exact h.elim
theorem run_makeS {pins : List (Addr × Obj)} {σ : L2.St} {H : Hp} {s : Shared} {Q : VK} {us : List Value} {vs : List V} (M : Mk X.K C f) (F : FnOk X.prog X.w X.K X.mg X.base CX k f fd ps sp) (hr : Room (k + 1) X.A) (hb : Binds X.K fd ps ds) (hd : Vals dvs ds)
    (hx : PassesAt CX X σ E0) (I : L2.Inv X pins σ H s) (r : Vals vs us)
    (h : ∀ x dx, H x = none → H dx = none → dx ≠ x → sp (.ref x :: (vs ++ dvs)) (upd (upd H dx (.own x)) x (.ins C dx [])) (fun v H2 => v = .non ∧ Q (.ref x) H2) E0) :
    wpAny (model X.prog X.w) X.A (call (.ref C) us) (EP X pins σ Q) X.xe s := by
  have hq := h (s.heap.objs.size + 1) s.heap.objs.size (I.hok.fresh (Nat.le_succ _)) (I.hok.fresh (Nat.le_refl _)) (Nat.ne_of_lt (Nat.lt_succ_self _))
  have I2 := Inv.made (C := C) I
  have r2 : Vals (V.ref (s.heap.objs.size + 1) :: (vs ++ dvs)) (Value.ref (s.heap.objs.size + 1) :: (us ++ ds)) := .cons rfl (r.append hd)
  have hl : (Value.ref (s.heap.objs.size + 1) :: us ++ ds).length = ps.length := by
    have e := r2.length
    rw [F.len _ _ _ _ hq] at e
    exact e.symm
  refine wpAny_call (make_map (f := f) I.kIn M.makes M.init (beq_iff_eq.mp M.fn) (codeAny_mono (F.run _ X.stack _ _ ⟨Value.ref (s.heap.objs.size + 1) :: us, []⟩ (Value.ref (s.heap.objs.size + 1) :: (us ++ ds)) _ _ E0 (hr.make C us [])
    (I2.env0.make C us []) (hb _ (Value.ref (s.heap.objs.size + 1) :: us) I2.kIn hl) r2 hq) fun r s' hq' => ?_))
  cases r with
  | error e => exact hx pins _ _ e s' I2 hq'
  | ok fl =>
    cases fl with
    | ret u =>
      obtain ⟨v, H', I3, rv, ev, q3⟩ := I2.after hq'
      subst ev
      exact ⟨rv, ⟨V.ref (s.heap.objs.size + 1), H', I3, rfl, q3⟩⟩
    | next => exact False.elim hq'
    | brk => exact False.elim hq'
    | cont => exact False.elim hq'
def tMakeS (C : Addr) (sp : Sp) (Es : L2.St → XK) (t : TA) : TE := fun σ H Q => tMake C sp [] (Es σ) t σ H Q
theorem pe_makeS (M : Mk X.K C f) (F : FnOk X.prog X.w X.K X.mg X.base CX k f fd ps sp) (hr : Room (k + 1) X.A) (hg : Gl X x) (hm : X.mg x = some (.ref C)) (hb : Binds X.K fd ps []) (hx : ∀ σ, PassesAt CX X σ (Es σ))
    (ha : PA X (e :: es) t) (hdb : (x == ("__debug__" : Str)) = false := by decide) (he : starEach (e :: es) X.env = (false, eval e X.env) :: starEach es X.env := by rfl) (hpl : (backTo pos (starEach es X.env)).any (·.1) = false := by rfl) :
    PE X (.Call (.Name x p) (e :: es) [] pos) (tMakeS C sp Es t) := by
  refine ⟨fun pins s σ H Q I h => ?_⟩
  refine wpAny_Call_Name_kw (ld_glob I hg hm ?_ hdb)
  refine PySem.W.callWith_K (h₀ := X.base) I.ok.mod.kin M.kp (thn (ha.run pos pins s σ H _ I h) fun us s1 ⟨vs, H1, I1, r, q⟩ => ⟨I1.kIn, ?_⟩) he hpl
  exact run_makeS M F hr hb .nil (hx σ) I1 r q
def tMethS (C : Addr) (m : Str) (sp : Sp) (Es : L2.St → XK) (ta : TE) (t : TA) : TE := fun σ H Q => tMeth C m sp [] (Es σ) ta t σ H Q
theorem pe_methS {pl : Sem Bool} (he : PE X o ta) (c : Cls X.K C) (hm : Meth X.K C m f) (F : FnOk X.prog X.w X.K X.mg X.base CX k f fd ps sp) (hr : Room k X.A) (hb : Binds X.K fd ps []) (hx : ∀ σ, PassesAt CX X σ (Es σ)) (ha : PA X (e :: es) t)
    (hst : starEach (e :: es) X.env = (false, eval e X.env) :: starEach es X.env := by rfl) (hpl : (backTo pos (starEach es X.env)).any (·.1) = false := by rfl)
    (ht : eval (.Call (.Attribute o m apos) (e :: es) [] pos) X.env = (do
      let ov ← eval o X.env
      standAt apos.atName
      let (f, first) ← holding [ov] (getMethod ov m pl)
      callWith pos f first (backTo pos (starEach (e :: es) X.env)) (backToKw pos (keywordEach [] X.env))) := by rfl) :
    PE X (.Call (.Attribute o m apos) (e :: es) [] pos) (tMethS C m sp Es ta t) := by
  refine ⟨fun pins s σ H Q I h => ?_⟩
  refine PySem.W.methodCall_KW (pl := pl) (thn (he.run pins s σ H _ I h) fun u s1 ⟨x, H1, I1, rx, a, dx, fs, ex, ea, l, q⟩ => ?_) ht
  subst ex
  obtain rfl : u = Value.ref a := rx
  refine getmeth_ok I1 ea c hm l ?_
  refine PySem.W.callWith_K (first := [.ref a]) (h₀ := X.base) I.ok.mod.kin hm.kp (thn (ha.run pos pins s1 σ H1 _ I1 q) fun us s2 ⟨vs, H2, I2, r, q2⟩ => ⟨I2.kIn, ?_⟩) hst hpl
  have q2 : sp ((.ref a :: vs) ++ []) H2 Q (Es σ) := q2
  rw [List.append_nil] at q2
  exact run_fnS (us := .ref a :: us) (vs := .ref a :: vs) (E := Es) F hr hb (hx σ) I2 (.cons rfl r) q2
end
section
variable {X : Cx} {W : WX} {io : List Nat} {CX : CXT} {k : Nat} {C f g q : Addr} {mc : Value} {fd : FuncData} {ps : List Str} {x m : Str} {p pos apos : Pos} {o e : Expr} {es : List Expr} {ks : List AK} {m1 : Md} {d1 md : List Nat} {ta : TE} {t : TA} {da : E} {dc : EC} {F : FD} {pl : Sem Bool} {Es : L2.St → XK} {sp : Sp}
theorem de_callX (FN : FnOk X.prog X.w X.K X.mg X.base CX k f fd ps (spOf X.K (ks.map AK.pm) F)) (hr : Room k X.A) (hg : Gl X x) (hm : X.mg x = some (.ref f)) (hk : PySem.W.keepIn X.K (.ref f) = true) (hb : Binds X.K fd ps []) (hx : ∀ σ, PassesAt CX X σ (WE W σ)) (hc : DC X W io ks md (e :: es) t dc)
    (hn : (ixs ks).Nodup := by decide) (hmv : ((ixs ks).all fun i => !io.contains i || (ioIx ks).contains i) = true := by rfl)
    (hdb : (x == ("__debug__" : Str)) = false := by decide) (he : starEach (e :: es) X.env = (false, eval e X.env) :: starEach es X.env := by rfl) (hpl : (backTo pos (starEach es X.env)).any (·.1) = false := by rfl) :
    DE X W io .tmp (md ++ ixs ks) (.Call (.Name x p) (e :: es) [] pos) (tCallSD (spOf X.K (ks.map AK.pm) F) [] (WE W) t) (dCall F ks dc) :=
  ⟨pe_callSD FN hr hg hm hk hb .nil hx hc.pa hdb he hpl, erd_call hc.rd (fun _ _ _ _ h => h) hn hmv⟩
theorem de_makeX (imm : Bool) (M : Mk X.K C f) (FN : FnOk X.prog X.w X.K X.mg X.base CX k f fd ps (spOf X.K (.io :: ks.map AK.pm) F)) (hr : Room (k + 1) X.A) (hg : Gl X x) (hm : X.mg x = some (.ref C)) (hb : Binds X.K fd ps []) (hx : ∀ σ, PassesAt CX X σ (WE W σ)) (hc : DC X W io ks md (e :: es) t dc)
    (hn : (ixs ks).Nodup := by decide) (hmv : ((ixs ks).all fun i => !io.contains i || (ioIx ks).contains i) = true := by rfl)
    (hdb : (x == ("__debug__" : Str)) = false := by decide) (he : starEach (e :: es) X.env = (false, eval e X.env) :: starEach es X.env := by rfl) (hpl : (backTo pos (starEach es X.env)).any (·.1) = false := by rfl) :
    DE X W io .tmp (md ++ ixs ks) (.Call (.Name x p) (e :: es) [] pos) (tMakeS C (spOf X.K (.io :: ks.map AK.pm) F) (WE W) t) (dMake imm C F ks dc) :=
  ⟨pe_makeS M FN hr hg hm hb hx hc.pa hdb he hpl, erd_makeS hc.rd (fun _ _ _ _ h => h) hn hmv⟩
theorem tMethS_eq : tMethS C m sp Es ta t = tCallSD sp [] Es (tConsC (fun v H => ∃ a dx fs, v = .ref a ∧ H a = some (.ins C dx fs) ∧ fs.lookup m = none) ta t) := by
  funext σ H Q
  show ta σ H _ = ta σ H _
  congr 1
  funext x H1
  exact propext ⟨fun ⟨a, dx, fs, h1, h2, h3, h4⟩ => ⟨⟨a, dx, fs, h1, h2, h3⟩, h4⟩, fun ⟨⟨a, dx, fs, h1, h2, h3⟩, h4⟩ => ⟨a, dx, fs, h1, h2, h3, h4⟩⟩
theorem de_methX (c : Cls X.K C) (hm : Meth X.K C m f) (FN : FnOk X.prog X.w X.K X.mg X.base CX k f fd ps (spOf X.K (.val :: ks.map AK.pm) F)) (hr : Room k X.A) (hb : Binds X.K fd ps []) (hx : ∀ σ, PassesAt CX X σ (WE W σ)) (he : DE X W io m1 d1 o ta da) (hc : DC X W io ks md (e :: es) t dc)
    (hn : (ixs ks).Nodup := by decide) (hmv : ((ixs ks).all fun i => !io.contains i || (ioIx ks).contains i) = true := by rfl)
    (hst : starEach (e :: es) X.env = (false, eval e X.env) :: starEach es X.env := by rfl) (hpl : (backTo pos (starEach es X.env)).any (·.1) = false := by rfl)
    (ht : eval (.Call (.Attribute o m apos) (e :: es) [] pos) X.env = (do
      let ov ← eval o X.env
      standAt apos.atName
      let (f, first) ← holding [ov] (getMethod ov m pl)
      callWith pos f first (backTo pos (starEach (e :: es) X.env)) (backToKw pos (keywordEach [] X.env))) := by rfl) :
    DE X W io .tmp ((d1 ++ md) ++ ixs ks) (.Call (.Attribute o m apos) (e :: es) [] pos) (tMethS C m (spOf X.K (.val :: ks.map AK.pm) F) (WE W) ta t) (dCall F (.val m1 :: ks) (dCvalC (chkM C m) m1 md da dc)) :=
  ⟨pe_methS he.pe c hm FN hr hb hx hc.pa hst hpl ht, by
    rw [tMethS_eq]
    exact erd_call (ks := .val m1 :: ks) (crd_valC he.rd hc.rd (fun H t ok h => chkM_of H t ok h)) (fun _ _ _ _ h => h) hn hmv⟩
end
end VS
namespace VS
open PySem PySem.Spec PyProof.Rows L2
/-! ### raise, and defs that may raise -/
def sRaise (c : Value) : S := fun s => .ex c none s
section
variable {X : Cx} {W : WX} {io : List Nat}
theorem ds_raise {C : Addr} {e : Expr} {pos : Pos} (tk : Takes X W) (pm : PMk X e (fun _ H Q => Q (.ref C) none H)) (hc : X.calm = true := by rfl) : DS X W io [] (.Raise (some e) none pos) (fun _ σ H => W (.ref C) none σ H) (sRaise (.ref C)) :=
  ⟨ps_raise hc tk pm, fun ρ ts σ H Z S h => h ts σ H none S rfl Step.refl rfl⟩
end
section
variable {P : Program} {w : World} {K : PySem.W.Frag} {mg : Str → Option Value} {base : Heap}
def WO (E : XK) : WX := fun cls d _ H => E cls d H
theorem fn_vsX {x qual : Str} {st : Stmt} {f : Addr} {fd : FuncData} {N ps : List Str} {k : Nat} (pm : List PM) {d : S} (F : Fun K x qual st f fd) (S : FnScope N ps (defScope st)) (hp : pm.length = ps.length) (hl : pm.length ≤ N.length)
    (hbody : ∀ (cdv : Value) (A : Around) (outer : List Env) (s : Shared) (H : Hp) (E : XK), Room k (A.deeper (envOfC qual (defScope st) s.heap.objs.size f cdv)) →
      ∃ t md, DSs (cxOf (L2.CX P w) P w K mg base N qual (defScope st) f cdv A outer s H E) (WO E) (pmIx 0 pm) md (defBody st) t d) : FnOk P w K mg base (L2.CX P w) (k + 1) f fd ps (spOf K pm (fnD N.length (pmIx 0 pm) d)) := by
  refine F.okX S (fun vs H Q E h => by rw [sp_len h, hp]) fun cdv A outer s H vs Q E hr h => ?_
  obtain ⟨t, md, hb⟩ := hbody cdv A outer s H E hr
  exact ⟨t, hb.ps, body_ok (E := E) hl hb.rd h⟩
end
end VS

namespace VS
open PySem PySem.Spec PyProof.Rows L2
/-! ### try .. except of several classes, with and without a name -/
abbrev HTs := Addr → Value → Option Addr → TS
def endU (i : Nat) (D : Ends) : Ends := { nx := fun σ' H' => D.nx (σ'.set i none) H', rt := D.rt, bk := fun σ' H' => D.bk (σ'.set i none) H', ct := fun σ' H' => D.ct (σ'.set i none) H' }
def wHs (K : PySem.W.Frag) (Wout : WX) (D : Ends) : List (Value × Option Nat × HTs) → WX
  | [] => Wout
  | (c, none, ts) :: r => fun cls d σ H => ∃ b, PySem.W.exmOne K cls c = some b ∧ (b = true → ∀ a, H a = none → ts a cls d D σ H) ∧ (b = false → wHs K Wout D r cls d σ H)
  | (c, some i, ts) :: r => fun cls d σ H => ∃ b, PySem.W.exmOne K cls c = some b ∧ (b = true → ∀ a, H a = none → ts a cls d (endU i D) (σ.set i (some (.ref a))) H) ∧ (b = false → wHs K Wout D r cls d σ H)
inductive HdsA (X : Cx) : List ExceptHandler → List (Value × Option Nat × HTs) → Prop
  | nil : HdsA X [] []
  | cons {x : Str} {c : Value} {ts : HTs} {b₀ : Stmt} {suite : List Stmt} {np pos' : Pos} {hds : List ExceptHandler} {l : List (Value × Option Nat × HTs)} (hc : Names X x c)
      (hsu : ∀ (a : Addr) (oe : Obj) (cls : Value) (d : Option Addr) (pn : List (Addr × Obj)), Zc cls d oe → (∃ vs, oe.data = .fields vs) → PSs (X.suite a ((a, oe) :: pn)) (b₀ :: suite) (ts a cls d)) (r : HdsA X hds l) :
      HdsA X (.ExceptHandler (some (.Name x np)) none (b₀ :: suite) pos' :: hds) ((c, none, ts) :: l)
  | as {x n : Str} {c : Value} {i : Nat} {ts : HTs} {b₀ : Stmt} {suite : List Stmt} {np pos' : Pos} {hds : List ExceptHandler} {l : List (Value × Option Nat × HTs)} (hi : X.N[i]? = some n) (hln : X.env.kindOf n = some .local) (hc : Names X x c)
      (hsu : ∀ (a : Addr) (oe : Obj) (cls : Value) (d : Option Addr) (pn : List (Addr × Obj)), Zc cls d oe → (∃ vs, oe.data = .fields vs) → PSs (X.suite a ((a, oe) :: pn)) (b₀ :: suite) (ts a cls d)) (r : HdsA X hds l) :
      HdsA X (.ExceptHandler (some (.Name x np)) (some n) (b₀ :: suite) pos' :: hds) ((c, some i, ts) :: l)
section
variable {X : Cx} {body : List Stmt} {h₀ : ExceptHandler} {hds : List ExceptHandler} {l : List (Value × Option Nat × HTs)} {pos : Pos} {tb : WX → TS} {Wout : WX}
theorem ps_try_hs (hs : X.stack = X.env :: X.outer) (hf : X.env.frame = some X.env.locals) (hN : X.N.Nodup) (tk : Takes X Wout)
    (hb : ∀ (W : WX) (pn : List (Addr × Obj)) (xe : Value → Shared → Prop), Takes (X.tr pn xe) W → PassesOwn (model X.prog X.w) X.A X.env xe → PSs (X.tr pn xe) body (tb W))
    (hh : HdsA X (h₀ :: hds) l) : PS X (.Try body (h₀ :: hds) [] [] pos) (fun D σ H => σ.length = X.N.length → tb (fun c d σ' H' => σ'.length = X.N.length → wHs X.K Wout D l c d σ' H') D σ H) := by
  refine ⟨fun pins s σ H D I h => ?_⟩
  have ok := I.ok
  have hfr : X.A.frames = some (X.env :: X.outer) := by rw [ok.frames, hs]
  refine wpAny_Try_except ?_
  refine wpAny_mono ((hb (fun c d σ' H' => σ'.length = X.N.length → wHs X.K Wout D l c d σ' H') (X.pn ++ pins) (fun e s₁ => wpAny (model X.prog X.w) X.A (noteFrame e X.env) (fun _ s₂ => wpAny (model X.prog X.w) X.A (setFlight e none) (fun _ s₃ =>
    wpAny (model X.prog X.w) X.A (handleBy e X.env (h₀ :: hds)) (SP X pins D) X.xe s₃) X.xe s₂) X.xe s₁) (fun u s' xx => ?_) PassesOwn.looking).run [] s σ H D (I.toTry _) (h I.len)) (fun f s1 hsp => ?_) (fun e s1 he => he)
  · -- the catch
    obtain ⟨a, B, sI, pins', σ', H', cls, d, rfl, J', nb, up, sky, na, os, ag, w⟩ := xx
    have J : L2.Inv X pins σ' H' sI := J'.ofTry ok
    have sky' : Sky B (X.env :: X.outer) a (Zc cls d) X.env.locals s'.heap := by rw [← hs]; exact sky
    show wpAny (model X.prog X.w) X.A (noteFrame (.ref a) X.env) _ _ _
    refine Sky.land Zc.steady hfr hf sky' fun h3 fl3 up3 => ?_
    have J3 : L2.Inv X pins σ' H' { s' with heap := h3 } := J.landed nb fl3.1 (up.trans up3) os ag
    obtain ⟨oe3, vs3, he3, hz3, hd3⟩ := fl3.there
    have notFr : ∀ {h : Heap} {o : Obj} {vs : Array Value}, h.FunFrames B (X.env :: X.outer) → h.get? a = some o → o.data = .fields vs → a ∉ frs (X.env :: X.outer) := fun {h o vs} ff e dd hm => by
      obtain ⟨_, o', e', hnf⟩ := ff.mem hm
      rw [e] at e'; cases e'
      exact hnf _ dd
    have nfr := notFr fl3.2.2.1 he3 hd3
    have nL : a ≠ X.env.locals := fun z => nfr (List.mem_filterMap.mpr ⟨X.env, List.mem_cons_self, by rw [hf, z]⟩)
    have nF : a ∉ X.fs := fun hm => by
      obtain ⟨e, he, q⟩ := List.mem_filterMap.mp hm
      exact nfr (List.mem_filterMap.mpr ⟨e, List.mem_cons_of_mem _ he, q⟩)
    have S3 := J3.suite he3 hd3 na nL nF
    have test : ∀ {x : Str} {np : Pos} {c : Value} {Q : Value → Shared → Prop} {E : Value → Shared → Prop}, Names X x c → Q c { s' with heap := h3 } → wpAny (model X.prog X.w) (X.A.mark (some (.ref a))) (eval (.Name x np) X.env) Q E { s' with heap := h3 } := fun {x np c Q E} hc q => by
      obtain ⟨hg, hdbg, hm | ⟨hm, hv, hnn⟩⟩ := hc
      · exact ld_glob (X := X.suite a ((a, oe3) :: (X.pn ++ pins))) S3 hg hm q hdbg
      · exact ld_blt (X := X.suite a ((a, oe3) :: (X.pn ++ pins))) S3 hg hm hv q hnn hdbg
    have LT : PySem.W.Looks (model X.prog X.w) h3 (typeOf (.ref a)) cls := fun A Q E s k q => wpAny_typeOf_ref (k _ _ he3) (by rw [hz3.1]; exact q)
    have go : ∀ {hds' : List ExceptHandler} {l' : List (Value × Option Nat × HTs)}, HdsA X hds' l' → wHs X.K Wout D l' cls d σ' H' →
        wpAny (model X.prog X.w) X.A (handleBy (.ref a) X.env hds') (SP X pins D) X.xe { s' with heap := h3 } := by
      intro hds' l' hk
      induction hk with
      | nil =>
        intro w
        refine wpAny_handleBy_nil ?_
        obtain ⟨k1, k2, k3, oe, vs, T, oT, ts', he, hz, hd, h1, hr⟩ := id fl3
        unfold PySem.passOn
        refine wpAny_bind (wpAny_field he hd h1 ?_)
        rw [if_neg (show ¬ ((Value.ref T == Value.none) = true) from by simp)]
        have fin : wpAny (model X.prog X.w) X.A (setFlight (.ref a) X.env.frame) (fun _ s4 => wpAny (model X.prog X.w) X.A (throw (.ref a) : Sem Flow) (SP X pins D) X.xe s4) X.xe { s' with heap := h3 } := by
          rw [hf]
          refine HandSPX.setFlight_upZ fl3 fun h4 hh4 up4 => wpAny_throw (tk _ _ ?_)
          exact ⟨a, B, sI, pins, σ', H', cls, d, rfl, J, nb, (up.trans up3).trans up4, .inr (.inr (by rw [hs]; exact hh4)), na, os, ag, w⟩
        first
          | exact wpAny_bind (wpAny_pure (wpAny_bind fin))
          | exact wpAny_bind fin
      | @cons x c ts b₀ suite np pos' hds2 l2 hc hsu r ih =>
        intro w
        obtain ⟨b, hb1, hyes, hno⟩ := w
        refine wpAny_handleBy_cons (codeAny_handlers_test ?_) (by intro q; cases q)
        have LM := PySem.W.exm_one (M := model X.prog X.w) (J3.kIn) LT hb1
        refine test hc (LM.here ?_)
        cases b with
        | true =>
          refine codeAny_handlers_suite ?_
          refine HandSPX.lands_againZ fl3 fun h4 fl4 up4 => ?_
          have J4 : L2.Inv X pins σ' H' { s' with heap := h4 } := J.landed nb fl4.1 ((up.trans up3).trans up4) os ag
          obtain ⟨oe4, vs4, he4, hz4, hd4⟩ := fl4.there
          have S4 := J4.suite he4 hd4 na nL nF
          refine wpAny_mono ((hsu a oe4 cls d (X.pn ++ pins) hz4 ⟨_, hd4⟩).run [] _ _ H' _ S4 (hyes rfl a na)) (fun f s6 hsp => ?_) (fun _ _ z => False.elim z)
          cases f with
          | next =>
            obtain ⟨σ6, H6, S6, q6⟩ := hsp
            exact ⟨_, _, S6.unsuite ok, q6⟩
          | brk =>
            obtain ⟨σ6, H6, S6, q6⟩ := hsp
            exact ⟨_, _, S6.unsuite ok, q6⟩
          | cont =>
            obtain ⟨σ6, H6, S6, q6⟩ := hsp
            exact ⟨_, _, S6.unsuite ok, q6⟩
          | ret u =>
            obtain ⟨v6, σ6, H6, S6, r6, q6⟩ := hsp
            exact ⟨_, _, _, S6.unsuite ok, r6, q6⟩
        | false => exact ih (hno rfl)
      | @as x n c i ts b₀ suite np pos' hds2 l2 hi hln hc hsu r ih =>
        intro w
        obtain ⟨b, hb1, hyes, hno⟩ := w
        have hloc : Loc X.env.scope n := .inl hln
        refine wpAny_handleBy_cons (codeAny_handlers_test ?_) (by intro q; cases q)
        have LM := PySem.W.exm_one (M := model X.prog X.w) (J3.kIn) LT hb1
        refine test hc (LM.here ?_)
        cases b with
        | true =>
          refine codeAny_handlers_suite_as ?_
          refine HandSPX.lands_againZ fl3 fun h4 fl4 up4 => ?_
          have J4 : L2.Inv X pins σ' H' { s' with heap := h4 } := J.landed nb fl4.1 ((up.trans up3).trans up4) os ag
          obtain ⟨oe4, vs4, he4, hz4, hd4⟩ := fl4.there
          have S4 := J4.suite he4 hd4 na nL nF
          refine store_ok (X := X.suite a ((a, oe4) :: (X.pn ++ pins))) (v := .ref a) S4 hN hi hloc rfl (fun s5 S5 => ?_) (.inr hln)
          refine wpAny_mono ((hsu a oe4 cls d (X.pn ++ pins) hz4 ⟨_, hd4⟩).run [] s5 _ H' _ S5 (hyes rfl a na)) (fun f s6 hsp => ?_) (fun _ _ z => False.elim z)
          have end_ : ∀ {σ6 : L2.St} {H6 : Hp} {Q : Shared → Prop}, L2.Inv (X.suite a ((a, oe4) :: (X.pn ++ pins))) [] σ6 H6 s6 → (∀ s7, L2.Inv X pins (σ6.set i none) H6 s7 → Q s7) →
              wpAny (model X.prog X.w) X.A (do bindName X.env n .none; unbindBehindTheSuite X.env n pos') (fun _ s7 => Q s7) X.xe s6 := fun {σ6 H6 Q} S6 hq => gone_ok (S6.unsuite ok) hN hi hln hq
          cases f with
          | next =>
            obtain ⟨σ6, H6, S6, q6⟩ := hsp
            exact end_ S6 fun s7 J7 => ⟨_, _, J7, q6⟩
          | brk =>
            obtain ⟨σ6, H6, S6, q6⟩ := hsp
            exact end_ S6 fun s7 J7 => ⟨_, _, J7, q6⟩
          | cont =>
            obtain ⟨σ6, H6, S6, q6⟩ := hsp
            exact end_ S6 fun s7 J7 => ⟨_, _, J7, q6⟩
          | ret u =>
            obtain ⟨v6, σ6, H6, S6, r6, q6⟩ := hsp
            exact end_ S6 fun s7 J7 => ⟨_, _, _, J7, r6, q6⟩
        | false => exact ih (hno rfl)
    exact go hh (w J.len)
  · cases f with
    | next =>
      obtain ⟨σ', H', J', q⟩ := hsp
      exact wpAny_execs_nil ⟨σ', H', J'.ofTry ok, q⟩
    | brk =>
      obtain ⟨σ', H', J', q⟩ := hsp
      exact ⟨σ', H', J'.ofTry ok, q⟩
    | cont =>
      obtain ⟨σ', H', J', q⟩ := hsp
      exact ⟨σ', H', J'.ofTry ok, q⟩
    | ret u =>
      obtain ⟨v, σ', H', J', r, q⟩ := hsp
      exact ⟨v, σ', H', J'.ofTry ok, r, q⟩
end
end VS

namespace VS
open PySem PySem.Spec PyProof.Rows L2
/-! ### the meaning of try -/
abbrev ExT := List (Addr × Addr × Bool)
def exLook (tab : ExT) (C h : Addr) : Option Bool := (tab.find? fun e => e.1 == C && e.2.1 == h).map (·.2.2)
theorem exLook_ok {K : PySem.W.Frag} {tab : ExT} (ht : ∀ e ∈ tab, PySem.W.exmOne K (.ref e.1) (.ref e.2.1) = some e.2.2) {C h : Addr} {b : Bool} (e : exLook tab C h = some b) : PySem.W.exmOne K (.ref C) (.ref h) = some b := by
  unfold exLook at e
  cases q : tab.find? (fun e => e.1 == C && e.2.1 == h) with
  | none => rw [q] at e; cases e
  | some x =>
    rw [q] at e
    have p := List.find?_some q
    have m := List.mem_of_find?_eq_some q
    rw [Bool.and_eq_true] at p
    have h1 : x.1 = C := by simpa using p.1
    have h2 : x.2.1 = h := by simpa using p.2
    have h3 : x.2.2 = b := by simpa using e
    have := ht x m
    rw [h1, h2, h3] at this
    exact this
theorem exLook_mem {tab : ExT} {C h : Addr} {b : Bool} (e : exLook tab C h = some b) : ∃ x ∈ tab, x.1 = C := by
  unfold exLook at e
  cases q : tab.find? (fun e => e.1 == C && e.2.1 == h) with
  | none => rw [q] at e; cases e
  | some x =>
    have p := List.find?_some q
    rw [Bool.and_eq_true] at p
    exact ⟨x, List.mem_of_find?_eq_some q, by simpa using p.1⟩
/-- behind a suite: the name is gone; a suite lets nothing out -/
def unO (is : List Nat) : O → O
  | .nx s => .nx (wipeD is s)
  | .bk s => .bk (wipeD is s)
  | .ct s => .ct (wipeD is s)
  | .rt x s => .rt x (wipeD is s)
  | _ => .no
abbrev HM := Addr → Addr → S
abbrev HL := List (Addr × Option Nat × HM)
def runH1 (tab : ExT) (h : Addr) (i : Option Nat) (d : HM) (rest : Value → XF → List D → O) (c : Value) (fs : XF) (s : List D) : O := match c with
  | .ref C => match exLook tab C h with
    | some false => rest c fs s
    | some true => match fs with
      | none => match i with
        | none => unO [] (d C 0 s)
        | some i => unO [i] (d C 0 (s.set i (.v (.ref 0))))
      | some _ => .no
    | none => .no
  | _ => .no
def runHs (tab : ExT) : HL → Value → XF → List D → O
  | [], c, fs, s => .ex c fs s
  | x :: r, c, fs, s => runH1 tab x.1 x.2.1 x.2.2 (runHs tab r) c fs s
def sTry (tab : ExT) (hs : HL) (db : S) : S := fun s => match db s with
  | .ex c fs s' => runHs tab hs c fs s'
  | o => o
/-- the meaning of a part as its reading -/
def tSem (K : PySem.W.Frag) (W : WX) (io md : List Nat) (d : S) : TS := fun Z σ H => ∃ ρ ts, Sim K io ρ ts σ H ∧ SPost K W io ρ md ts H Z (d (T.ers ts))
theorem pss_sem {X : Cx} {W : WX} {io md : List Nat} {st : List Stmt} {d : S} (h : ∃ t, DSs X W io md st t d) : PSs X st (tSem X.K W io md d) := by
  obtain ⟨t, h⟩ := h
  exact ⟨fun pins s σ H D I q => h.ps.run pins s σ H D I (by obtain ⟨ρ, ts, S, p⟩ := q; exact h.rd ρ ts σ H D S p)⟩
/-- the reading of a suite: an error of an own class without fields -/
def tHs (K : PySem.W.Frag) (io md : List Nat) (dh : HM) : HTs := fun a cls d D σ H => ∃ C, cls = .ref C ∧ d = none ∧ ExcC K C ∧ tSem K W0 io md (dh C a) D σ H
structure DH (X : Cx) (io md : List Nat) (suite : List Stmt) (dh : HM) : Prop where
  sd : ∀ (C a : Addr) (oe : Obj) (pn : List (Addr × Obj)), ExcC X.K C → Zc (.ref C) none oe → (∃ vs, oe.data = .fields vs) → ∃ t md', DSs (X.suite a ((a, oe) :: pn)) W0 io md' suite t (dh C a) ∧ (md'.all fun j => md.contains j) = true
theorem DH.pss {X : Cx} {io md : List Nat} {suite : List Stmt} {dh : HM} (h : DH X io md suite dh) (a : Addr) (oe : Obj) (cls : Value) (d : Option Addr) (pn : List (Addr × Obj)) (hz : Zc cls d oe) (hv : ∃ vs, oe.data = .fields vs) :
    PSs (X.suite a ((a, oe) :: pn)) suite (tHs X.K io md dh a cls d) :=
  ⟨fun pins s σ H D I q => by
    obtain ⟨C, rfl, rfl, ec, q⟩ := q
    obtain ⟨t, md', hd, sub⟩ := h.sd C a oe pn ec hz hv
    obtain ⟨ρ, ts, S, p⟩ := q
    exact hd.ps.run pins s σ H D I (hd.rd ρ ts σ H D S (p.wide fun j hj => by simpa using List.all_eq_true.mp sub j hj))⟩
inductive DHs (X : Cx) (io md : List Nat) : List ExceptHandler → HL → List (Value × Option Nat × HTs) → Prop
  | nil : DHs X io md [] [] []
  | cons {x : Str} {h : Addr} {dh : HM} {b₀ : Stmt} {suite : List Stmt} {np pos' : Pos} {hds : List ExceptHandler} {l : HL} {l' : List (Value × Option Nat × HTs)} (hc : Names X x (.ref h)) (hd : DH X io md (b₀ :: suite) dh) (ind : ∀ C a s, unO [] (dh C a s) = unO [] (dh C 0 s)) (r : DHs X io md hds l l') :
      DHs X io md (.ExceptHandler (some (.Name x np)) none (b₀ :: suite) pos' :: hds) ((h, none, dh) :: l) ((.ref h, none, tHs X.K io md dh) :: l')
  | as {x n : Str} {h : Addr} {i : Nat} {dh : HM} {b₀ : Stmt} {suite : List Stmt} {np pos' : Pos} {hds : List ExceptHandler} {l : HL} {l' : List (Value × Option Nat × HTs)} (hi : X.N[i]? = some n) (hln : X.env.kindOf n = some .local) (hio : io.contains i = false) (hmd : md.contains i = true) (hc : Names X x (.ref h)) (hd : DH X io md (b₀ :: suite) dh)
      (ind : ∀ C a (s : List D), unO [i] (dh C a (s.set i (.v (.ref a)))) = unO [i] (dh C 0 (s.set i (.v (.ref 0))))) (r : DHs X io md hds l l') :
      DHs X io md (.ExceptHandler (some (.Name x np)) (some n) (b₀ :: suite) pos' :: hds) ((h, some i, dh) :: l) ((.ref h, some i, tHs X.K io md dh) :: l')
theorem DHs.hds {X : Cx} {io md : List Nat} {hds : List ExceptHandler} {l : HL} {l' : List (Value × Option Nat × HTs)} (h : DHs X io md hds l l') : HdsA X hds l' := by
  induction h with
  | nil => exact .nil
  | cons hc hd ind r ih => exact .cons hc hd.pss ih
  | as hi hln hio hmd hc hd ind r ih => exact .as hi hln hc hd.pss ih
section
variable {K : PySem.W.Frag} {W : WX} {io : List Nat} {ρ : Nat → V}
/-- from what is asked behind the suite to what the suite must give -/
theorem un_post {is md : List Nat} {ts ts1 : List T} {H H1 : Hp} {Z Z' : Ends} {o : O} (hio : ∀ i ∈ io, i ∉ is) (hmd : ∀ i ∈ is, i ∈ md) (h : SPost K W io ρ md ts H Z (unO is o)) (st1 : Step H ts H1 ts1) (pu1 : ∀ j, j ∉ md → ts1[j]? = ts[j]?)
    (hn : ∀ σ H', Z.nx (wipe σ is) H' → Z'.nx σ H') (hb : ∀ σ H', Z.bk (wipe σ is) H' → Z'.bk σ H') (hc : ∀ σ H', Z.ct (wipe σ is) H' → Z'.ct σ H') (hr : Z'.rt = Z.rt) : SPost K W0 io ρ md ts1 H1 Z' o := by
  have key : ∀ {ts2 : List T} {σ2 : L2.St} {H2 : Hp}, Sim K io ρ ts2 σ2 H2 → Sim K io ρ (wipeT is ts2) (wipe σ2 is) H2 := fun S2 => S2.wipe hio (wipe_length _ _) fun j hj => wipe_out hj _
  have pu : ∀ {ts2 : List T}, (∀ j, j ∉ md → ts2[j]? = ts1[j]?) → ∀ j, j ∉ md → (wipeT is ts2)[j]? = ts[j]? := fun {ts2} p j hj => by
    rw [wipeT_out (fun z => hj (hmd j z)), p j hj, pu1 j hj]
  cases o with
  | nx s => exact fun ts2 σ2 H2 S2 e2 st2 p2 => hn _ _ (h _ _ H2 (key S2) (by rw [ers_wipe, e2]) (step_wipe (st1.trans st2)) (pu p2))
  | bk s => exact fun ts2 σ2 H2 S2 e2 st2 p2 => hb _ _ (h _ _ H2 (key S2) (by rw [ers_wipe, e2]) (step_wipe (st1.trans st2)) (pu p2))
  | ct s => exact fun ts2 σ2 H2 S2 e2 st2 p2 => hc _ _ (h _ _ H2 (key S2) (by rw [ers_wipe, e2]) (step_wipe (st1.trans st2)) (pu p2))
  | rt x s =>
    intro ts2 σ2 t H2 S2 e2 et ok rr st2
    rw [hr]
    refine h _ _ t H2 (key S2) (by rw [ers_wipe, e2]) et ok ⟨rr.1, fun i mi u e => ?_⟩ ?_
    · have hi := hio i mi
      rw [wipeT_out hi] at e
      exact rr.2 i mi u e
    · have st := st1.trans st2
      exact (step_wipe st.tail).cons (st.ow t List.mem_cons_self) (st.tr t List.mem_cons_self) (st.im t List.mem_cons_self)
  | ex c fs s => exact h.elim
  | no => exact h.elim
theorem wipe_one (i : Nat) (σ : L2.St) : wipe σ [i] = σ.set i none := by
  apply List.ext_getElem?
  intro j
  by_cases h : j = i
  · subst h
    rw [wipe_in (by simp)]
    by_cases hl : j < σ.length
    · rw [if_pos hl, List.getElem?_set_self hl]
    · rw [if_neg hl, List.getElem?_eq_none (by rw [List.length_set]; omega)]
  · rw [wipe_out (by simpa using h), List.getElem?_set_ne (fun z => h z.symm)]
theorem wipe_nil (σ : L2.St) : wipe σ [] = σ := by
  apply List.ext_getElem?
  intro j
  rw [wipe_out (by simp)]
/-- what the clauses wish, out of what is asked behind them -/
theorem runHs_ok {X : Cx} {Wout : WX} {md : List Nat} {tab : ExT} (ht : ∀ e ∈ tab, PySem.W.exmOne X.K (.ref e.1) (.ref e.2.1) = some e.2.2) (hE : ∀ e ∈ tab, ExcC X.K e.1) {hds : List ExceptHandler} {l : HL} {l' : List (Value × Option Nat × HTs)} (hh : DHs X io md hds l l') {Z : Ends} {ρ : Nat → V} {ts : List T} {H : Hp} {c : Value} {fs : XF} {d : Option Addr} {ts1 : List T} {σ1 : L2.St} {H1 : Hp}
    (S1 : Sim X.K io ρ ts1 σ1 H1) (st1 : Step H ts H1 ts1) (pu1 : ∀ j, j ∉ md → ts1[j]? = ts[j]?) (xr : XRel H1 d fs) (h : SPost X.K Wout io ρ md ts H Z (runHs tab l c fs (T.ers ts1))) : wHs X.K Wout Z l' c d σ1 H1 := by
  induction hh with
  | nil => exact h ts1 σ1 H1 d S1 rfl st1 xr
  | @cons x hc' dh b₀ suite np pos' hds l l' hc hd ind r ih =>
    rw [runHs] at h
    unfold runH1 at h
    cases c with
    | ref C =>
      simp only at h
      cases e : exLook tab C hc' with
      | none => rw [e] at h; exact h.elim
      | some b =>
        rw [e] at h
        refine ⟨b, exLook_ok ht e, fun hb a na => ?_, fun hb => ?_⟩
        · subst hb
          cases fs with
          | some fs => exact h.elim
          | none =>
            obtain ⟨x0, mx, ex⟩ := exLook_mem e
            refine ⟨C, rfl, xr, by rw [← ex]; exact hE x0 mx, ρ, ts1, S1, ?_⟩
            refine un_post (is := []) (fun _ _ m => nomatch m) (fun _ m => nomatch m) (Z := Z) (by rw [ind C a]; exact h) st1 pu1 (fun σ H' q => by rw [wipe_nil] at q; exact q) (fun σ H' q => by rw [wipe_nil] at q; exact q) (fun σ H' q => by rw [wipe_nil] at q; exact q) rfl
        · subst hb
          exact ih h
    | _ => exact h.elim
  | @as x n hc' i dh b₀ suite np pos' hds l l' hi hln hio hmd hc hd ind r ih =>
    rw [runHs] at h
    unfold runH1 at h
    cases c with
    | ref C =>
      simp only at h
      cases e : exLook tab C hc' with
      | none => rw [e] at h; exact h.elim
      | some b =>
        rw [e] at h
        refine ⟨b, exLook_ok ht e, fun hb a na => ?_, fun hb => ?_⟩
        · subst hb
          cases fs with
          | some fs => exact h.elim
          | none =>
            have hio' : i ∉ io := by simpa using hio
            have hmd' : i ∈ md := by simpa using hmd
            have tr : TRel (T.v (.ref a)) ts1 := ⟨trivial, fun u _ => ⟨fun a m => (nomatch m), fun a _ m => (nomatch m)⟩⟩
            have S2 : Sim X.K io ρ (ts1.set i (.v (.ref a))) (σ1.set i (some (.ref a))) H1 := S1.set (u := .v (.ref a)) trivial tr hio'
            obtain ⟨x0, mx, ex⟩ := exLook_mem e
            refine ⟨C, rfl, xr, by rw [← ex]; exact hE x0 mx, ρ, _, S2, ?_⟩
            have st2 : Step H ts H1 (ts1.set i (.v (.ref a))) := ⟨st1.fr, st1.al, fun t m q mq => (List.mem_or_eq_of_mem_set m).elim (fun m => st1.ow t m q mq) fun z => (by subst z; cases mq), fun t m q mq => (List.mem_or_eq_of_mem_set m).elim (fun m => st1.tr t m q mq) fun z => (by subst z; cases mq), fun t m q mq => (List.mem_or_eq_of_mem_set m).elim (fun m => st1.im t m q mq) fun z => (by subst z; cases mq)⟩
            refine un_post (is := [i]) (fun j mj z => hio' (by rw [← List.mem_singleton.mp z]; exact mj)) (fun j z => by rw [List.mem_singleton.mp z]; exact hmd') (Z := Z) (by rw [ers_set, T.er, ind C a]; exact h) st2 (fun j hj => ?_) (fun σ H' q => by rw [wipe_one] at q; exact q) (fun σ H' q => by rw [wipe_one] at q; exact q) (fun σ H' q => by rw [wipe_one] at q; exact q) rfl
            rw [List.getElem?_set_ne (fun z => hj (by rw [← z]; exact hmd')), pu1 j hj]
        · subst hb
          exact ih h
    | _ => exact h.elim
theorem ds_try {X : Cx} {W : WX} {body : List Stmt} {h₀ : ExceptHandler} {hds : List ExceptHandler} {l : HL} {l' : List (Value × Option Nat × HTs)} {pos : Pos} {tab : ExT} {db : S} {mdb : List Nat} (md : List Nat) (ht : ∀ e ∈ tab, PySem.W.exmOne X.K (.ref e.1) (.ref e.2.1) = some e.2.2) (hE : ∀ e ∈ tab, ExcC X.K e.1) (tk : Takes X W)
    (hb : ∀ (W' : WX) (pn : List (Addr × Obj)) (xe : Value → Shared → Prop), Takes (X.tr pn xe) W' → PassesOwn (model X.prog X.w) X.A X.env xe → ∃ t, DSs (X.tr pn xe) W' io mdb body t db) (hh : DHs X io md (h₀ :: hds) l l') (hN : X.N.Nodup) (hmd : (List.range X.N.length).all (fun j => md.contains j) = true := by rfl) (hsb : mdb.all (fun j => md.contains j) = true := by rfl)
    (hs : X.stack = X.env :: X.outer := by rfl) (hf : X.env.frame = some X.env.locals := by rfl) :
    DS X W io md (.Try body (h₀ :: hds) [] [] pos) (fun D σ H => σ.length = X.N.length → tSem X.K (fun c d σ' H' => σ'.length = X.N.length → wHs X.K W D l' c d σ' H') io mdb db D σ H) (sTry tab l db) := by
  refine ⟨ps_try_hs (tb := fun W => tSem X.K W io mdb db) hs hf hN tk (fun W' pn xe tk' po => pss_sem (X := X.tr pn xe) (hb W' pn xe tk' po)) hh.hds, fun ρ ts σ H Z S h hl => ⟨ρ, ts, S, ?_⟩⟩
  have big : ∀ {ts' : List T} {σ' : L2.St} {H' : Hp}, Sim X.K io ρ ts' σ' H' → σ'.length = X.N.length → ∀ j, j ∉ md → ts'[j]? = ts[j]? := fun {ts' σ' H'} S' hl' j hj => by
    have : ¬ j < X.N.length := fun z => hj (by simpa using List.all_eq_true.mp hmd j (List.mem_range.mpr z))
    rw [List.getElem?_eq_none (by rw [S'.len, hl']; omega), List.getElem?_eq_none (by rw [S.len, hl]; omega)]
  unfold sTry at h
  cases e : db (T.ers ts) with
  | nx s => rw [e] at h; exact fun ts' σ' H' S' e' st pu => h ts' σ' H' S' e' st fun j hj => pu j fun z => hj (by simpa using List.all_eq_true.mp hsb j z)
  | bk s => rw [e] at h; exact fun ts' σ' H' S' e' st pu => h ts' σ' H' S' e' st fun j hj => pu j fun z => hj (by simpa using List.all_eq_true.mp hsb j z)
  | ct s => rw [e] at h; exact fun ts' σ' H' S' e' st pu => h ts' σ' H' S' e' st fun j hj => pu j fun z => hj (by simpa using List.all_eq_true.mp hsb j z)
  | rt x s => rw [e] at h; exact h
  | no => rw [e] at h; exact h
  | ex c fs s =>
    rw [e] at h
    simp only at h
    intro ts1 σ1 H1 d S1 e1 st1 xr hl1
    rw [← e1] at h
    exact runHs_ok ht hE hh S1 st1 (big S1 hl1) xr h
end
end VS

namespace VS
open PySem PySem.Spec PyProof.Rows L2
/-! ### isinstance of the error that a suite holds -/
def rX1 (K : PySem.W.Frag) (D a : Addr) : List V → Hp → VK → Prop := fun xs H Q => ∃ (c : V) (u : Value) (b : Bool), xs = [.ref a, c] ∧ ClsV c u ∧ PySem.W.kitOne K (.ref D) u = some b ∧ Q (.bl b) H
def rXN (K : PySem.W.Frag) (D a : Addr) : List V → Hp → VK → Prop := fun xs H Q => ∃ (tp : Addr) (cs : List V) (us : List Value) (b : Bool), xs = [.ref a, .ref tp] ∧ SqT K H tp cs ∧ Paired ClsV cs us ∧ PySem.W.kitAny K (.ref D) us = some b ∧ Q (.bl b) H
section
variable {X : Cx} {a D : Addr} {oe : Obj} {pn : List (Addr × Obj)}
theorem x_inst {pins : List (Addr × Obj)} {s : Shared} {σ : L2.St} {H : Hp} (hz : Zc (.ref D) none oe) (hf : ∃ vs, oe.data = .fields vs) (I : Inv (X.suite a ((a, oe) :: pn)) pins σ H s) : PySem.W.InstAt s.heap a oe D none := by
  obtain ⟨hget, _⟩ := I.pin (a, oe) (List.mem_append.mpr (.inl List.mem_cons_self))
  obtain ⟨vs, hv⟩ := hf
  obtain ⟨oc, od, oda, osl⟩ := oe
  obtain ⟨h1, h2⟩ := hz
  dsimp only at h1 h2 hv
  subst h1 h2 hv
  exact ⟨hget, rfl, rfl, trivial⟩
theorem call_x1 (C : ExcC X.K D) (hz : Zc (.ref D) none oe) (hf : ∃ vs, oe.data = .fields vs) : CallR (X.suite a ((a, oe) :: pn)) (.builtin "isinstance") (rX1 X.K D a) := by
  intro pins s σ H xs us Q I r h
  obtain ⟨c, u, b, rfl, k, e, q⟩ := h
  obtain ⟨u1, u2, rfl, r1, r2⟩ := vals2 r
  have e2 := k.eq r2
  subst e2
  cases (show u1 = Value.ref a from r1)
  exact PySem.W.kia_one (PySem.W.handS_kitx_exc C.hg C.hk C.hs C.hd C.ha C.hn C.ht C.hm) I.kIn (x_inst hz hf I) e (fun z => nomatch z) fun tk => ⟨.bl b, H, I.tok tk, rfl, q⟩
theorem call_xN (C : ExcC X.K D) (hz : Zc (.ref D) none oe) (hf : ∃ vs, oe.data = .fields vs) : CallR (X.suite a ((a, oe) :: pn)) (.builtin "isinstance") (rXN X.K D a) := by
  intro pins s σ H xs us Q I r h
  obtain ⟨tp, cs, ws, b, rfl, hT, k, e, q⟩ := h
  obtain ⟨u1, u2, rfl, r1, r2⟩ := vals2 r
  cases (show u1 = Value.ref a from r1)
  cases (show u2 = Value.ref tp from r2)
  obtain ⟨its, rv, ⟨o, h1, h2, n, h3⟩, _⟩ := I.tuple hT
  have e3 := ClsV.all k rv
  subst e3
  obtain ⟨oc, od, dt, sl⟩ := o
  simp only at h2 h3
  subst h2 h3
  exact PySem.W.kia_tup (PySem.W.handS_kitx_exc C.hg C.hk C.hs C.hd C.ha C.hn C.ht C.hm) I.kIn (x_inst hz hf I) h1 e (fun z => nomatch z) fun tk => ⟨.bl b, H, I.tok tk, rfl, q⟩
end
/-- the table's answers for an error of the class C at a -/
def isxD (tab : Isa) (C a : Addr) : List D → Option D
  | [.v (.ref b), .v c] => if b = a then (match V.tk c with
    | some u => (isaD tab (.o C) u).map D.bl
    | none => none) else none
  | [.v (.ref b), .nd .tup cs] => if b = a then (match D.tks cs with
    | some us => (isaAny tab (.o C) us).map D.bl
    | none => none) else none
  | _ => none
abbrev rXA (K : PySem.W.Frag) (C a : Addr) : List V → Hp → VK → Prop := fun xs H Q => rX1 K C a xs H Q ∨ rXN K C a xs H Q
theorem isx_ok {K : PySem.W.Frag} {tab : Isa} {C a : Addr} (ht : ∀ e ∈ tab, PySem.W.kitOne K e.1.v e.2.1.v = some e.2.2) : OpN K (rXA K C a) (isxD tab C a) := by
  intro H us d Q ok gd e q
  unfold isxD at e
  split at e
  · rename_i b c e1
    obtain ⟨u, w, rfl, e2, e3⟩ := ers_cons e1
    obtain ⟨u1, w, rfl, e4, e5⟩ := ers_cons e3
    have := ers_nil e5; subst this
    have := er_v e4; subst this
    have := er_v e2; subst this
    split at e
    · rename_i h; subst h
      split at e
      · rename_i k h2
        cases ei : isaD tab (.o C) k with
        | none => rw [ei] at e; cases e
        | some r =>
          rw [ei] at e; cases e
          exact .inl ⟨c, k.v, r, rfl, tk_cls h2, isaD_ok ht ei, q (.v _) H rfl trivial Frsh.atom⟩
      · cases e
    · cases e
  · rename_i b cs e1
    obtain ⟨u, w, rfl, e2, e3⟩ := ers_cons e1
    obtain ⟨u1, w, rfl, e4, e5⟩ := ers_cons e3
    have := ers_nil e5; subst this
    obtain ⟨p, ws, rfl, e6⟩ := er_nd e4
    have := er_v e2; subst this
    split at e
    · rename_i h; subst h
      split at e
      · rename_i k h2
        cases ei : isaAny tab (.o C) k with
        | none => rw [ei] at e; cases e
        | some r =>
          rw [ei] at e; cases e
          exact .inr ⟨p, T.rts ws, k.map TK.v, r, rfl, (ok _ (by simp)).sqT, tks_of (by rw [e6]; exact h2), isaAny_ok ht ei, q (.v _) H rfl trivial Frsh.atom⟩
      · cases e
    · cases e
  · cases e
theorem call_xA {X : Cx} {a C : Addr} {oe : Obj} {pn : List (Addr × Obj)} (c : ExcC X.K C) (hz : Zc (.ref C) none oe) (hf : ∃ vs, oe.data = .fields vs) : CallR (X.suite a ((a, oe) :: pn)) (.builtin "isinstance") (rXA X.K C a) := call_or (call_x1 c hz hf) (call_xN c hz hf)
/-! ### a set of slots, then the name gone -/
theorem set_mid {s : List D} {i j : Nat} {x v : D} (h : i ≠ j) : (((s.set i x).set j v).set i .un) = (s.set i .un).set j v := by
  have e : ((s.set i x).set j v).set i .un = ((s.set i x).set i .un).set j v := List.set_comm _ _ (Ne.symm h)
  rw [e, List.set_set]
/-- a def of which nothing is promised -/
theorem fn_no {P : Program} {w : World} {K : PySem.W.Frag} {mg : Str → Option Value} {base : Heap} {CX : CXT} {k : Nat} {f : Addr} {fd : FuncData} {ps : List Str} (pm : List PM) (hp : pm.length = ps.length) : FnOk P w K mg base CX k f fd ps (spOf K pm fun _ => .no) :=
  ⟨fun vs H Q E h => by rw [sp_len h, hp], fun A outer s H args us vs Q E hr he hb hv hs => by
    obtain ⟨ts, _, _, _, _, _, _, post⟩ := hs
    exact post.elim⟩
theorem boot_vale : bootBuiltins "ValueError" = some (.type "ValueError") := by kernel_rfl
end VS

namespace VS
open PySem PySem.Spec PyProof.Rows L2
/-! ### a static method that may raise -/
def tSMethS (C : Addr) (sp : Sp) (Es : L2.St → XK) (ta : TE) (t : TA) : TE := fun σ H Q => ta σ H fun x H1 => x = .ref C ∧ t σ H1 fun vs H2 => sp (vs ++ []) H2 Q (Es σ)
section
variable {X : Cx} {W : WX} {io : List Nat} {CX : CXT} {k : Nat} {C g q : Addr} {mc : Value} {fd : FuncData} {ps : List Str} {m : Str} {pos apos : Pos} {o e : Expr} {es : List Expr} {ks : List AK} {md : List Nat} {ta : TE} {t : TA} {dc' : EC} {F : FD} {pl : Sem Bool} {sp : Sp} {Es : L2.St → XK}
theorem pe_smethS (he : PE X o ta) (r : ClX.CRead X.K C mc) (c : SMet X.K C mc m q g) (F : FnOk X.prog X.w X.K X.mg X.base CX k g fd ps sp) (hr : Room k X.A) (hb : Binds X.K fd ps []) (hx : ∀ σ, PassesAt CX X σ (Es σ)) (ha : PA X (e :: es) t)
    (hst : starEach (e :: es) X.env = (false, eval e X.env) :: starEach es X.env := by rfl) (hpl : (backTo pos (starEach es X.env)).any (·.1) = false := by rfl)
    (ht : eval (.Call (.Attribute o m apos) (e :: es) [] pos) X.env = (do
      let ov ← eval o X.env
      standAt apos.atName
      let (f, first) ← holding [ov] (getMethod ov m pl)
      callWith pos f first (backTo pos (starEach (e :: es) X.env)) (backToKw pos (keywordEach [] X.env))) := by rfl) :
    PE X (.Call (.Attribute o m apos) (e :: es) [] pos) (tSMethS C sp Es ta t) := by
  refine ⟨fun pins s σ H Q I h => ?_⟩
  refine PySem.W.methodCall_KW (pl := pl) (thn (he.run pins s σ H _ I h) fun u s1 ⟨x, H1, I1, rx, ex, q⟩ => ?_) ht
  subst ex
  obtain rfl : u = Value.ref C := rx
  obtain ⟨rest, hp⟩ := c.rc
  refine PySem.W.method_cls I1.kIn r.ga (PySem.W.cls_bind I1.kIn r.rd c.at_ (wpAny_call (PySem.W.sm_get (s := { s1 with toks := s1.toks + 1 }) I1.kIn hp (PySem.W.handed_on rfl ?_))))
  refine PySem.W.callWith_K (first := []) (h₀ := X.base) I1.ok.mod.kin c.kp (thn (ha.run pos pins _ σ H1 _ (I1.tok (s1.toks + 1)) q) fun us s2 ⟨vs, H2, I2, r, q2⟩ => ⟨I2.kIn, ?_⟩) hst hpl
  have q2 : sp (vs ++ []) H2 Q (Es σ) := q2
  rw [List.append_nil] at q2
  exact run_fnS (E := Es) F hr hb (hx σ) I2 r q2
theorem de_smethX (hcls : PE X o (tC (.ref C))) (r : ClX.CRead X.K C mc) (c : SMet X.K C mc m q g) (FN : FnOk X.prog X.w X.K X.mg X.base CX k g fd ps (spOf X.K (ks.map AK.pm) F)) (hr : Room k X.A) (hb : Binds X.K fd ps []) (hx : ∀ σ, PassesAt CX X σ (WE W σ)) (hc : DC X W io ks md (e :: es) t dc')
    (hn : (ixs ks).Nodup := by decide) (hmv : ((ixs ks).all fun i => !io.contains i || (ioIx ks).contains i) = true := by rfl)
    (hst : starEach (e :: es) X.env = (false, eval e X.env) :: starEach es X.env := by rfl) (hpl : (backTo pos (starEach es X.env)).any (·.1) = false := by rfl)
    (ht : eval (.Call (.Attribute o m apos) (e :: es) [] pos) X.env = (do
      let ov ← eval o X.env
      standAt apos.atName
      let (f, first) ← holding [ov] (getMethod ov m pl)
      callWith pos f first (backTo pos (starEach (e :: es) X.env)) (backToKw pos (keywordEach [] X.env))) := by rfl) :
    DE X W io .tmp (md ++ ixs ks) (.Call (.Attribute o m apos) (e :: es) [] pos) (tSMethS C (spOf X.K (ks.map AK.pm) F) (WE W) (tC (.ref C)) t) (dCall F ks dc') :=
  ⟨pe_smethS hcls r c FN hr hb hx hc.pa hst hpl ht, fun ρ ts σ H Q S h => ⟨rfl, erd_call hc.rd (fun _ _ _ _ h => h) hn hmv ρ ts σ H Q S h⟩⟩
end
/-! ### what a suite does, whatever the error's address -/
def isxB (tab : Isa) (C : Addr) : D → Option Bool
  | .v c => match V.tk c with
    | some u => isaD tab (.o C) u
    | none => none
  | .nd .tup cs => match D.tks cs with
    | some us => isaAny tab (.o C) us
    | none => none
  | _ => none
theorem isx_self (tab : Isa) (C a : Addr) (d : D) : isxD tab C a [.v (.ref a), d] = (isxB tab C d).map D.bl := by
  unfold isxB isxD
  rcases d with _ | v | ⟨k, cs⟩
  · rfl
  · simp only [if_true]
    cases V.tk v <;> rfl
  · cases k <;> try rfl
    simp only [if_true]
    cases D.tks cs <;> rfl
theorem set_past {s : List D} {i : Nat} (h : ¬ i < s.length) (v : D) : s.set i v = s := List.set_eq_of_length_le (by omega)
theorem get_past {s : List D} {i : Nat} (h : ¬ i < s.length) : s[i]? = none := by simp; omega
theorem ix_two0 {o : Bool} {x y : D} : ixD (.nd (.lst o) [x, y]) (.v (.int 0)) = some x := by rfl
theorem ix_two1 {o : Bool} {x y : D} : ixD (.nd (.lst o) [x, y]) (.v (.int 1)) = some y := by rfl
theorem set_mid2 {s : List D} {i j k : Nat} {x v w : D} (h : i ≠ j) (h2 : i ≠ k) : ((((s.set i x).set j v).set k w).set i .un) = ((s.set i .un).set j v).set k w := by
  rw [List.set_comm _ _ (Ne.symm h2), set_mid h]
theorem set_mid3 {s : List D} {i j k l : Nat} {x v w y : D} (h : i ≠ j) (h2 : i ≠ k) (h3 : i ≠ l) : (((((s.set i x).set j v).set k w).set l y).set i .un) = (((s.set i .un).set j v).set k w).set l y := by
  rw [List.set_comm _ _ (Ne.symm h3), set_mid2 h h2]
end VS

namespace VS
open PySem PySem.Spec PyProof.Rows L2
/-! ### [::-1] of a list or a text -/
def revT (z : Str) : Str := ⟨z.cps.toList.reverse.toArray⟩
def rRevS : V → Hp → VK → Prop := fun x H Q => ∃ z, x = .str z ∧ z.length ≤ sizeLine ∧ Q (.str (revT z)) H
abbrev rRevA (K : PySem.W.Frag) : V → Hp → VK → Prop := fun x H Q => rRev K x H Q ∨ rRevS x H Q
def tRevA (K : PySem.W.Frag) (te : TE) : TE := fun σ H Q => te σ H fun x H1 => rRevA K x H1 Q
theorem rev_idx (n : Nat) : Builtin.Str.strSliceIndices none none (-1) n = (List.range n).reverse := by
  show sliceRange ((n : Int) - 1) (-1) (-1) = _
  rw [PySem.W.krv_sliceRange, PySem.W.krv_range]
theorem pe_revA {X : Cx} {e : Expr} {te : TE} {k : Nat} {p1 p2 p3 pos : Pos} (he : PE X e te) : PE X (.Subscript e (.Slice none none (some (.UnaryOp .USub (.Constant (.int 1) k p1) p2)) p3) pos) (tRevA X.K te) := by
  refine ⟨fun pins s σ H Q I h => ?_⟩
  refine Subscript_ (thn (he.run pins s σ H _ I h) fun v s1 ⟨x, H1, I1, r1, q1⟩ => ?_)
  have hst : PO X (some (.UnaryOp .USub (.Constant (.int 1) k p1) p2)) (tPart (tUn (rU fun i => .int (-i)) (tC (.int 1)))) := po_some (pe_un un_neg pe_int)
  refine wpAny_Slice (thn (po_none.run pins s1 σ H1 (fun o H2 => o = none ∧ H2 = H1) I1 ⟨rfl, rfl⟩) fun vl s2 ⟨l, H2, I2, pl, el, e2⟩ => ?_)
  subst el e2
  refine thn (po_none.run pins s2 σ H2 (fun o H3 => o = none ∧ H3 = H2) I2 ⟨rfl, rfl⟩) fun vu s3 ⟨u, H3, I3, pu, eu, e3⟩ => ?_
  subst eu e3
  refine thn (hst.run pins s3 σ H3 (fun o H4 => o = some (-1) ∧ H4 = H3) I3 ⟨1, rfl, -1, rfl, rfl, rfl⟩) fun vs s4 ⟨o, H4, I4, ps, eo, e4⟩ => ?_
  subst eo e4
  have I5 : Inv X pins σ H4 { s4 with heap := s4.heap.push { cls := .type "slice", data := .fields #[vl, vu, vs] } } := I4.kept (t' := s4.toks) fun b ob q => Heap.get?_push_of_some _ q
  rcases q1 with ⟨a, xs, ex, hx, q⟩ | ⟨z, ex, hz, q⟩
  · subst ex
    cases r1
    obtain ⟨its, r, ht, hz⟩ := I5.list hx
    have hlen := r.length
    show wpAny (model X.prog X.w) X.A (subscriptTail e (.Slice none none (some (.UnaryOp .USub (.Constant (.int 1) k p1) p2)) p3) (.ref a) (.ref s4.heap.objs.size)) (EP X pins σ Q) X.xe { s4 with heap := s4.heap.push { cls := .type "slice", data := .fields #[vl, vu, vs] } }
    refine tail_any (ops := [.ref a, .ref s4.heap.objs.size]) ht.isList.typeIs (PySem.slot_list_getitem.lookup) ?_ (by with_unfolding_all rfl)
    refine wpAny_getItem_list_slice ht.isList (Heap.IsSliceOf.new _ vl vu vs) pl pu ps (by decide) ?_ (by rw [List.size_toArray]; omega)
    rw [PySem.W.krv_pick]
    refine ⟨.ref _, _, I5.laid (t' := s4.toks) (o := .lst xs.reverse) (fun b ob q => Heap.get?_push_of_some _ q) (Nat.le_refl _) ?_, rfl, q _ (I5.hok.fresh (Nat.le_refl _))⟩
    exact ⟨by rw [List.length_reverse]; exact hz, _, 0, r.reverse, Heap.get?_push_size _ rfl⟩
  · subst ex
    obtain ⟨t, rfl⟩ := r1
    obtain ⟨l, rfl, hl⟩ := IsPart.raw pl
    obtain ⟨u, rfl, hu⟩ := IsPart.raw pu
    obtain ⟨st, rfl, hst⟩ := IsPart.raw ps
    obtain ⟨os, hos, hcs, hds⟩ := Heap.IsSliceOf.new s4.heap (partValue l) (partValue u) (partValue st)
    show wpAny (model X.prog X.w) X.A (subscriptTail e (.Slice none none (some (.UnaryOp .USub (.Constant (.int 1) k p1) p2)) p3) (.str z t) (.ref s4.heap.objs.size)) (EP X pins σ Q) X.xe { s4 with heap := s4.heap.push { cls := .type "slice", data := .fields #[partValue l, partValue u, partValue st] } }
    refine tail_any (T := "str") (ops := [.str z t, .ref s4.heap.objs.size]) (typeIs_str _ _ _) F.slot_str_getitem.lookup ?_ (by with_unfolding_all rfl)
    refine wpAny_getItem_str_slice (l := l) (u := u) (st := st) ⟨os, hos, hcs, hds⟩ (by rw [hst]; rfl) ?_
    have ep : slicePicked z l u st = (List.range z.length).reverse := by
      unfold slicePicked
      rw [hl, hu, hst]
      exact rev_idx _
    unfold sliceMade
    rw [ep, hst]
    have c : (((some (-1 : Int)).getD 1 == 1) && (List.range z.length).reverse.length == z.length) = false := by rfl
    rw [if_neg (by rw [c]; decide)]
    have er : (⟨((List.range z.length).reverse.filterMap (z.cps[·]?)).toArray⟩ : Str) = revT z := by
      rw [List.filterMap_reverse]
      show (⟨((List.range z.cps.size).filterMap (z.cps[·]?)).reverse.toArray⟩ : Str) = _
      rw [PySem.W.krv_all]
      rfl
    rw [er]
    exact ⟨by show (z.cps.toList.reverse.toArray).size ≤ sizeLine; rw [List.size_toArray, List.length_reverse]; exact hz, .str (revT z), H4, I5.tok _, ⟨_, rfl⟩, q⟩
def revA : D → Option D
  | .v (.str z) => if z.length ≤ sizeLine then some (.v (.str (revT z))) else none
  | d => revD d
theorem revA_ok {K : PySem.W.Frag} : Op1 K (rRevA K) revA := by
  intro H x d Q ok g e q
  unfold revA at e
  split at e
  · rename_i z e1
    have := er_v e1; subst this
    split at e
    · rename_i hz; cases e
      exact .inr ⟨z, rfl, hz, q (.v _) H rfl trivial Frsh.atom⟩
    · cases e
  · exact .inl (rev_ok H x d Q ok g e q)
section
variable {X : Cx} {W : WX} {io : List Nat} {m : Md} {d1 : List Nat} {a : Expr} {ta : TE} {da : E} {pos : Pos}
theorem de_revA {k : Nat} {p1 p2 p3 : Pos} (ha : DE X W io m d1 a ta da) : DE X W io .tmp d1 (.Subscript a (.Slice none none (some (.UnaryOp .USub (.Constant (.int 1) k p1) p2)) p3) pos) (tRevA X.K ta) (dOne revA da) := ⟨pe_revA ha.pe, erd_oneU ha.rd revA_ok⟩
end
end VS

namespace VS
open PySem PySem.Spec PyProof.Rows L2
/-! ### the law's def at a script, several own classes -/
theorem law_walkA {α : Type} {okc : α → Prop} {l : PySem.W.OpenLaw} {q : Program} {loose : List Str} {XP : (Str → Option Value) → Heap → Prop} {YP : World → Heap → Prop} {d : DefRec} {K : Params → PySem.W.Frag} {kk : Nat} {DL : α → FD} (hn : l.most = some 63) (hdf : d.params.defaults = []) (hr : Room kk callerA)
    (hY : ∀ (w : World) (h : Heap), YP w h → (K w.params).In h) (hD : ∀ (a : α) (ns : List Int), okc a → ns.length ≤ 63 → ∃ os, DL a [.nd .scr (ns.map D.int)] = .ok (.v (.bl true), os))
    (F : ∀ (w : World) (mg : Str → Option Value) (fa : Addr) (h : Heap), (K w.params).In h → h.Ns mainGlobals mg → mg d.name = some (.ref fa) →
      ∃ (a : α) (fd : FuncData), okc a ∧ (∀ (s : Shared) (u : Value), BindsTo s fd ⟨[u], []⟩ [("script", u)]) ∧ ∀ base : Heap, (K w.params).In base → base.Ns mainGlobals mg → FnOk l.prog w (K w.params) mg base CX0 kk fa fd ["script"] (spOf (K w.params) [.val] (DL a))) :
    PySem.W.WalkO q loose XP YP l.row.toRowW d [] (fun f vs => PySem.call f vs) :=
  L2.walk_of (n := 63) (k := kk) (x := "script") (CX := fun _ => CX0) (sp := fun w => spLaw (K w.params)) hn (by rw [sizeLine_eq]; decide) hdf hr hY (fun w mg fa h KX G hmg => by
    obtain ⟨a, fd, oa, b, f⟩ := F w mg fa h KX G hmg
    exact ⟨fd, b, fun base k1 k2 => (f base k1 k2).imp fun vs H Q E h => law_imp (fun ns hl => hD a ns oa hl) h⟩) (fun _ _ a ns hl hO hS => ⟨a, ns, rfl, hO, hS, hl, fun _ => rfl⟩) fun _ _ _ _ _ z => z
theorem kit_rr {K : PySem.W.Frag} {C D : Addr} {r : Bool} (ne : (C = D) = False) (h1 : PySem.W.isClsIn K D = true) (h2 : PySem.W.typeIn K (.ref D) = some (.type "type")) (h : PySem.W.mroIn K C (.ref D) = some r) : PySem.W.kitOne K (.ref C) (.ref D) = some r := by
  unfold PySem.W.kitOne
  rw [if_neg (by intro z; rw [← ne]; have := beq_iff_eq.mp z; injection this)]
  show (if ((PySem.W.clsIn K D).isSome && PySem.W.typeIn K (.ref D) == some (.type "type")) = true then PySem.W.subIn K (.ref C) (.ref D) else none) = _
  have h3 : (PySem.W.clsIn K D).isSome = true := h1
  rw [if_pos (by rw [h3, h2]; simp)]
  exact h
theorem cls_ne {K : PySem.W.Frag} {C D : Addr} {x y : Str} {oc oc' : Value} {od od' : Option Addr} {b b' m m' : List Value} {n n' : Addr} {q q' : Str} {h h' : Bool} {s s' : List Str} {u u' : List Value} {a a' : Bool} {l l' : Option Bool} {e e' : Bool} {sl sl' : Array (Option Value)}
    (h1 : K.lookup C = some ⟨oc, od, .cls ⟨x, b, m, n, q, h, s, u, a, l, e⟩, sl⟩) (h2 : K.lookup D = some ⟨oc', od', .cls ⟨y, b', m', n', q', h', s', u', a', l', e'⟩, sl'⟩) (ne : (x == y) = false) : (C = D) = False := by
  refine eq_false fun z => ?_
  subst z
  rw [h1] at h2
  injection h2 with h2
  injection h2 with _ _ h2 _
  injection h2 with h2
  injection h2 with h2
  rw [h2] at ne
  simp at ne
end VS

namespace Wk21
open PySem PySem.Spec PyProof.Rows L2 VS
def top (i : Nat) : Stmt := PySem.Challenge.pw_clothstead_k21_whole_faces_and_hidden.main.body.getD i (.Pass ⟨0, 0, 0, 0⟩)
abbrev s_in_range : Stmt := (top 8)
abbrev s_colours_fit : Stmt := (top 9)
abbrev s_rows_fit : Stmt := (top 13)
abbrev s_Cloth___init__ : Stmt := (inClass (top 12) 1)
abbrev s_other : Stmt := (top 14)
abbrev s_turned_over : Stmt := (top 15)
abbrev s_check_colours : Stmt := (top 18)
abbrev s_crossing_colours : Stmt := (top 19)
abbrev s_face : Stmt := (top 20)
abbrev s_back : Stmt := (top 21)
abbrev s_hidden : Stmt := (top 22)
abbrev s__law_start : Stmt := (top 24)
abbrev s__law_draw : Stmt := (top 25)
abbrev s__law_side : Stmt := (top 26)
abbrev s__law_same : Stmt := (top 27)
abbrev s__law_free_rows : Stmt := (top 28)
abbrev s__law_exchange : Stmt := (top 29)
abbrev s__law_turned : Stmt := (top 30)
abbrev s__law_rows_told : Stmt := (top 31)
abbrev s__law_picture : Stmt := (top 32)
abbrev s__law_colours : Stmt := (top 33)
abbrev s__law_due : Stmt := (top 34)
abbrev s__law_asked_face : Stmt := (top 35)
abbrev s__law_asked_back : Stmt := (top 36)
abbrev s__law_asked_hidden : Stmt := (top 37)
abbrev s__law_handed : Stmt := (top 38)
abbrev s__law_answers : Stmt := (top 39)
abbrev s__law_answered : Stmt := (top 40)
abbrev s__law_shows : Stmt := (top 41)
abbrev s__law_spoilt : Stmt := (top 42)
abbrev s__law_word_due : Stmt := (top 43)
abbrev s__law_refused : Stmt := (top 44)
abbrev s_law : Stmt := (top 45)
def isaT (C_Cloth : Addr) : Isa := [(.o C_Cloth, .b "bool", false), (.o C_Cloth, .b "int", false), (.o C_Cloth, .b "str", false), (.o C_Cloth, .b "tuple", false), (.o C_Cloth, .b "list", false), (.o C_Cloth, .b "dict", false), (.b "NoneType", .o C_Cloth, false), (.b "bool", .o C_Cloth, false), (.b "int", .o C_Cloth, false), (.b "str", .o C_Cloth, false), (.b "tuple", .o C_Cloth, false), (.b "list", .o C_Cloth, false), (.b "dict", .o C_Cloth, false), (.o C_Cloth, .o C_Cloth, true)]
def isxT (C_BadColours C_TooLarge C_Mismatch : Addr) : Isa := [(.o C_BadColours, .o C_Mismatch, false), (.o C_BadColours, .o C_TooLarge, false), (.o C_BadColours, .b "ValueError", true), (.o C_Mismatch, .o C_Mismatch, true), (.o C_Mismatch, .o C_TooLarge, false), (.o C_Mismatch, .b "ValueError", true)]
def exT (C_MillError C_BadColours C_Mismatch : Addr) : ExT := [(C_BadColours, C_MillError, true), (C_BadColours, C_BadColours, true), (C_BadColours, C_Mismatch, false), (C_Mismatch, C_MillError, true), (C_Mismatch, C_BadColours, false), (C_Mismatch, C_Mismatch, true)]
structure Ne (C_Cloth C_MillError C_BadColours C_TooLarge C_Mismatch : Addr) : Prop where
  ne_Cloth_MillError : (C_Cloth = C_MillError) = False
  ne_Cloth_BadColours : (C_Cloth = C_BadColours) = False
  ne_Cloth_TooLarge : (C_Cloth = C_TooLarge) = False
  ne_Cloth_Mismatch : (C_Cloth = C_Mismatch) = False
  ne_MillError_Cloth : (C_MillError = C_Cloth) = False
  ne_MillError_BadColours : (C_MillError = C_BadColours) = False
  ne_MillError_TooLarge : (C_MillError = C_TooLarge) = False
  ne_MillError_Mismatch : (C_MillError = C_Mismatch) = False
  ne_BadColours_Cloth : (C_BadColours = C_Cloth) = False
  ne_BadColours_MillError : (C_BadColours = C_MillError) = False
  ne_BadColours_TooLarge : (C_BadColours = C_TooLarge) = False
  ne_BadColours_Mismatch : (C_BadColours = C_Mismatch) = False
  ne_TooLarge_Cloth : (C_TooLarge = C_Cloth) = False
  ne_TooLarge_MillError : (C_TooLarge = C_MillError) = False
  ne_TooLarge_BadColours : (C_TooLarge = C_BadColours) = False
  ne_TooLarge_Mismatch : (C_TooLarge = C_Mismatch) = False
  ne_Mismatch_Cloth : (C_Mismatch = C_Cloth) = False
  ne_Mismatch_MillError : (C_Mismatch = C_MillError) = False
  ne_Mismatch_BadColours : (C_Mismatch = C_BadColours) = False
  ne_Mismatch_TooLarge : (C_Mismatch = C_TooLarge) = False
theorem sc_in_range : FnScope ["n", "low", "high"] ["n", "low", "high"] (defScope s_in_range) := ⟨rfl, rfl, rfl, by decide +kernel, rfl, by decide +kernel, by decide +kernel⟩
def b_in_range : S := (sRt .tmp [] (dVof (dChn leD leD (dn 1) (dn 0) (dn 2))))
def D_in_range : FD := fnN 3 [] (b_in_range )
theorem sc_colours_fit : FnScope ["colours", "colour"] ["colours"] (defScope s_colours_fit) := ⟨rfl, rfl, rfl, by decide +kernel, rfl, by decide +kernel, by decide +kernel⟩
def if_colours_fit_1 (C_Cloth : Addr) : S := (sIf (dTor (dTnot (dTt (dOp (isiD (isaT C_Cloth) [C_Cloth]) (dAcons (.vw [0]) [] (dn 0) (dAcons .tmp [] (dDis .tup [.tmp, .tmp] (dAcons .tmp [] (dc (.ty "list")) (dAcons .tmp [] (dc (.ty "tuple")) dAnil))) dAnil))))) (dTnot (dTt (dCall D_in_range [.val .tmp, .val .tmp, .val .tmp] (dCval .tmp [] (dOp (u1 lenD) (dAcons (.vw [0]) [] (dn 0) dAnil)) (dCval .tmp [] (dc (.int 1)) (dCval .tmp [] (dc (.int 60)) dCnil)))))))
  (sRt .tmp [] (dc (.bl false)))
  sNx)
def if_colours_fit_2 (C_Cloth : Addr) : S := (sIf (dTnot (dTt (dCall D_in_range [.val (.vw [1]), .val .tmp, .val .tmp] (dCval (.vw [1]) [] (dn 1) (dCval .tmp [] (dc (.int 0)) (dCval .tmp [] (dc (.int 5)) dCnil))))))
  (sRt .tmp [] (dc (.bl false)))
  sNx)
def fb_colours_fit_1 (C_Cloth : Addr) : S := (if_colours_fit_2 C_Cloth)
def fo_colours_fit_1 (C_Cloth : Addr) : S := (sFor (.vw [0]) [1] (dIt (dn 0)) (gdN 1) (fb_colours_fit_1 C_Cloth))
def b_colours_fit (C_Cloth : Addr) : S := (sSeq (if_colours_fit_1 C_Cloth)
  (sSeq (fo_colours_fit_1 C_Cloth)
  (sRt .tmp [] (dc (.bl true)))))
def D_colours_fit (C_Cloth : Addr) : FD := fnN 2 [] (b_colours_fit C_Cloth)
theorem sc_rows_fit : FnScope ["rows", "signs", "most", "row", "sign"] ["rows", "signs", "most"] (defScope s_rows_fit) := ⟨rfl, rfl, rfl, by decide +kernel, rfl, by decide +kernel, by decide +kernel⟩
def if_rows_fit_1 (C_Cloth : Addr) : S := (sIf (dTor (dTnot (dTt (dOp (isiD (isaT C_Cloth) [C_Cloth]) (dAcons (.vw [0]) [] (dn 0) (dAcons .tmp [] (dDis .tup [.tmp, .tmp] (dAcons .tmp [] (dc (.ty "list")) (dAcons .tmp [] (dc (.ty "tuple")) dAnil))) dAnil))))) (dTnot (dTt (dCall D_in_range [.val .tmp, .val .tmp, .val (.vw [2])] (dCval .tmp [] (dOp (u1 lenD) (dAcons (.vw [0]) [] (dn 0) dAnil)) (dCval .tmp [] (dc (.int 1)) (dCval (.vw [2]) [] (dn 2) dCnil)))))))
  (sRt .tmp [] (dc (.bl false)))
  sNx)
def if_rows_fit_2 (C_Cloth : Addr) : S := (sIf (dTor (dTnot (dTt (dOp (isiD (isaT C_Cloth) [C_Cloth]) (dAcons (.vw [3]) [] (dn 3) (dAcons .tmp [] (dc (.ty "str")) dAnil))))) (dTor (dTnot (dTt (dCall D_in_range [.val .tmp, .val .tmp, .val (.vw [2])] (dCval .tmp [] (dOp (u1 lenD) (dAcons (.vw [3]) [] (dn 3) dAnil)) (dCval .tmp [] (dc (.int 1)) (dCval (.vw [2]) [] (dn 2) dCnil)))))) (dCmp .tmp [] neD (dOp (u1 lenD) (dAcons (.vw [3]) [] (dn 3) dAnil)) (dOp (u1 lenD) (dAcons (.vw [0]) [] (dIx (.vw [0]) [] (dn 0) (dc (.int 0))) dAnil)))))
  (sRt .tmp [] (dc (.bl false)))
  sNx)
def ce_rows_fit_1 (C_Cloth : Addr) : E := (dOp scountD (dAconsC D.isStr (.vw [3]) [] (dn 3) (dAcons (.vw [4]) [] (dn 4) dAnil)))
def co_rows_fit_1 (C_Cloth : Addr) : E := (dLc (.vw [1]) [4, 4] [4] (dIt (dn 1)) (gdN 4) bYes .tmp (ce_rows_fit_1 C_Cloth))
def if_rows_fit_3 (C_Cloth : Addr) : S := (sIf (dCmp .tmp [] neD (dOp (u1 sumD) (dAcons .tmp [] (co_rows_fit_1 C_Cloth) dAnil)) (dOp (u1 lenD) (dAcons (.vw [3]) [] (dn 3) dAnil)))
  (sRt .tmp [] (dc (.bl false)))
  sNx)
def fb_rows_fit_1 (C_Cloth : Addr) : S := (sSeq (if_rows_fit_2 C_Cloth)
  (if_rows_fit_3 C_Cloth))
def fo_rows_fit_1 (C_Cloth : Addr) : S := (sFor (.vw [0]) [3, 4, 4] (dIt (dn 0)) (gdN 3) (fb_rows_fit_1 C_Cloth))
def b_rows_fit (C_Cloth : Addr) : S := (sSeq (if_rows_fit_1 C_Cloth)
  (sSeq (fo_rows_fit_1 C_Cloth)
  (sRt .tmp [] (dc (.bl true)))))
def D_rows_fit (C_Cloth : Addr) : FD := fnN 5 [] (b_rows_fit C_Cloth)
theorem sc_Cloth___init__ : FnScope ["self", "rows"] ["self", "rows"] (defScope s_Cloth___init__) := ⟨rfl, rfl, rfl, by decide +kernel, rfl, by decide +kernel, by decide +kernel⟩
def if_Cloth___init___1 (C_Cloth : Addr) : S := (sIf (dTnot (dTt (dCall (D_rows_fit C_Cloth) [.val (.vw [1]), .val .tmp, .val .tmp] (dCval (.vw [1]) [] (dn 1) (dCval .tmp [] (dc (.str "01")) (dCval .tmp [] (dc (.int 60)) dCnil))))))
  sNo
  sNx)
def b_Cloth___init__ (C_Cloth : Addr) : S := (sSeq (if_Cloth___init___1 C_Cloth)
  (sSeq (sFldD 0 [C_Cloth] "rows" .tmp (dOp (u1 tupD) (dAcons (.vw [1]) [] (dn 1) dAnil)) (dpN 0))
  (sSeq (sFldD 0 [C_Cloth] "picks" .tmp (dOp (u1 lenD) (dAcons (.vw [0]) [] (dFld [C_Cloth] "rows" (dn 0)) dAnil)) (dpN 0))
  (sFldD 0 [C_Cloth] "ends" .tmp (dOp (u1 lenD) (dAcons (.vw [0]) [] (dIx (.vw [0]) [] (dFld [C_Cloth] "rows" (dn 0)) (dc (.int 0))) dAnil)) (dpN 0)))))
def D_Cloth___init__ (C_Cloth : Addr) : FD := fnN 2 [0] (b_Cloth___init__ C_Cloth)
theorem sc_other : FnScope ["sign"] ["sign"] (defScope s_other) := ⟨rfl, rfl, rfl, by decide +kernel, rfl, by decide +kernel, by decide +kernel⟩
def if_other_1 : S := (sIf (dCmp (.vw [0]) [] eqD (dn 0) (dc (.str "0")))
  (sRt .tmp [] (dc (.str "1")))
  sNx)
def b_other : S := (sSeq if_other_1
  (sRt .tmp [] (dc (.str "0"))))
def D_other : FD := fnN 1 [] (b_other )
theorem sc_turned_over : FnScope ["cloth", "row", "sign"] ["cloth"] (defScope s_turned_over) := ⟨rfl, rfl, rfl, by decide +kernel, rfl, by decide +kernel, by decide +kernel⟩
def ce_turned_over_1 (C_Cloth : Addr) : E := (dCall D_other [.val (.vw [2])] (dCval (.vw [2]) [] (dn 2) dCnil))
def co_turned_over_1 (C_Cloth : Addr) : E := (dLc .tmp [2, 2] [2] (dIt (dOne revA (dn 1))) (gdN 2) bYes .tmp (ce_turned_over_1 C_Cloth))
def ce_turned_over_2 (C_Cloth : Addr) : E := (dOp joinD (dAconsC D.isStr .tmp [2, 2] (dc (.str "")) (dAcons .tmp [] (co_turned_over_1 C_Cloth) dAnil)))
def co_turned_over_2 (C_Cloth : Addr) : E := (dLc (.vw [0]) [1, 2, 2, 1] [1] (dIt (dFld [C_Cloth] "rows" (dn 0))) (gdN 1) bYes .tmp (ce_turned_over_2 C_Cloth))
def b_turned_over (C_Cloth : Addr) : S := (sRt .tmp [] (dMake true C_Cloth (D_Cloth___init__ C_Cloth) [.val .tmp] (dCval .tmp [] (co_turned_over_2 C_Cloth) dCnil)))
def D_turned_over (C_Cloth : Addr) : FD := fnN 3 [] (b_turned_over C_Cloth)
theorem sc_check_colours : FnScope ["cloth", "warp", "weft"] ["cloth", "warp", "weft"] (defScope s_check_colours) := ⟨rfl, rfl, rfl, by decide +kernel, rfl, by decide +kernel, by decide +kernel⟩
def if_check_colours_1 (C_Cloth C_BadColours C_Mismatch : Addr) : S := (sIf (dTor (dTnot (dTt (dCall (D_colours_fit C_Cloth) [.val (.vw [1])] (dCval (.vw [1]) [] (dn 1) dCnil)))) (dTnot (dTt (dCall (D_colours_fit C_Cloth) [.val (.vw [2])] (dCval (.vw [2]) [] (dn 2) dCnil)))))
  (sRaise (.ref C_BadColours))
  sNx)
def if_check_colours_2 (C_Cloth C_BadColours C_Mismatch : Addr) : S := (sIf (dTor (dCmp .tmp [] neD (dOp (u1 lenD) (dAcons (.vw [1]) [] (dn 1) dAnil)) (dFld [C_Cloth] "ends" (dn 0))) (dCmp .tmp [] neD (dOp (u1 lenD) (dAcons (.vw [2]) [] (dn 2) dAnil)) (dFld [C_Cloth] "picks" (dn 0))))
  (sRaise (.ref C_Mismatch))
  sNx)
def b_check_colours (C_Cloth C_BadColours C_Mismatch : Addr) : S := (sSeq (if_check_colours_1 C_Cloth C_BadColours C_Mismatch)
  (if_check_colours_2 C_Cloth C_BadColours C_Mismatch))
def D_check_colours (C_Cloth C_BadColours C_Mismatch : Addr) : FD := fnD 3 [] (b_check_colours C_Cloth C_BadColours C_Mismatch)
theorem sc_crossing_colours : FnScope ["cloth", "warp", "weft", "i", "j"] ["cloth", "warp", "weft", "i", "j"] (defScope s_crossing_colours) := ⟨rfl, rfl, rfl, by decide +kernel, rfl, by decide +kernel, by decide +kernel⟩
def if_crossing_colours_1 (C_Cloth : Addr) : S := (sIf (dCmp (.vw [0]) [] eqD (dIx (.vw [0]) [] (dIx (.vw [0]) [] (dFld [C_Cloth] "rows" (dn 0)) (dn 3)) (dn 4)) (dc (.str "1")))
  (sRt .tmp [] (dDis .tup [(.vw [1]), (.vw [2])] (dAcons (.vw [1]) [] (dIx (.vw [1]) [] (dn 1) (dn 4)) (dAcons (.vw [2]) [] (dIx (.vw [2]) [] (dn 2) (dn 3)) dAnil))))
  sNx)
def b_crossing_colours (C_Cloth : Addr) : S := (sSeq (if_crossing_colours_1 C_Cloth)
  (sRt .tmp [] (dDis .tup [(.vw [2]), (.vw [1])] (dAcons (.vw [2]) [] (dIx (.vw [2]) [] (dn 2) (dn 3)) (dAcons (.vw [1]) [] (dIx (.vw [1]) [] (dn 1) (dn 4)) dAnil)))))
def D_crossing_colours (C_Cloth : Addr) : FD := fnN 5 [] (b_crossing_colours C_Cloth)
theorem sc_face : FnScope ["cloth", "warp", "weft", "picture", "i", "over", "j", "colour"] ["cloth", "warp", "weft"] (defScope s_face) := ⟨rfl, rfl, rfl, by decide +kernel, rfl, by decide +kernel, by decide +kernel⟩
def ce_face_1 (C_Cloth C_BadColours C_Mismatch : Addr) : E := (dIx .tmp [] (dCall (D_crossing_colours C_Cloth) [.val (.vw [0]), .val (.vw [1]), .val (.vw [2]), .val (.vw [4]), .val (.vw [6])] (dCval (.vw [0]) [] (dn 0) (dCval (.vw [1]) [] (dn 1) (dCval (.vw [2]) [] (dn 2) (dCval (.vw [4]) [] (dn 4) (dCval (.vw [6]) [] (dn 6) dCnil)))))) (dc (.int 0)))
def co_face_1 (C_Cloth C_BadColours C_Mismatch : Addr) : E := (dLc .tmp [6, 6] [6] (dRg1 (dAcons (.vw [0]) [] (dFld [C_Cloth] "ends" (dn 0)) dAnil)) (gdN 6) bYes .tmp (ce_face_1 C_Cloth C_BadColours C_Mismatch))
def ce_face_2 (C_Cloth C_BadColours C_Mismatch : Addr) : E := (dIx .tmp [] (dc (.str "012345")) (dn 7))
def co_face_2 (C_Cloth C_BadColours C_Mismatch : Addr) : E := (dLc (.vw [5]) [7, 7] [7] (dIt (dn 5)) (gdN 7) bYes .tmp (ce_face_2 C_Cloth C_BadColours C_Mismatch))
def fb_face_1 (C_Cloth C_BadColours C_Mismatch : Addr) : S := (sSeq (sAsg .tmp (co_face_1 C_Cloth C_BadColours C_Mismatch) (gdN 5))
  (sDrop (dMeth 3 [.tmp] (dpN 3) mAppend (dAcons .tmp [] (dOp joinD (dAconsC D.isStr .tmp [7, 7] (dc (.str "")) (dAcons .tmp [] (co_face_2 C_Cloth C_BadColours C_Mismatch) dAnil))) dAnil))))
def fo_face_1 (C_Cloth C_BadColours C_Mismatch : Addr) : S := (sFor .tmp [4, 6, 6, 5, 7, 7, 3] (dRg1 (dAcons (.vw [0]) [] (dFld [C_Cloth] "picks" (dn 0)) dAnil)) (gdN 4) (fb_face_1 C_Cloth C_BadColours C_Mismatch))
def b_face (C_Cloth C_BadColours C_Mismatch : Addr) : S := (sSeq (sDrop (dCall (D_check_colours C_Cloth C_BadColours C_Mismatch) [.val (.vw [0]), .val (.vw [1]), .val (.vw [2])] (dCval (.vw [0]) [] (dn 0) (dCval (.vw [1]) [] (dn 1) (dCval (.vw [2]) [] (dn 2) dCnil)))))
  (sSeq (sAsg .tmp (dDis (.lst true) [] dAnil) (gdN 3))
  (sSeq (fo_face_1 C_Cloth C_BadColours C_Mismatch)
  (sRt .tmp [] (dOp (u1 tupD) (dAcons (.vw [3]) [] (dn 3) dAnil))))))
def D_face (C_Cloth C_BadColours C_Mismatch : Addr) : FD := fnD 8 [] (b_face C_Cloth C_BadColours C_Mismatch)
theorem sc_back : FnScope ["cloth", "warp", "weft", "picture", "i", "under", "j", "colour"] ["cloth", "warp", "weft"] (defScope s_back) := ⟨rfl, rfl, rfl, by decide +kernel, rfl, by decide +kernel, by decide +kernel⟩
def ce_back_1 (C_Cloth C_BadColours C_Mismatch : Addr) : E := (dIx .tmp [] (dCall (D_crossing_colours C_Cloth) [.val (.vw [0]), .val (.vw [1]), .val (.vw [2]), .val (.vw [4]), .val (.vw [6])] (dCval (.vw [0]) [] (dn 0) (dCval (.vw [1]) [] (dn 1) (dCval (.vw [2]) [] (dn 2) (dCval (.vw [4]) [] (dn 4) (dCval (.vw [6]) [] (dn 6) dCnil)))))) (dc (.int 1)))
def co_back_1 (C_Cloth C_BadColours C_Mismatch : Addr) : E := (dLc .tmp [6, 6] [6] (dRg1 (dAcons (.vw [0]) [] (dFld [C_Cloth] "ends" (dn 0)) dAnil)) (gdN 6) bYes .tmp (ce_back_1 C_Cloth C_BadColours C_Mismatch))
def ce_back_2 (C_Cloth C_BadColours C_Mismatch : Addr) : E := (dIx .tmp [] (dc (.str "012345")) (dn 7))
def co_back_2 (C_Cloth C_BadColours C_Mismatch : Addr) : E := (dLc .tmp [7, 7] [7] (dIt (dOne revA (dn 5))) (gdN 7) bYes .tmp (ce_back_2 C_Cloth C_BadColours C_Mismatch))
def fb_back_1 (C_Cloth C_BadColours C_Mismatch : Addr) : S := (sSeq (sAsg .tmp (co_back_1 C_Cloth C_BadColours C_Mismatch) (gdN 5))
  (sDrop (dMeth 3 [.tmp] (dpN 3) mAppend (dAcons .tmp [] (dOp joinD (dAconsC D.isStr .tmp [7, 7] (dc (.str "")) (dAcons .tmp [] (co_back_2 C_Cloth C_BadColours C_Mismatch) dAnil))) dAnil))))
def fo_back_1 (C_Cloth C_BadColours C_Mismatch : Addr) : S := (sFor .tmp [4, 6, 6, 5, 7, 7, 3] (dRg1 (dAcons (.vw [0]) [] (dFld [C_Cloth] "picks" (dn 0)) dAnil)) (gdN 4) (fb_back_1 C_Cloth C_BadColours C_Mismatch))
def b_back (C_Cloth C_BadColours C_Mismatch : Addr) : S := (sSeq (sDrop (dCall (D_check_colours C_Cloth C_BadColours C_Mismatch) [.val (.vw [0]), .val (.vw [1]), .val (.vw [2])] (dCval (.vw [0]) [] (dn 0) (dCval (.vw [1]) [] (dn 1) (dCval (.vw [2]) [] (dn 2) dCnil)))))
  (sSeq (sAsg .tmp (dDis (.lst true) [] dAnil) (gdN 3))
  (sSeq (fo_back_1 C_Cloth C_BadColours C_Mismatch)
  (sRt .tmp [] (dOp (u1 tupD) (dAcons (.vw [3]) [] (dn 3) dAnil))))))
def D_back (C_Cloth C_BadColours C_Mismatch : Addr) : FD := fnD 8 [] (b_back C_Cloth C_BadColours C_Mismatch)
theorem sc_hidden : FnScope ["cloth", "warp", "weft", "crossings", "i", "j"] ["cloth", "warp", "weft"] (defScope s_hidden) := ⟨rfl, rfl, rfl, by decide +kernel, rfl, by decide +kernel, by decide +kernel⟩
def ce_hidden_1 (C_Cloth C_BadColours C_Mismatch : Addr) : E := (dDis .tup [(.vw [4]), (.vw [5])] (dAcons (.vw [4]) [] (dn 4) (dAcons (.vw [5]) [] (dn 5) dAnil)))
def co_hidden_1 (C_Cloth C_BadColours C_Mismatch : Addr) : E := (dLc .tmp [5, 5] [5] (dRg1 (dAcons (.vw [0]) [] (dFld [C_Cloth] "ends" (dn 0)) dAnil)) (gdN 5) (dCmp (.vw [1]) [] eqD (dIx (.vw [1]) [] (dn 1) (dn 5)) (dIx (.vw [2]) [] (dn 2) (dn 4))) .tmp (ce_hidden_1 C_Cloth C_BadColours C_Mismatch))
def fb_hidden_1 (C_Cloth C_BadColours C_Mismatch : Addr) : S := (sDrop (dMeth 3 [.tmp] (dpN 3) mExtend (dAcons .tmp [] (co_hidden_1 C_Cloth C_BadColours C_Mismatch) dAnil)))
def fo_hidden_1 (C_Cloth C_BadColours C_Mismatch : Addr) : S := (sFor .tmp [4, 5, 5, 3] (dRg1 (dAcons (.vw [0]) [] (dFld [C_Cloth] "picks" (dn 0)) dAnil)) (gdN 4) (fb_hidden_1 C_Cloth C_BadColours C_Mismatch))
def b_hidden (C_Cloth C_BadColours C_Mismatch : Addr) : S := (sSeq (sDrop (dCall (D_check_colours C_Cloth C_BadColours C_Mismatch) [.val (.vw [0]), .val (.vw [1]), .val (.vw [2])] (dCval (.vw [0]) [] (dn 0) (dCval (.vw [1]) [] (dn 1) (dCval (.vw [2]) [] (dn 2) dCnil)))))
  (sSeq (sAsg .tmp (dDis (.lst true) [] dAnil) (gdN 3))
  (sSeq (fo_hidden_1 C_Cloth C_BadColours C_Mismatch)
  (sRt .tmp [] (dOp (u1 tupD) (dAcons (.vw [3]) [] (dn 3) dAnil))))))
def D_hidden (C_Cloth C_BadColours C_Mismatch : Addr) : FD := fnD 6 [] (b_hidden C_Cloth C_BadColours C_Mismatch)
theorem sc__law_start : FnScope ["script", "seed", "cell"] ["script"] (defScope s__law_start) := ⟨rfl, rfl, rfl, by decide +kernel, rfl, by decide +kernel, by decide +kernel⟩
def fb__law_start_1 : S := (sAsg .tmp (dTwo .tmp [] oMod (dOp (u1 intD) (dAcons .tmp [] (dTwo .tmp [] oAdd (dTwo .tmp [] oAdd (dTwo (.vw [1]) [] oMul (dn 1) (dc (.int 31))) (dTwo .tmp [] oMod (dOp (u1 intD) (dAcons (.vw [2]) [] (dn 2) dAnil)) (dc (.int 1000003)))) (dc (.int 5))) dAnil)) (dc (.int 2147483647))) (gdN 1))
def fo__law_start_1 : S := (sFor .tmp [2, 1] (dIt (dS01 (.vw [0]) [] (dn 0) (dc (.int 63)))) (gdN 2) fb__law_start_1)
def b__law_start : S := (sSeq (sAsg .tmp (dc (.int 7)) (gdN 1))
  (sSeq fo__law_start_1
  (sRt .tmp [] (dDis (.lst true) [.tmp, .tmp, .tmp, (.vw [1]), .tmp] (dAcons .tmp [] (dOp (u1 listD) (dAcons .tmp [] (dS01 (.vw [0]) [] (dn 0) (dc (.int 63))) dAnil)) (dAcons .tmp [] (dc (.int 0)) (dAcons .tmp [] (dc (.int 1)) (dAcons (.vw [1]) [] (dn 1) (dAcons .tmp [] (dc (.int 0)) dAnil)))))))))
def D__law_start : FD := fnN 3 [] (b__law_start )
theorem sc__law_draw : FnScope ["state", "span", "base", "mixed", "digit", "cell"] ["state", "span"] (defScope s__law_draw) := ⟨rfl, rfl, rfl, by decide +kernel, rfl, by decide +kernel, by decide +kernel⟩
def if__law_draw_1 : S := (sIf (dCmp (.vw [0]) [] gtD (dIx (.vw [0]) [] (dn 0) (dc (.int 2))) (dc (.int 1)))
  (sSeq (sAsg .tmp (dTwo .tmp [] oMod (dOp (u1 intD) (dAcons (.vw [0]) [] (dIx (.vw [0]) [] (dn 0) (dc (.int 2))) dAnil)) (dn 1)) (gdN 4))
  (sSeq (sSetIx 0 .tmp (dTwo (.vw [0]) [] oDiv (dIx (.vw [0]) [] (dn 0) (dc (.int 2))) (dn 1)) (dpN 0) (dc (.int 2)))
  (sRt (.vw [4]) [0] (dn 4))))
  sNx)
def if__law_draw_2 : S := (sIf (dCmp (.vw [5]) [] geD (dn 5) (dTwo .tmp [] oPow (dc (.int 10)) (dc (.int 18))))
  (sSeq (sSetIx 0 .tmp (dTwo (.vw [5]) [] oDiv (dn 5) (dn 1)) (dpN 0) (dc (.int 2)))
  (sRt .tmp [0] (dTwo .tmp [] oMod (dOp (u1 intD) (dAcons (.vw [5]) [] (dn 5) dAnil)) (dn 1))))
  sNx)
def if__law_draw_3 : S := (sIf (dCmp (.vw [0]) [] ltD (dIx (.vw [0]) [] (dn 0) (dc (.int 1))) (dOp (u1 lenD) (dAcons (.vw [0]) [] (dIx (.vw [0]) [] (dn 0) (dc (.int 0))) dAnil)))
  (sSeq (sAsg .tmp (dOp (u1 absD) (dAcons .tmp [] (dOp (u1 intD) (dAcons (.vw [0]) [] (dIx (.vw [0]) [] (dIx (.vw [0]) [] (dn 0) (dc (.int 0))) (dIx (.vw [0]) [] (dn 0) (dc (.int 1)))) dAnil)) dAnil)) (gdN 5))
  (sSeq (sSetIx 0 .tmp (dTwo (.vw [0]) [] oAdd (dIx (.vw [0]) [] (dn 0) (dc (.int 1))) (dc (.int 1))) (dpN 0) (dc (.int 1)))
  (sSeq if__law_draw_2
  (sAsg (.vw [5]) (dn 5) (gdN 2)))))
  sNx)
def b__law_draw : S := (sSeq (sSetIx 0 .tmp (dTwo (.vw [0]) [] oAdd (dIx (.vw [0]) [] (dn 0) (dc (.int 4))) (dc (.int 1))) (dpN 0) (dc (.int 4)))
  (sSeq if__law_draw_1
  (sSeq (sAsg (.vw [0]) (dIx (.vw [0]) [] (dn 0) (dc (.int 3))) (gdN 2))
  (sSeq if__law_draw_3
  (sSeq (sAsg .tmp (dTwo .tmp [] oMod (dOp (u1 intD) (dAcons .tmp [] (dTwo .tmp [] oAdd (dTwo .tmp [] oAdd (dTwo (.vw [2]) [] oMul (dn 2) (dc (.int 48271))) (dTwo (.vw [0]) [] oMul (dIx (.vw [0]) [] (dn 0) (dc (.int 4))) (dc (.int 69621)))) (dc (.int 11))) dAnil)) (dc (.int 2147483647))) (gdN 3))
  (sSeq (sAsg .tmp (dTwo .tmp [] oMod (dOp (u1 intD) (dAcons .tmp [] (dTwo .tmp [] oAdd (dTwo (.vw [3]) [] oMul (dn 3) (dn 3)) (dTwo (.vw [0]) [] oMul (dIx (.vw [0]) [] (dn 0) (dc (.int 4))) (dc (.int 7919)))) dAnil)) (dc (.int 2147483629))) (gdN 3))
  (sSeq (sAsg .tmp (dTwo .tmp [] oMod (dOp (u1 intD) (dAcons .tmp [] (dTwo .tmp [] oAdd (dTwo (.vw [3]) [] oMul (dn 3) (dn 3)) (dc (.int 101))) dAnil)) (dc (.int 2147483587))) (gdN 3))
  (sRt .tmp [0] (dTwo .tmp [] oMod (dOp (u1 intD) (dAcons (.vw [3]) [] (dn 3) dAnil)) (dn 1))))))))))
def D__law_draw : FD := fnN 6 [0] (b__law_draw )
theorem sc__law_side : FnScope ["state", "most", "kind"] ["state", "most"] (defScope s__law_side) := ⟨rfl, rfl, rfl, by decide +kernel, rfl, by decide +kernel, by decide +kernel⟩
def if__law_side_1 : S := (sIf (dCmp (.vw [2]) [] eqD (dn 2) (dc (.int 0)))
  (sRt .tmp [0] (dTwo .tmp [0] oAdd (dc (.int 1)) (dCall D__law_draw [.io 0, .val (.vw [1])] (dCslot 0 (dCval (.vw [1]) [] (dn 1) dCnil)))))
  sNx)
def if__law_side_2 : S := (sIf (dCmp (.vw [2]) [] ltD (dn 2) (dc (.int 4)))
  (sRt .tmp [0] (dTwo .tmp [0] oAdd (dc (.int 1)) (dCall D__law_draw [.io 0, .val .tmp] (dCslot 0 (dCval .tmp [] (dOp (i2D minI) (dAcons (.vw [1]) [] (dn 1) (dAcons .tmp [] (dc (.int 12)) dAnil))) dCnil)))))
  sNx)
def b__law_side : S := (sSeq (sAsg .tmp (dCall D__law_draw [.io 0, .val .tmp] (dCslot 0 (dCval .tmp [] (dc (.int 16)) dCnil))) (gdN 2))
  (sSeq if__law_side_1
  (sSeq if__law_side_2
  (sRt .tmp [0] (dTwo .tmp [0] oAdd (dc (.int 1)) (dCall D__law_draw [.io 0, .val .tmp] (dCslot 0 (dCval .tmp [] (dOp (i2D minI) (dAcons (.vw [1]) [] (dn 1) (dAcons .tmp [] (dc (.int 5)) dAnil))) dCnil))))))))
def D__law_side : FD := fnN 3 [0] (b__law_side )
theorem sc__law_same : FnScope ["actual", "due", "k"] ["actual", "due"] (defScope s__law_same) := ⟨rfl, rfl, rfl, by decide +kernel, rfl, by decide +kernel, by decide +kernel⟩
def if__law_same_1 (C_Cloth : Addr) (rec : FD) : S := (sIf (dCmp (.vw [1]) [] (isNoneD false) (dn 1) (dc .non))
  (sRt .tmp [] (dTwo (.vw [0]) [] (oB (isNoneD false)) (dn 0) (dc .non)))
  sNx)
def if__law_same_2 (C_Cloth : Addr) (rec : FD) : S := (sIf (dTt (dOp (isiD (isaT C_Cloth) [C_Cloth]) (dAcons (.vw [1]) [] (dn 1) (dAcons .tmp [] (dc (.ty "bool")) dAnil))))
  (sRt .tmp [] (dVand (dOp (isiD (isaT C_Cloth) [C_Cloth]) (dAcons (.vw [0]) [] (dn 0) (dAcons .tmp [] (dc (.ty "bool")) dAnil))) (dTmp .tmp (dTwo (.vw [0]) [] (oB eqD) (dn 0) (dn 1)))))
  sNx)
def if__law_same_3 (C_Cloth : Addr) (rec : FD) : S := (sIf (dTt (dOp (isiD (isaT C_Cloth) [C_Cloth]) (dAcons (.vw [1]) [] (dn 1) (dAcons .tmp [] (dc (.ty "int")) dAnil))))
  (sRt .tmp [] (dVand (dOp (isiD (isaT C_Cloth) [C_Cloth]) (dAcons (.vw [0]) [] (dn 0) (dAcons .tmp [] (dc (.ty "int")) dAnil))) (dVand (dVnot (dOp (isiD (isaT C_Cloth) [C_Cloth]) (dAcons (.vw [0]) [] (dn 0) (dAcons .tmp [] (dc (.ty "bool")) dAnil)))) (dTmp .tmp (dTwo (.vw [0]) [] (oB eqD) (dn 0) (dn 1))))))
  sNx)
def if__law_same_4 (C_Cloth : Addr) (rec : FD) : S := (sIf (dTt (dOp (isiD (isaT C_Cloth) [C_Cloth]) (dAcons (.vw [1]) [] (dn 1) (dAcons .tmp [] (dc (.ty "str")) dAnil))))
  (sRt .tmp [] (dVand (dOp (isiD (isaT C_Cloth) [C_Cloth]) (dAcons (.vw [0]) [] (dn 0) (dAcons .tmp [] (dc (.ty "str")) dAnil))) (dTmp .tmp (dTwo (.vw [0]) [] (oB eqD) (dn 0) (dn 1)))))
  sNx)
def if__law_same_5 (C_Cloth : Addr) (rec : FD) : S := (sIf (dTor (dTnot (dTt (dOp (isiD (isaT C_Cloth) [C_Cloth]) (dAcons (.vw [0]) [] (dn 0) (dAcons .tmp [] (dc (.ty "tuple")) dAnil))))) (dCmp .tmp [] neD (dOp (u1 lenD) (dAcons (.vw [0]) [] (dn 0) dAnil)) (dOp (u1 lenD) (dAcons (.vw [1]) [] (dn 1) dAnil))))
  (sRt .tmp [] (dc (.bl false)))
  sNx)
def if__law_same_6 (C_Cloth : Addr) (rec : FD) : S := (sIf (dTnot (dTt (dCall rec [.val (.vw [0]), .val (.vw [1])] (dCval (.vw [0]) [] (dIx (.vw [0]) [] (dn 0) (dn 2)) (dCval (.vw [1]) [] (dIx (.vw [1]) [] (dn 1) (dn 2)) dCnil)))))
  (sRt .tmp [] (dc (.bl false)))
  sNx)
def fb__law_same_1 (C_Cloth : Addr) (rec : FD) : S := (if__law_same_6 C_Cloth rec)
def fo__law_same_1 (C_Cloth : Addr) (rec : FD) : S := (sFor .tmp [2] (dRg1 (dAcons .tmp [] (dOp (u1 lenD) (dAcons (.vw [1]) [] (dn 1) dAnil)) dAnil)) (gdN 2) (fb__law_same_1 C_Cloth rec))
def b__law_same (C_Cloth : Addr) (rec : FD) : S := (sSeq (if__law_same_1 C_Cloth rec)
  (sSeq (if__law_same_2 C_Cloth rec)
  (sSeq (if__law_same_3 C_Cloth rec)
  (sSeq (if__law_same_4 C_Cloth rec)
  (sSeq (if__law_same_5 C_Cloth rec)
  (sSeq (fo__law_same_1 C_Cloth rec)
  (sRt .tmp [] (dc (.bl true)))))))))
def D__law_same (C_Cloth : Addr) : Nat → FD
  | 0 => fun _ => .no
  | k + 1 => fnN 3 [] (b__law_same C_Cloth (D__law_same C_Cloth k))
theorem sc__law_free_rows : FnScope ["state", "h", "w", "told", "i", "j"] ["state", "h", "w"] (defScope s__law_free_rows) := ⟨rfl, rfl, rfl, by decide +kernel, rfl, by decide +kernel, by decide +kernel⟩
def ce__law_free_rows_1 : E := (dIx .tmp [0] (dc (.str "01")) (dCall D__law_draw [.io 0, .val .tmp] (dCslot 0 (dCval .tmp [] (dc (.int 2)) dCnil))))
def co__law_free_rows_1 : E := (dLc .tmp [5, 0, 5] [5] (dRg1 (dAcons (.vw [2]) [] (dn 2) dAnil)) (gdN 5) bYes .tmp ce__law_free_rows_1)
def fb__law_free_rows_1 : S := (sDrop (dMeth 3 [.tmp] (dpN 3) mAppend (dAcons .tmp [] (dOp joinD (dAconsC D.isStr .tmp [5, 0, 5] (dc (.str "")) (dAcons .tmp [] co__law_free_rows_1 dAnil))) dAnil)))
def fo__law_free_rows_1 : S := (sFor .tmp [4, 5, 0, 5, 3] (dRg1 (dAcons (.vw [1]) [] (dn 1) dAnil)) (gdN 4) fb__law_free_rows_1)
def b__law_free_rows : S := (sSeq (sAsg .tmp (dDis (.lst true) [] dAnil) (gdN 3))
  (sSeq fo__law_free_rows_1
  (sRt (.vw [3]) [0] (dn 3))))
def D__law_free_rows : FD := fnN 6 [0] (b__law_free_rows )
theorem sc__law_exchange : FnScope ["cloth_rows", "i", "j", "told", "sign"] ["cloth_rows", "i", "j"] (defScope s__law_exchange) := ⟨rfl, rfl, rfl, by decide +kernel, rfl, by decide +kernel, by decide +kernel⟩
def b__law_exchange : S := (sSeq (sAsg .tmp (dOp (u1 listD) (dAcons (.vw [0]) [] (dn 0) dAnil)) (gdN 3))
  (sSeq (sAsg .tmp (dIx .tmp [] (dc (.str "10")) (dOp (u1 intD) (dAcons .tmp [] (dTwo (.vw [3]) [] (oB eqD) (dIx (.vw [3]) [] (dIx (.vw [3]) [] (dn 3) (dn 1)) (dn 2)) (dc (.str "1"))) dAnil))) (gdN 4))
  (sSeq (sSetIx 3 .tmp (dTwo .tmp [] oAdd (dTwo .tmp [] oAdd (dS01 (.vw [3]) [] (dIx (.vw [3]) [] (dn 3) (dn 1)) (dn 2)) (dn 4)) (dS10 (.vw [3]) [] (dIx (.vw [3]) [] (dn 3) (dn 1)) (dTwo (.vw [2]) [] oAdd (dn 2) (dc (.int 1))))) (dpN 3) (dn 1))
  (sRt (.vw [3]) [] (dn 3)))))
def D__law_exchange : FD := fnN 5 [] (b__law_exchange )
theorem sc__law_turned : FnScope ["cloth_rows", "told", "row", "sign"] ["cloth_rows"] (defScope s__law_turned) := ⟨rfl, rfl, rfl, by decide +kernel, rfl, by decide +kernel, by decide +kernel⟩
def ce__law_turned_1 : E := (dIx .tmp [] (dc (.str "10")) (dOp (u1 intD) (dAcons .tmp [] (dTwo (.vw [3]) [] (oB eqD) (dn 3) (dc (.str "1"))) dAnil)))
def co__law_turned_1 : E := (dLc .tmp [3, 3] [3] (dIt (dOne revA (dn 2))) (gdN 3) bYes .tmp ce__law_turned_1)
def fb__law_turned_1 : S := (sDrop (dMeth 1 [.tmp] (dpN 1) mAppend (dAcons .tmp [] (dOp joinD (dAconsC D.isStr .tmp [3, 3] (dc (.str "")) (dAcons .tmp [] co__law_turned_1 dAnil))) dAnil)))
def fo__law_turned_1 : S := (sFor (.vw [0]) [2, 3, 3, 1] (dIt (dn 0)) (gdN 2) fb__law_turned_1)
def b__law_turned : S := (sSeq (sAsg .tmp (dDis (.lst true) [] dAnil) (gdN 1))
  (sSeq fo__law_turned_1
  (sRt (.vw [1]) [] (dn 1))))
def D__law_turned : FD := fnN 4 [] (b__law_turned )
theorem sc__law_rows_told : FnScope ["told", "row"] ["told"] (defScope s__law_rows_told) := ⟨rfl, rfl, rfl, by decide +kernel, rfl, by decide +kernel, by decide +kernel⟩
def if__law_rows_told_1 (C_Cloth : Addr) : S := (sIf (dTor (dTnot (dTt (dOp (isiD (isaT C_Cloth) [C_Cloth]) (dAcons (.vw [0]) [] (dn 0) (dAcons .tmp [] (dc (.ref C_Cloth)) dAnil))))) (dTnot (dTt (dOp (isiD (isaT C_Cloth) [C_Cloth]) (dAcons (.vw [0]) [] (dFld [C_Cloth] "rows" (dn 0)) (dAcons .tmp [] (dc (.ty "tuple")) dAnil))))))
  (sRt .tmp [] (dc .non))
  sNx)
def if__law_rows_told_2 (C_Cloth : Addr) : S := (sIf (dTnot (dTt (dOp (isiD (isaT C_Cloth) [C_Cloth]) (dAcons (.vw [1]) [] (dn 1) (dAcons .tmp [] (dc (.ty "str")) dAnil)))))
  (sRt .tmp [] (dc .non))
  sNx)
def fb__law_rows_told_1 (C_Cloth : Addr) : S := (if__law_rows_told_2 C_Cloth)
def fo__law_rows_told_1 (C_Cloth : Addr) : S := (sFor (.vw [0]) [1] (dIt (dFld [C_Cloth] "rows" (dn 0))) (gdN 1) (fb__law_rows_told_1 C_Cloth))
def b__law_rows_told (C_Cloth : Addr) : S := (sSeq (if__law_rows_told_1 C_Cloth)
  (sSeq (fo__law_rows_told_1 C_Cloth)
  (sRt .tmp [] (dOp (u1 listD) (dAcons (.vw [0]) [] (dFld [C_Cloth] "rows" (dn 0)) dAnil)))))
def D__law_rows_told (C_Cloth : Addr) : FD := fnN 2 [] (b__law_rows_told C_Cloth)
theorem sc__law_picture : FnScope ["cloth_rows", "warp", "weft", "told", "i", "row", "j"] ["cloth_rows", "warp", "weft"] (defScope s__law_picture) := ⟨rfl, rfl, rfl, by decide +kernel, rfl, by decide +kernel, by decide +kernel⟩
def fb__law_picture_1 : S := (sAsg .tmp (dTwo (.vw [5]) [] oAdd (dn 5) (dIx .tmp [] (dc (.str "012345")) (dIx .tmp [] (dDis (.lst true) [(.vw [2]), (.vw [1])] (dAcons (.vw [2]) [] (dIx (.vw [2]) [] (dn 2) (dn 4)) (dAcons (.vw [1]) [] (dIx (.vw [1]) [] (dn 1) (dn 6)) dAnil))) (dOp (u1 intD) (dAcons .tmp [] (dTwo (.vw [0]) [] (oB eqD) (dIx (.vw [0]) [] (dIx (.vw [0]) [] (dn 0) (dn 4)) (dn 6)) (dc (.str "1"))) dAnil))))) (gdN 5))
def fo__law_picture_1 : S := (sFor .tmp [6, 5] (dRg1 (dAcons .tmp [] (dOp (u1 lenD) (dAcons (.vw [1]) [] (dn 1) dAnil)) dAnil)) (gdN 6) fb__law_picture_1)
def fb__law_picture_2 : S := (sSeq (sAsg .tmp (dc (.str "")) (gdN 5))
  (sSeq fo__law_picture_1
  (sDrop (dMeth 3 [(.vw [5])] (dpN 3) mAppend (dAcons (.vw [5]) [] (dn 5) dAnil)))))
def fo__law_picture_2 : S := (sFor .tmp [4, 5, 6, 5, 3] (dRg1 (dAcons .tmp [] (dOp (u1 lenD) (dAcons (.vw [0]) [] (dn 0) dAnil)) dAnil)) (gdN 4) fb__law_picture_2)
def b__law_picture : S := (sSeq (sAsg .tmp (dDis (.lst true) [] dAnil) (gdN 3))
  (sSeq fo__law_picture_2
  (sRt (.vw [3]) [] (dn 3))))
def D__law_picture : FD := fnN 7 [] (b__law_picture )
theorem sc__law_colours : FnScope ["state", "count", "span", "k"] ["state", "count", "span"] (defScope s__law_colours) := ⟨rfl, rfl, rfl, by decide +kernel, rfl, by decide +kernel, by decide +kernel⟩
def ce__law_colours_1 : E := (dCall D__law_draw [.io 0, .val (.vw [2])] (dCslot 0 (dCval (.vw [2]) [] (dn 2) dCnil)))
def co__law_colours_1 : E := (dLc .tmp [3, 0, 3] [3] (dRg1 (dAcons (.vw [1]) [] (dn 1) dAnil)) (gdN 3) bYes .tmp ce__law_colours_1)
def b__law_colours : S := (sRt .tmp [0] co__law_colours_1)
def D__law_colours : FD := fnN 4 [0] (b__law_colours )
theorem sc__law_due : FnScope ["cloth_rows", "warp", "weft", "front", "behind", "covered", "i", "j"] ["cloth_rows", "warp", "weft"] (defScope s__law_due) := ⟨rfl, rfl, rfl, by decide +kernel, rfl, by decide +kernel, by decide +kernel⟩
def ce__law_due_1 : E := (dDis .tup [(.vw [6]), (.vw [7])] (dAcons (.vw [6]) [] (dn 6) (dAcons (.vw [7]) [] (dn 7) dAnil)))
def co__law_due_1 : E := (dLc .tmp [7, 7] [7] (dRg1 (dAcons .tmp [] (dOp (u1 lenD) (dAcons (.vw [1]) [] (dn 1) dAnil)) dAnil)) (gdN 7) (dCmp (.vw [3]) [] eqD (dIx (.vw [3]) [] (dIx (.vw [3]) [] (dn 3) (dn 6)) (dn 7)) (dIx (.vw [4]) [] (dIx (.vw [4]) [] (dn 4) (dn 6)) (dTwo .tmp [] oSub (dTwo .tmp [] oSub (dOp (u1 lenD) (dAcons (.vw [1]) [] (dn 1) dAnil)) (dc (.int 1))) (dn 7)))) .tmp ce__law_due_1)
def fb__law_due_1 : S := (sDrop (dMeth 5 [.tmp] (dpN 5) mExtend (dAcons .tmp [] co__law_due_1 dAnil)))
def fo__law_due_1 : S := (sFor .tmp [6, 7, 7, 5] (dRg1 (dAcons .tmp [] (dOp (u1 lenD) (dAcons (.vw [2]) [] (dn 2) dAnil)) dAnil)) (gdN 6) fb__law_due_1)
def b__law_due : S := (sSeq (sAsg .tmp (dCall D__law_picture [.val (.vw [0]), .val (.vw [1]), .val (.vw [2])] (dCval (.vw [0]) [] (dn 0) (dCval (.vw [1]) [] (dn 1) (dCval (.vw [2]) [] (dn 2) dCnil)))) (gdN 3))
  (sSeq (sAsg .tmp (dCall D__law_picture [.val .tmp, .val .tmp, .val (.vw [2])] (dCval .tmp [] (dCall D__law_turned [.val (.vw [0])] (dCval (.vw [0]) [] (dn 0) dCnil)) (dCval .tmp [] (dOne revA (dn 1)) (dCval (.vw [2]) [] (dn 2) dCnil)))) (gdN 4))
  (sSeq (sAsg .tmp (dDis (.lst true) [] dAnil) (gdN 5))
  (sSeq fo__law_due_1
  (sRt .tmp [] (dDis (.lst true) [.tmp, .tmp, .tmp] (dAcons .tmp [] (dOp (u1 tupD) (dAcons (.vw [3]) [] (dn 3) dAnil)) (dAcons .tmp [] (dOp (u1 tupD) (dAcons (.vw [4]) [] (dn 4) dAnil)) (dAcons .tmp [] (dOp (u1 tupD) (dAcons (.vw [5]) [] (dn 5) dAnil)) dAnil)))))))))
def D__law_due : FD := fnN 8 [] (b__law_due )
theorem sc__law_asked_face : FnScope ["cloth", "warp", "weft", "word", "told", "e"] ["cloth", "warp", "weft"] (defScope s__law_asked_face) := ⟨rfl, rfl, rfl, by decide +kernel, rfl, by decide +kernel, by decide +kernel⟩
def tb__law_asked_face_1 (C_Cloth C_MillError C_BadColours C_TooLarge C_Mismatch : Addr) : S := (sAsg .tmp (dCall (D_face C_Cloth C_BadColours C_Mismatch) [.val (.vw [0]), .val (.vw [1]), .val (.vw [2])] (dCval (.vw [0]) [] (dn 0) (dCval (.vw [1]) [] (dn 1) (dCval (.vw [2]) [] (dn 2) dCnil)))) (gdN 4))
def hn__law_asked_face_1 (C_Cloth C_MillError C_BadColours C_TooLarge C_Mismatch : Addr) : HM := (fun xC xa => (sAsg .tmp (dc (.str "?")) (gdN 3)))
theorem hi_hn__law_asked_face_1 (C_Cloth C_MillError C_BadColours C_TooLarge C_Mismatch : Addr) (C a : Addr) (s : List D) : unO [] ((hn__law_asked_face_1 C_Cloth C_MillError C_BadColours C_TooLarge C_Mismatch) C a s) = unO [] ((hn__law_asked_face_1 C_Cloth C_MillError C_BadColours C_TooLarge C_Mismatch) C 0 s) := by first | rfl | simp [hn__law_asked_face_1]
def hn__law_asked_face_2 (C_Cloth C_MillError C_BadColours C_TooLarge C_Mismatch : Addr) : HM := (fun xC xa => (sAsg .tmp (dIx .tmp [] (dDis (.lst true) [.tmp, .tmp] (dAcons .tmp [] (dc (.str "?")) (dAcons .tmp [] (dc (.str "Mismatch")) dAnil))) (dOp (u1 intD) (dAcons .tmp [] (dVand (dOp (isxD (isxT C_BadColours C_TooLarge C_Mismatch) xC xa) (dAcons (.vw [5]) [] (dn 5) (dAcons .tmp [] (dc (.ty "ValueError")) dAnil))) (dTmp .tmp (dVnot (dOp (isxD (isxT C_BadColours C_TooLarge C_Mismatch) xC xa) (dAcons (.vw [5]) [] (dn 5) (dAcons .tmp [] (dc (.ref C_TooLarge)) dAnil)))))) dAnil))) (gdN 3)))
theorem hi_hn__law_asked_face_2 (C_Cloth C_MillError C_BadColours C_TooLarge C_Mismatch : Addr) (C a : Addr) (s : List D) : unO [5] ((hn__law_asked_face_2 C_Cloth C_MillError C_BadColours C_TooLarge C_Mismatch) C a (s.set 5 (.v (.ref a)))) = unO [5] ((hn__law_asked_face_2 C_Cloth C_MillError C_BadColours C_TooLarge C_Mismatch) C 0 (s.set 5 (.v (.ref 0)))) := by
  by_cases h : 5 < s.length
  · simp [hn__law_asked_face_2, unO, isx_self, h, wipeD, set_mid, sizeLine_eq]
    all_goals (try (rcases isxB (isxT C_BadColours C_TooLarge C_Mismatch) C (D.v (.ty "ValueError")) with _ | _ | _ <;> try simp [h, set_mid, set_mid2, set_mid3, isx_self, sizeLine_eq, ix_two0, ix_two1]))
    all_goals (try (rcases isxB (isxT C_BadColours C_TooLarge C_Mismatch) C (D.v (.ref C_TooLarge)) with _ | _ | _ <;> try simp [h, set_mid, set_mid2, set_mid3, isx_self, sizeLine_eq, ix_two0, ix_two1]))
  · simp [hn__law_asked_face_2, unO, isx_self, set_past h, get_past h, wipeD, sizeLine_eq]
def hn__law_asked_face_3 (C_Cloth C_MillError C_BadColours C_TooLarge C_Mismatch : Addr) : HM := (fun xC xa => (sAsg .tmp (dIx .tmp [] (dDis (.lst true) [.tmp, .tmp] (dAcons .tmp [] (dc (.str "?")) (dAcons .tmp [] (dc (.str "BadColours")) dAnil))) (dOp (u1 intD) (dAcons .tmp [] (dVand (dOp (isxD (isxT C_BadColours C_TooLarge C_Mismatch) xC xa) (dAcons (.vw [5]) [] (dn 5) (dAcons .tmp [] (dc (.ty "ValueError")) dAnil))) (dTmp .tmp (dVnot (dOp (isxD (isxT C_BadColours C_TooLarge C_Mismatch) xC xa) (dAcons (.vw [5]) [] (dn 5) (dAcons .tmp [] (dDis .tup [.tmp, .tmp] (dAcons .tmp [] (dc (.ref C_Mismatch)) (dAcons .tmp [] (dc (.ref C_TooLarge)) dAnil))) dAnil)))))) dAnil))) (gdN 3)))
theorem hi_hn__law_asked_face_3 (C_Cloth C_MillError C_BadColours C_TooLarge C_Mismatch : Addr) (C a : Addr) (s : List D) : unO [5] ((hn__law_asked_face_3 C_Cloth C_MillError C_BadColours C_TooLarge C_Mismatch) C a (s.set 5 (.v (.ref a)))) = unO [5] ((hn__law_asked_face_3 C_Cloth C_MillError C_BadColours C_TooLarge C_Mismatch) C 0 (s.set 5 (.v (.ref 0)))) := by
  by_cases h : 5 < s.length
  · simp [hn__law_asked_face_3, unO, isx_self, h, wipeD, set_mid, sizeLine_eq]
    all_goals (try (rcases isxB (isxT C_BadColours C_TooLarge C_Mismatch) C (D.v (.ty "ValueError")) with _ | _ | _ <;> try simp [h, set_mid, set_mid2, set_mid3, isx_self, sizeLine_eq, ix_two0, ix_two1]))
    all_goals (try (rcases isxB (isxT C_BadColours C_TooLarge C_Mismatch) C (D.nd .tup [.v (.ref C_Mismatch), .v (.ref C_TooLarge)]) with _ | _ | _ <;> try simp [h, set_mid, set_mid2, set_mid3, isx_self, sizeLine_eq, ix_two0, ix_two1]))
  · simp [hn__law_asked_face_3, unO, isx_self, set_past h, get_past h, wipeD, sizeLine_eq]
def tr__law_asked_face_1 (C_Cloth C_MillError C_BadColours C_TooLarge C_Mismatch : Addr) : S := (sTry (exT C_MillError C_BadColours C_Mismatch) [(C_BadColours, some 5, (hn__law_asked_face_3 C_Cloth C_MillError C_BadColours C_TooLarge C_Mismatch)), (C_Mismatch, some 5, (hn__law_asked_face_2 C_Cloth C_MillError C_BadColours C_TooLarge C_Mismatch)), (C_MillError, none, (hn__law_asked_face_1 C_Cloth C_MillError C_BadColours C_TooLarge C_Mismatch))] (tb__law_asked_face_1 C_Cloth C_MillError C_BadColours C_TooLarge C_Mismatch))
def b__law_asked_face (C_Cloth C_MillError C_BadColours C_TooLarge C_Mismatch : Addr) : S := (sSeq (sAsg .tmp (dc (.str "")) (gdN 3))
  (sSeq (sAsg .tmp (dc .non) (gdN 4))
  (sSeq (tr__law_asked_face_1 C_Cloth C_MillError C_BadColours C_TooLarge C_Mismatch)
  (sRt .tmp [] (dDis (.lst true) [(.vw [3]), (.vw [4])] (dAcons (.vw [3]) [] (dn 3) (dAcons (.vw [4]) [] (dn 4) dAnil)))))))
def D__law_asked_face (C_Cloth C_MillError C_BadColours C_TooLarge C_Mismatch : Addr) : FD := fnN 6 [] (b__law_asked_face C_Cloth C_MillError C_BadColours C_TooLarge C_Mismatch)
theorem sc__law_asked_back : FnScope ["cloth", "warp", "weft", "word", "told", "e"] ["cloth", "warp", "weft"] (defScope s__law_asked_back) := ⟨rfl, rfl, rfl, by decide +kernel, rfl, by decide +kernel, by decide +kernel⟩
def tb__law_asked_back_1 (C_Cloth C_MillError C_BadColours C_TooLarge C_Mismatch : Addr) : S := (sAsg .tmp (dCall (D_back C_Cloth C_BadColours C_Mismatch) [.val (.vw [0]), .val (.vw [1]), .val (.vw [2])] (dCval (.vw [0]) [] (dn 0) (dCval (.vw [1]) [] (dn 1) (dCval (.vw [2]) [] (dn 2) dCnil)))) (gdN 4))
def hn__law_asked_back_1 (C_Cloth C_MillError C_BadColours C_TooLarge C_Mismatch : Addr) : HM := (fun xC xa => (sAsg .tmp (dc (.str "?")) (gdN 3)))
theorem hi_hn__law_asked_back_1 (C_Cloth C_MillError C_BadColours C_TooLarge C_Mismatch : Addr) (C a : Addr) (s : List D) : unO [] ((hn__law_asked_back_1 C_Cloth C_MillError C_BadColours C_TooLarge C_Mismatch) C a s) = unO [] ((hn__law_asked_back_1 C_Cloth C_MillError C_BadColours C_TooLarge C_Mismatch) C 0 s) := by first | rfl | simp [hn__law_asked_back_1]
def hn__law_asked_back_2 (C_Cloth C_MillError C_BadColours C_TooLarge C_Mismatch : Addr) : HM := (fun xC xa => (sAsg .tmp (dIx .tmp [] (dDis (.lst true) [.tmp, .tmp] (dAcons .tmp [] (dc (.str "?")) (dAcons .tmp [] (dc (.str "Mismatch")) dAnil))) (dOp (u1 intD) (dAcons .tmp [] (dVand (dOp (isxD (isxT C_BadColours C_TooLarge C_Mismatch) xC xa) (dAcons (.vw [5]) [] (dn 5) (dAcons .tmp [] (dc (.ty "ValueError")) dAnil))) (dTmp .tmp (dVnot (dOp (isxD (isxT C_BadColours C_TooLarge C_Mismatch) xC xa) (dAcons (.vw [5]) [] (dn 5) (dAcons .tmp [] (dc (.ref C_TooLarge)) dAnil)))))) dAnil))) (gdN 3)))
theorem hi_hn__law_asked_back_2 (C_Cloth C_MillError C_BadColours C_TooLarge C_Mismatch : Addr) (C a : Addr) (s : List D) : unO [5] ((hn__law_asked_back_2 C_Cloth C_MillError C_BadColours C_TooLarge C_Mismatch) C a (s.set 5 (.v (.ref a)))) = unO [5] ((hn__law_asked_back_2 C_Cloth C_MillError C_BadColours C_TooLarge C_Mismatch) C 0 (s.set 5 (.v (.ref 0)))) := by
  by_cases h : 5 < s.length
  · simp [hn__law_asked_back_2, unO, isx_self, h, wipeD, set_mid, sizeLine_eq]
    all_goals (try (rcases isxB (isxT C_BadColours C_TooLarge C_Mismatch) C (D.v (.ty "ValueError")) with _ | _ | _ <;> try simp [h, set_mid, set_mid2, set_mid3, isx_self, sizeLine_eq, ix_two0, ix_two1]))
    all_goals (try (rcases isxB (isxT C_BadColours C_TooLarge C_Mismatch) C (D.v (.ref C_TooLarge)) with _ | _ | _ <;> try simp [h, set_mid, set_mid2, set_mid3, isx_self, sizeLine_eq, ix_two0, ix_two1]))
  · simp [hn__law_asked_back_2, unO, isx_self, set_past h, get_past h, wipeD, sizeLine_eq]
def hn__law_asked_back_3 (C_Cloth C_MillError C_BadColours C_TooLarge C_Mismatch : Addr) : HM := (fun xC xa => (sAsg .tmp (dIx .tmp [] (dDis (.lst true) [.tmp, .tmp] (dAcons .tmp [] (dc (.str "?")) (dAcons .tmp [] (dc (.str "BadColours")) dAnil))) (dOp (u1 intD) (dAcons .tmp [] (dVand (dOp (isxD (isxT C_BadColours C_TooLarge C_Mismatch) xC xa) (dAcons (.vw [5]) [] (dn 5) (dAcons .tmp [] (dc (.ty "ValueError")) dAnil))) (dTmp .tmp (dVnot (dOp (isxD (isxT C_BadColours C_TooLarge C_Mismatch) xC xa) (dAcons (.vw [5]) [] (dn 5) (dAcons .tmp [] (dDis .tup [.tmp, .tmp] (dAcons .tmp [] (dc (.ref C_Mismatch)) (dAcons .tmp [] (dc (.ref C_TooLarge)) dAnil))) dAnil)))))) dAnil))) (gdN 3)))
theorem hi_hn__law_asked_back_3 (C_Cloth C_MillError C_BadColours C_TooLarge C_Mismatch : Addr) (C a : Addr) (s : List D) : unO [5] ((hn__law_asked_back_3 C_Cloth C_MillError C_BadColours C_TooLarge C_Mismatch) C a (s.set 5 (.v (.ref a)))) = unO [5] ((hn__law_asked_back_3 C_Cloth C_MillError C_BadColours C_TooLarge C_Mismatch) C 0 (s.set 5 (.v (.ref 0)))) := by
  by_cases h : 5 < s.length
  · simp [hn__law_asked_back_3, unO, isx_self, h, wipeD, set_mid, sizeLine_eq]
    all_goals (try (rcases isxB (isxT C_BadColours C_TooLarge C_Mismatch) C (D.v (.ty "ValueError")) with _ | _ | _ <;> try simp [h, set_mid, set_mid2, set_mid3, isx_self, sizeLine_eq, ix_two0, ix_two1]))
    all_goals (try (rcases isxB (isxT C_BadColours C_TooLarge C_Mismatch) C (D.nd .tup [.v (.ref C_Mismatch), .v (.ref C_TooLarge)]) with _ | _ | _ <;> try simp [h, set_mid, set_mid2, set_mid3, isx_self, sizeLine_eq, ix_two0, ix_two1]))
  · simp [hn__law_asked_back_3, unO, isx_self, set_past h, get_past h, wipeD, sizeLine_eq]
def tr__law_asked_back_1 (C_Cloth C_MillError C_BadColours C_TooLarge C_Mismatch : Addr) : S := (sTry (exT C_MillError C_BadColours C_Mismatch) [(C_BadColours, some 5, (hn__law_asked_back_3 C_Cloth C_MillError C_BadColours C_TooLarge C_Mismatch)), (C_Mismatch, some 5, (hn__law_asked_back_2 C_Cloth C_MillError C_BadColours C_TooLarge C_Mismatch)), (C_MillError, none, (hn__law_asked_back_1 C_Cloth C_MillError C_BadColours C_TooLarge C_Mismatch))] (tb__law_asked_back_1 C_Cloth C_MillError C_BadColours C_TooLarge C_Mismatch))
def b__law_asked_back (C_Cloth C_MillError C_BadColours C_TooLarge C_Mismatch : Addr) : S := (sSeq (sAsg .tmp (dc (.str "")) (gdN 3))
  (sSeq (sAsg .tmp (dc .non) (gdN 4))
  (sSeq (tr__law_asked_back_1 C_Cloth C_MillError C_BadColours C_TooLarge C_Mismatch)
  (sRt .tmp [] (dDis (.lst true) [(.vw [3]), (.vw [4])] (dAcons (.vw [3]) [] (dn 3) (dAcons (.vw [4]) [] (dn 4) dAnil)))))))
def D__law_asked_back (C_Cloth C_MillError C_BadColours C_TooLarge C_Mismatch : Addr) : FD := fnN 6 [] (b__law_asked_back C_Cloth C_MillError C_BadColours C_TooLarge C_Mismatch)
theorem sc__law_asked_hidden : FnScope ["cloth", "warp", "weft", "word", "told", "e"] ["cloth", "warp", "weft"] (defScope s__law_asked_hidden) := ⟨rfl, rfl, rfl, by decide +kernel, rfl, by decide +kernel, by decide +kernel⟩
def tb__law_asked_hidden_1 (C_Cloth C_MillError C_BadColours C_TooLarge C_Mismatch : Addr) : S := (sAsg .tmp (dCall (D_hidden C_Cloth C_BadColours C_Mismatch) [.val (.vw [0]), .val (.vw [1]), .val (.vw [2])] (dCval (.vw [0]) [] (dn 0) (dCval (.vw [1]) [] (dn 1) (dCval (.vw [2]) [] (dn 2) dCnil)))) (gdN 4))
def hn__law_asked_hidden_1 (C_Cloth C_MillError C_BadColours C_TooLarge C_Mismatch : Addr) : HM := (fun xC xa => (sAsg .tmp (dc (.str "?")) (gdN 3)))
theorem hi_hn__law_asked_hidden_1 (C_Cloth C_MillError C_BadColours C_TooLarge C_Mismatch : Addr) (C a : Addr) (s : List D) : unO [] ((hn__law_asked_hidden_1 C_Cloth C_MillError C_BadColours C_TooLarge C_Mismatch) C a s) = unO [] ((hn__law_asked_hidden_1 C_Cloth C_MillError C_BadColours C_TooLarge C_Mismatch) C 0 s) := by first | rfl | simp [hn__law_asked_hidden_1]
def hn__law_asked_hidden_2 (C_Cloth C_MillError C_BadColours C_TooLarge C_Mismatch : Addr) : HM := (fun xC xa => (sAsg .tmp (dIx .tmp [] (dDis (.lst true) [.tmp, .tmp] (dAcons .tmp [] (dc (.str "?")) (dAcons .tmp [] (dc (.str "Mismatch")) dAnil))) (dOp (u1 intD) (dAcons .tmp [] (dVand (dOp (isxD (isxT C_BadColours C_TooLarge C_Mismatch) xC xa) (dAcons (.vw [5]) [] (dn 5) (dAcons .tmp [] (dc (.ty "ValueError")) dAnil))) (dTmp .tmp (dVnot (dOp (isxD (isxT C_BadColours C_TooLarge C_Mismatch) xC xa) (dAcons (.vw [5]) [] (dn 5) (dAcons .tmp [] (dc (.ref C_TooLarge)) dAnil)))))) dAnil))) (gdN 3)))
theorem hi_hn__law_asked_hidden_2 (C_Cloth C_MillError C_BadColours C_TooLarge C_Mismatch : Addr) (C a : Addr) (s : List D) : unO [5] ((hn__law_asked_hidden_2 C_Cloth C_MillError C_BadColours C_TooLarge C_Mismatch) C a (s.set 5 (.v (.ref a)))) = unO [5] ((hn__law_asked_hidden_2 C_Cloth C_MillError C_BadColours C_TooLarge C_Mismatch) C 0 (s.set 5 (.v (.ref 0)))) := by
  by_cases h : 5 < s.length
  · simp [hn__law_asked_hidden_2, unO, isx_self, h, wipeD, set_mid, sizeLine_eq]
    all_goals (try (rcases isxB (isxT C_BadColours C_TooLarge C_Mismatch) C (D.v (.ty "ValueError")) with _ | _ | _ <;> try simp [h, set_mid, set_mid2, set_mid3, isx_self, sizeLine_eq, ix_two0, ix_two1]))
    all_goals (try (rcases isxB (isxT C_BadColours C_TooLarge C_Mismatch) C (D.v (.ref C_TooLarge)) with _ | _ | _ <;> try simp [h, set_mid, set_mid2, set_mid3, isx_self, sizeLine_eq, ix_two0, ix_two1]))
  · simp [hn__law_asked_hidden_2, unO, isx_self, set_past h, get_past h, wipeD, sizeLine_eq]
def hn__law_asked_hidden_3 (C_Cloth C_MillError C_BadColours C_TooLarge C_Mismatch : Addr) : HM := (fun xC xa => (sAsg .tmp (dIx .tmp [] (dDis (.lst true) [.tmp, .tmp] (dAcons .tmp [] (dc (.str "?")) (dAcons .tmp [] (dc (.str "BadColours")) dAnil))) (dOp (u1 intD) (dAcons .tmp [] (dVand (dOp (isxD (isxT C_BadColours C_TooLarge C_Mismatch) xC xa) (dAcons (.vw [5]) [] (dn 5) (dAcons .tmp [] (dc (.ty "ValueError")) dAnil))) (dTmp .tmp (dVnot (dOp (isxD (isxT C_BadColours C_TooLarge C_Mismatch) xC xa) (dAcons (.vw [5]) [] (dn 5) (dAcons .tmp [] (dDis .tup [.tmp, .tmp] (dAcons .tmp [] (dc (.ref C_Mismatch)) (dAcons .tmp [] (dc (.ref C_TooLarge)) dAnil))) dAnil)))))) dAnil))) (gdN 3)))
theorem hi_hn__law_asked_hidden_3 (C_Cloth C_MillError C_BadColours C_TooLarge C_Mismatch : Addr) (C a : Addr) (s : List D) : unO [5] ((hn__law_asked_hidden_3 C_Cloth C_MillError C_BadColours C_TooLarge C_Mismatch) C a (s.set 5 (.v (.ref a)))) = unO [5] ((hn__law_asked_hidden_3 C_Cloth C_MillError C_BadColours C_TooLarge C_Mismatch) C 0 (s.set 5 (.v (.ref 0)))) := by
  by_cases h : 5 < s.length
  · simp [hn__law_asked_hidden_3, unO, isx_self, h, wipeD, set_mid, sizeLine_eq]
    all_goals (try (rcases isxB (isxT C_BadColours C_TooLarge C_Mismatch) C (D.v (.ty "ValueError")) with _ | _ | _ <;> try simp [h, set_mid, set_mid2, set_mid3, isx_self, sizeLine_eq, ix_two0, ix_two1]))
    all_goals (try (rcases isxB (isxT C_BadColours C_TooLarge C_Mismatch) C (D.nd .tup [.v (.ref C_Mismatch), .v (.ref C_TooLarge)]) with _ | _ | _ <;> try simp [h, set_mid, set_mid2, set_mid3, isx_self, sizeLine_eq, ix_two0, ix_two1]))
  · simp [hn__law_asked_hidden_3, unO, isx_self, set_past h, get_past h, wipeD, sizeLine_eq]
def tr__law_asked_hidden_1 (C_Cloth C_MillError C_BadColours C_TooLarge C_Mismatch : Addr) : S := (sTry (exT C_MillError C_BadColours C_Mismatch) [(C_BadColours, some 5, (hn__law_asked_hidden_3 C_Cloth C_MillError C_BadColours C_TooLarge C_Mismatch)), (C_Mismatch, some 5, (hn__law_asked_hidden_2 C_Cloth C_MillError C_BadColours C_TooLarge C_Mismatch)), (C_MillError, none, (hn__law_asked_hidden_1 C_Cloth C_MillError C_BadColours C_TooLarge C_Mismatch))] (tb__law_asked_hidden_1 C_Cloth C_MillError C_BadColours C_TooLarge C_Mismatch))
def b__law_asked_hidden (C_Cloth C_MillError C_BadColours C_TooLarge C_Mismatch : Addr) : S := (sSeq (sAsg .tmp (dc (.str "")) (gdN 3))
  (sSeq (sAsg .tmp (dc .non) (gdN 4))
  (sSeq (tr__law_asked_hidden_1 C_Cloth C_MillError C_BadColours C_TooLarge C_Mismatch)
  (sRt .tmp [] (dDis (.lst true) [(.vw [3]), (.vw [4])] (dAcons (.vw [3]) [] (dn 3) (dAcons (.vw [4]) [] (dn 4) dAnil)))))))
def D__law_asked_hidden (C_Cloth C_MillError C_BadColours C_TooLarge C_Mismatch : Addr) : FD := fnN 6 [] (b__law_asked_hidden C_Cloth C_MillError C_BadColours C_TooLarge C_Mismatch)
theorem sc__law_handed : FnScope ["warp", "weft", "turn"] ["warp", "weft", "turn"] (defScope s__law_handed) := ⟨rfl, rfl, rfl, by decide +kernel, rfl, by decide +kernel, by decide +kernel⟩
def b__law_handed : S := (sRt .tmp [] (dDis (.lst true) [.tmp, .tmp] (dAcons .tmp [] (dIx .tmp [] (dDis (.lst true) [.tmp, .tmp] (dAcons .tmp [] (dOp (u1 listD) (dAcons (.vw [0]) [] (dn 0) dAnil)) (dAcons .tmp [] (dOp (u1 tupD) (dAcons (.vw [0]) [] (dn 0) dAnil)) dAnil))) (dTwo .tmp [] oMod (dOp (u1 intD) (dAcons (.vw [2]) [] (dn 2) dAnil)) (dc (.int 2)))) (dAcons .tmp [] (dIx .tmp [] (dDis (.lst true) [.tmp, .tmp] (dAcons .tmp [] (dOp (u1 listD) (dAcons (.vw [1]) [] (dn 1) dAnil)) (dAcons .tmp [] (dOp (u1 tupD) (dAcons (.vw [1]) [] (dn 1) dAnil)) dAnil))) (dTwo .tmp [] oMod (dOp (u1 intD) (dAcons .tmp [] (dTwo (.vw [2]) [] oDiv (dn 2) (dc (.int 2))) dAnil)) (dc (.int 2)))) dAnil))))
def D__law_handed : FD := fnN 3 [] (b__law_handed )
theorem sc__law_answers : FnScope ["cloth", "warp", "weft", "turn", "told", "step", "which"] ["cloth", "warp", "weft", "turn"] (defScope s__law_answers) := ⟨rfl, rfl, rfl, by decide +kernel, rfl, by decide +kernel, by decide +kernel⟩
def if__law_answers_1 (C_Cloth C_MillError C_BadColours C_TooLarge C_Mismatch : Addr) : S := (sIf (dCmp (.vw [6]) [] eqD (dn 6) (dc (.int 0)))
  (sSetIx 4 .tmp (dCall (D__law_asked_face C_Cloth C_MillError C_BadColours C_TooLarge C_Mismatch) [.val (.vw [0]), .val (.vw [1]), .val (.vw [2])] (dCval (.vw [0]) [] (dn 0) (dCval (.vw [1]) [] (dn 1) (dCval (.vw [2]) [] (dn 2) dCnil)))) (dpN 4) (dc (.int 0)))
  sNx)
def if__law_answers_2 (C_Cloth C_MillError C_BadColours C_TooLarge C_Mismatch : Addr) : S := (sIf (dCmp (.vw [6]) [] eqD (dn 6) (dc (.int 1)))
  (sSetIx 4 .tmp (dCall (D__law_asked_back C_Cloth C_MillError C_BadColours C_TooLarge C_Mismatch) [.val (.vw [0]), .val (.vw [1]), .val (.vw [2])] (dCval (.vw [0]) [] (dn 0) (dCval (.vw [1]) [] (dn 1) (dCval (.vw [2]) [] (dn 2) dCnil)))) (dpN 4) (dc (.int 1)))
  sNx)
def if__law_answers_3 (C_Cloth C_MillError C_BadColours C_TooLarge C_Mismatch : Addr) : S := (sIf (dCmp (.vw [6]) [] eqD (dn 6) (dc (.int 2)))
  (sSetIx 4 .tmp (dCall (D__law_asked_hidden C_Cloth C_MillError C_BadColours C_TooLarge C_Mismatch) [.val (.vw [0]), .val (.vw [1]), .val (.vw [2])] (dCval (.vw [0]) [] (dn 0) (dCval (.vw [1]) [] (dn 1) (dCval (.vw [2]) [] (dn 2) dCnil)))) (dpN 4) (dc (.int 2)))
  sNx)
def fb__law_answers_1 (C_Cloth C_MillError C_BadColours C_TooLarge C_Mismatch : Addr) : S := (sSeq (sAsg .tmp (dTwo .tmp [] oMod (dOp (u1 intD) (dAcons .tmp [] (dTwo (.vw [5]) [] oAdd (dn 5) (dn 3)) dAnil)) (dc (.int 3))) (gdN 6))
  (sSeq (if__law_answers_1 C_Cloth C_MillError C_BadColours C_TooLarge C_Mismatch)
  (sSeq (if__law_answers_2 C_Cloth C_MillError C_BadColours C_TooLarge C_Mismatch)
  (if__law_answers_3 C_Cloth C_MillError C_BadColours C_TooLarge C_Mismatch))))
def fo__law_answers_1 (C_Cloth C_MillError C_BadColours C_TooLarge C_Mismatch : Addr) : S := (sFor .tmp [5, 6, 4, 4, 4] (dRg1 (dAcons .tmp [] (dc (.int 3)) dAnil)) (gdN 5) (fb__law_answers_1 C_Cloth C_MillError C_BadColours C_TooLarge C_Mismatch))
def b__law_answers (C_Cloth C_MillError C_BadColours C_TooLarge C_Mismatch : Addr) : S := (sSeq (sAsg .tmp (dDis (.lst true) [.tmp, .tmp, .tmp] (dAcons .tmp [] (dc .non) (dAcons .tmp [] (dc .non) (dAcons .tmp [] (dc .non) dAnil)))) (gdN 4))
  (sSeq (fo__law_answers_1 C_Cloth C_MillError C_BadColours C_TooLarge C_Mismatch)
  (sRt (.vw [4]) [] (dn 4))))
def D__law_answers (C_Cloth C_MillError C_BadColours C_TooLarge C_Mismatch : Addr) : FD := fnN 7 [] (b__law_answers C_Cloth C_MillError C_BadColours C_TooLarge C_Mismatch)
theorem sc__law_answered : FnScope ["cloth", "cloth_rows", "warp", "weft", "turn", "due", "given", "answers", "k"] ["cloth", "cloth_rows", "warp", "weft", "turn"] (defScope s__law_answered) := ⟨rfl, rfl, rfl, by decide +kernel, rfl, by decide +kernel, by decide +kernel⟩
def if__law_answered_1 (C_Cloth C_MillError C_BadColours C_TooLarge C_Mismatch : Addr) : S := (sIf (dTor (dCmp (.vw [7]) [] neD (dIx (.vw [7]) [] (dIx (.vw [7]) [] (dn 7) (dn 8)) (dc (.int 0))) (dc (.str ""))) (dTnot (dTt (dCall (D__law_same C_Cloth 3) [.val (.vw [7]), .val (.vw [5])] (dCval (.vw [7]) [] (dIx (.vw [7]) [] (dIx (.vw [7]) [] (dn 7) (dn 8)) (dc (.int 1))) (dCval (.vw [5]) [] (dIx (.vw [5]) [] (dn 5) (dn 8)) dCnil))))))
  (sRt .tmp [] (dc (.bl false)))
  sNx)
def fb__law_answered_1 (C_Cloth C_MillError C_BadColours C_TooLarge C_Mismatch : Addr) : S := (if__law_answered_1 C_Cloth C_MillError C_BadColours C_TooLarge C_Mismatch)
def fo__law_answered_1 (C_Cloth C_MillError C_BadColours C_TooLarge C_Mismatch : Addr) : S := (sFor .tmp [8] (dRg1 (dAcons .tmp [] (dc (.int 3)) dAnil)) (gdN 8) (fb__law_answered_1 C_Cloth C_MillError C_BadColours C_TooLarge C_Mismatch))
def if__law_answered_2 (C_Cloth C_MillError C_BadColours C_TooLarge C_Mismatch : Addr) : S := (sIf (dTor (dCmp .tmp [] neD (dOp (u1 listD) (dAcons (.vw [6]) [] (dIx (.vw [6]) [] (dn 6) (dc (.int 0))) dAnil)) (dOp (u1 listD) (dAcons (.vw [2]) [] (dn 2) dAnil))) (dCmp .tmp [] neD (dOp (u1 listD) (dAcons (.vw [6]) [] (dIx (.vw [6]) [] (dn 6) (dc (.int 1))) dAnil)) (dOp (u1 listD) (dAcons (.vw [3]) [] (dn 3) dAnil))))
  (sRt .tmp [] (dc (.bl false)))
  sNx)
def b__law_answered (C_Cloth C_MillError C_BadColours C_TooLarge C_Mismatch : Addr) : S := (sSeq (sAsg .tmp (dCall D__law_due [.val (.vw [1]), .val (.vw [2]), .val (.vw [3])] (dCval (.vw [1]) [] (dn 1) (dCval (.vw [2]) [] (dn 2) (dCval (.vw [3]) [] (dn 3) dCnil)))) (gdN 5))
  (sSeq (sAsg .tmp (dCall D__law_handed [.val (.vw [2]), .val (.vw [3]), .val (.vw [4])] (dCval (.vw [2]) [] (dn 2) (dCval (.vw [3]) [] (dn 3) (dCval (.vw [4]) [] (dn 4) dCnil)))) (gdN 6))
  (sSeq (sAsg .tmp (dCall (D__law_answers C_Cloth C_MillError C_BadColours C_TooLarge C_Mismatch) [.val (.vw [0]), .val (.vw [6]), .val (.vw [6]), .val (.vw [4])] (dCval (.vw [0]) [] (dn 0) (dCval (.vw [6]) [] (dIx (.vw [6]) [] (dn 6) (dc (.int 0))) (dCval (.vw [6]) [] (dIx (.vw [6]) [] (dn 6) (dc (.int 1))) (dCval (.vw [4]) [] (dn 4) dCnil))))) (gdN 7))
  (sSeq (fo__law_answered_1 C_Cloth C_MillError C_BadColours C_TooLarge C_Mismatch)
  (sSeq (if__law_answered_2 C_Cloth C_MillError C_BadColours C_TooLarge C_Mismatch)
  (sRt .tmp [] (dTwo .tmp [] (oB eqD) (dCall (D__law_rows_told C_Cloth) [.val (.vw [0])] (dCval (.vw [0]) [] (dn 0) dCnil)) (dOp (u1 listD) (dAcons (.vw [1]) [] (dn 1) dAnil)))))))))
def D__law_answered (C_Cloth C_MillError C_BadColours C_TooLarge C_Mismatch : Addr) : FD := fnN 9 [] (b__law_answered C_Cloth C_MillError C_BadColours C_TooLarge C_Mismatch)
theorem sc__law_shows : FnScope ["cloth_rows", "warp", "weft", "turn", "cloth", "behind", "seen", "colour"] ["cloth_rows", "warp", "weft", "turn"] (defScope s__law_shows) := ⟨rfl, rfl, rfl, by decide +kernel, rfl, by decide +kernel, by decide +kernel⟩
def if__law_shows_1 (C_Cloth C_MillError C_BadColours C_TooLarge C_Mismatch : Addr) : S := (sIf (dTnot (dTt (dCall (D__law_answered C_Cloth C_MillError C_BadColours C_TooLarge C_Mismatch) [.val (.vw [4]), .val (.vw [0]), .val (.vw [1]), .val (.vw [2]), .val (.vw [3])] (dCval (.vw [4]) [] (dn 4) (dCval (.vw [0]) [] (dn 0) (dCval (.vw [1]) [] (dn 1) (dCval (.vw [2]) [] (dn 2) (dCval (.vw [3]) [] (dn 3) dCnil))))))))
  (sRt .tmp [] (dc (.bl false)))
  sNx)
def ce__law_shows_1 (C_Cloth C_MillError C_BadColours C_TooLarge C_Mismatch : Addr) : E := (dTwo .tmp [] oSub (dc (.int 5)) (dn 7))
def co__law_shows_1 (C_Cloth C_MillError C_BadColours C_TooLarge C_Mismatch : Addr) : E := (dLc (.vw [1]) [7, 7] [7] (dIt (dn 1)) (gdN 7) bYes .tmp (ce__law_shows_1 C_Cloth C_MillError C_BadColours C_TooLarge C_Mismatch))
def if__law_shows_2 (C_Cloth C_MillError C_BadColours C_TooLarge C_Mismatch : Addr) : S := (sIf (dTnot (dTt (dCall (D__law_answered C_Cloth C_MillError C_BadColours C_TooLarge C_Mismatch) [.val (.vw [4]), .val (.vw [0]), .val .tmp, .val (.vw [2]), .val .tmp] (dCval (.vw [4]) [7, 7] (dn 4) (dCval (.vw [0]) [7, 7] (dn 0) (dCval .tmp [] (co__law_shows_1 C_Cloth C_MillError C_BadColours C_TooLarge C_Mismatch) (dCval (.vw [2]) [] (dn 2) (dCval .tmp [] (dTwo (.vw [3]) [] oAdd (dn 3) (dc (.int 1))) dCnil))))))))
  (sRt .tmp [] (dc (.bl false)))
  sNx)
def if__law_shows_3 (C_Cloth C_MillError C_BadColours C_TooLarge C_Mismatch : Addr) : S := (sIf (dCmp .tmp [] leD (dTwo .tmp [] oMul (dOp (u1 lenD) (dAcons (.vw [1]) [] (dn 1) dAnil)) (dOp (u1 lenD) (dAcons (.vw [2]) [] (dn 2) dAnil))) (dc (.int 600)))
  (if__law_shows_2 C_Cloth C_MillError C_BadColours C_TooLarge C_Mismatch)
  sNx)
def b__law_shows (C_Cloth C_MillError C_BadColours C_TooLarge C_Mismatch : Addr) : S := (sSeq (sAsg .tmp (dMake true C_Cloth (D_Cloth___init__ C_Cloth) [.val .tmp] (dCval .tmp [] (dOp (u1 listD) (dAcons (.vw [0]) [] (dn 0) dAnil)) dCnil)) (gdN 4))
  (sSeq (if__law_shows_1 C_Cloth C_MillError C_BadColours C_TooLarge C_Mismatch)
  (sSeq (if__law_shows_3 C_Cloth C_MillError C_BadColours C_TooLarge C_Mismatch)
  (sSeq (sAsg .tmp (dCall D__law_picture [.val .tmp, .val .tmp, .val (.vw [2])] (dCval .tmp [] (dCall D__law_turned [.val (.vw [0])] (dCval (.vw [0]) [] (dn 0) dCnil)) (dCval .tmp [] (dOne revA (dn 1)) (dCval (.vw [2]) [] (dn 2) dCnil)))) (gdN 5))
  (sSeq (sAsg .tmp (dCall (D__law_asked_face C_Cloth C_MillError C_BadColours C_TooLarge C_Mismatch) [.val .tmp, .val .tmp, .val .tmp] (dCval .tmp [] (dCall (D_turned_over C_Cloth) [.val (.vw [4])] (dCval (.vw [4]) [] (dn 4) dCnil)) (dCval .tmp [] (dOp (u1 tupD) (dAcons .tmp [] (dOne revA (dn 1)) dAnil)) (dCval .tmp [] (dOp (u1 listD) (dAcons (.vw [2]) [] (dn 2) dAnil)) dCnil)))) (gdN 6))
  (sRt .tmp [] (dVand (dTwo (.vw [6]) [] (oB eqD) (dIx (.vw [6]) [] (dn 6) (dc (.int 0))) (dc (.str ""))) (dTmp .tmp (dCall (D__law_same C_Cloth 3) [.val (.vw [6]), .val .tmp] (dCval (.vw [6]) [] (dIx (.vw [6]) [] (dn 6) (dc (.int 1))) (dCval .tmp [] (dOp (u1 tupD) (dAcons (.vw [5]) [] (dn 5) dAnil)) dCnil)))))))))))
def D__law_shows (C_Cloth C_MillError C_BadColours C_TooLarge C_Mismatch : Addr) : FD := fnN 8 [] (b__law_shows C_Cloth C_MillError C_BadColours C_TooLarge C_Mismatch)
theorem sc__law_spoilt : FnScope ["state", "colours", "kind", "told", "at", "more"] ["state", "colours"] (defScope s__law_spoilt) := ⟨rfl, rfl, rfl, by decide +kernel, rfl, by decide +kernel, by decide +kernel⟩
def if__law_spoilt_1 : S := (sIf (dCmp (.vw [2]) [] eqD (dn 2) (dc (.int 0)))
  (sSeq (sAsg .tmp (dCall D__law_draw [.io 0, .val .tmp] (dCslot 0 (dCval .tmp [] (dOp (u1 lenD) (dAcons (.vw [3]) [] (dn 3) dAnil)) dCnil))) (gdN 4))
  (sSeq (sAsg .tmp (dCall D__law_draw [.io 0, .val .tmp] (dCslot 0 (dCval .tmp [] (dTwo .tmp [] oPow (dc (.int 10)) (dc (.int 9))) dCnil))) (gdN 5))
  (sSetIx 3 .tmp (dIx .tmp [0] (dDis (.lst true) [.tmp, .tmp, .tmp, .tmp, .tmp, .tmp, .tmp] (dAcons .tmp [] (dc (.int 6)) (dAcons .tmp [] (dOne oNeg (dc (.int 1))) (dAcons .tmp [] (dOne oNeg (dc (.int 6))) (dAcons .tmp [] (dTwo .tmp [] oAdd (dc (.int 6)) (dn 5)) (dAcons .tmp [] (dTwo .tmp [] oSub (dOne oNeg (dc (.int 1))) (dn 5)) (dAcons .tmp [] (dTwo .tmp [] oPow (dc (.int 10)) (dc (.int 59))) (dAcons .tmp [] (dTwo .tmp [] oSub (dc (.int 0)) (dTwo .tmp [] oPow (dc (.int 10)) (dc (.int 59)))) dAnil)))))))) (dCall D__law_draw [.io 0, .val .tmp] (dCslot 0 (dCval .tmp [] (dc (.int 7)) dCnil)))) (dpN 3) (dn 4))))
  sNx)
def if__law_spoilt_2 : S := (sIf (dCmp (.vw [2]) [] eqD (dn 2) (dc (.int 1)))
  (sAsg .tmp (dDis (.lst true) [] dAnil) (gdN 3))
  sNx)
def if__law_spoilt_3 : S := (sIf (dCmp (.vw [2]) [] eqD (dn 2) (dc (.int 2)))
  (sAsg .tmp (dS01 .tmp [0] (dTwo (.vw [3]) [] oMul (dn 3) (dc (.int 120))) (dTwo .tmp [0] oAdd (dc (.int 61)) (dCall D__law_draw [.io 0, .val .tmp] (dCslot 0 (dCval .tmp [] (dc (.int 60)) dCnil))))) (gdN 3))
  sNx)
def if__law_spoilt_4 : S := (sIf (dCmp (.vw [2]) [] eqD (dn 2) (dc (.int 3)))
  (sAsg .tmp (dS01 .tmp [] (dTwo (.vw [3]) [] oMul (dn 3) (dc (.int 60))) (dc (.int 60))) (gdN 3))
  sNx)
def if__law_spoilt_5 : S := (sIf (dCmp (.vw [2]) [] eqD (dn 2) (dc (.int 4)))
  (sDrop (dMeth 3 [.tmp] (dpN 3) mAppend (dAcons .tmp [] (dCall D__law_draw [.io 0, .val .tmp] (dCslot 0 (dCval .tmp [] (dc (.int 6)) dCnil))) dAnil)))
  sNx)
def if__law_spoilt_6 : S := (sIf (dCmp (.vw [2]) [] eqD (dn 2) (dc (.int 5)))
  (sAsg .tmp (dS10 (.vw [3]) [] (dn 3) (dc (.int 1))) (gdN 3))
  sNx)
def b__law_spoilt : S := (sSeq (sAsg .tmp (dCall D__law_draw [.io 0, .val .tmp] (dCslot 0 (dCval .tmp [] (dc (.int 8)) dCnil))) (gdN 2))
  (sSeq (sAsg .tmp (dOp (u1 listD) (dAcons (.vw [1]) [] (dn 1) dAnil)) (gdN 3))
  (sSeq if__law_spoilt_1
  (sSeq if__law_spoilt_2
  (sSeq if__law_spoilt_3
  (sSeq if__law_spoilt_4
  (sSeq if__law_spoilt_5
  (sSeq if__law_spoilt_6
  (sRt (.vw [3]) [0] (dn 3))))))))))
def D__law_spoilt : FD := fnN 6 [0] (b__law_spoilt )
theorem sc__law_word_due : FnScope ["h", "w", "warp", "weft", "one", "colour"] ["h", "w", "warp", "weft"] (defScope s__law_word_due) := ⟨rfl, rfl, rfl, by decide +kernel, rfl, by decide +kernel, by decide +kernel⟩
def ce__law_word_due_1 : E := (dc (.int 1))
def co__law_word_due_1 : E := (dLc (.vw [4]) [5, 5] [5] (dIt (dn 4)) (gdN 5) (dTnot (dChn leD leD (dc (.int 0)) (dn 5) (dc (.int 5)))) .tmp ce__law_word_due_1)
def if__law_word_due_1 : S := (sIf (dTor (dTnot (dChn leD leD (dc (.int 1)) (dOp (u1 lenD) (dAcons (.vw [4]) [] (dn 4) dAnil)) (dc (.int 60)))) (dCmp .tmp [] gtD (dOp (u1 lenD) (dAcons .tmp [] co__law_word_due_1 dAnil)) (dc (.int 0))))
  (sRt .tmp [] (dc (.str "BadColours")))
  sNx)
def fb__law_word_due_1 : S := if__law_word_due_1
def fo__law_word_due_1 : S := (sFor .tmp [4, 5, 5] (dIt (dDis .tup [(.vw [2]), (.vw [3])] (dAcons (.vw [2]) [] (dn 2) (dAcons (.vw [3]) [] (dn 3) dAnil)))) (gdN 4) fb__law_word_due_1)
def if__law_word_due_2 : S := (sIf (dTor (dCmp .tmp [] neD (dOp (u1 lenD) (dAcons (.vw [2]) [] (dn 2) dAnil)) (dn 1)) (dCmp .tmp [] neD (dOp (u1 lenD) (dAcons (.vw [3]) [] (dn 3) dAnil)) (dn 0)))
  (sRt .tmp [] (dc (.str "Mismatch")))
  sNx)
def b__law_word_due : S := (sSeq fo__law_word_due_1
  (sSeq if__law_word_due_2
  (sRt .tmp [] (dc (.str "")))))
def D__law_word_due : FD := fnN 6 [] (b__law_word_due )
theorem sc__law_refused : FnScope ["cloth_rows", "warp", "weft", "right", "turn", "word", "cloth", "given", "answers", "k"] ["cloth_rows", "warp", "weft", "right", "turn"] (defScope s__law_refused) := ⟨rfl, rfl, rfl, by decide +kernel, rfl, by decide +kernel, by decide +kernel⟩
def if__law_refused_1 (C_Cloth C_MillError C_BadColours C_TooLarge C_Mismatch : Addr) : S := (sIf (dCmp (.vw [5]) [] eqD (dn 5) (dc (.str "")))
  (sRt .tmp [] (dCall (D__law_shows C_Cloth C_MillError C_BadColours C_TooLarge C_Mismatch) [.val (.vw [0]), .val (.vw [1]), .val (.vw [2]), .val (.vw [4])] (dCval (.vw [0]) [] (dn 0) (dCval (.vw [1]) [] (dn 1) (dCval (.vw [2]) [] (dn 2) (dCval (.vw [4]) [] (dn 4) dCnil))))))
  sNx)
def if__law_refused_2 (C_Cloth C_MillError C_BadColours C_TooLarge C_Mismatch : Addr) : S := (sIf (dCmp (.vw [8]) [] neD (dIx (.vw [8]) [] (dIx (.vw [8]) [] (dn 8) (dn 9)) (dc (.int 0))) (dn 5))
  (sRt .tmp [] (dc (.bl false)))
  sNx)
def fb__law_refused_1 (C_Cloth C_MillError C_BadColours C_TooLarge C_Mismatch : Addr) : S := (if__law_refused_2 C_Cloth C_MillError C_BadColours C_TooLarge C_Mismatch)
def fo__law_refused_1 (C_Cloth C_MillError C_BadColours C_TooLarge C_Mismatch : Addr) : S := (sFor .tmp [9] (dRg1 (dAcons .tmp [] (dc (.int 3)) dAnil)) (gdN 9) (fb__law_refused_1 C_Cloth C_MillError C_BadColours C_TooLarge C_Mismatch))
def if__law_refused_3 (C_Cloth C_MillError C_BadColours C_TooLarge C_Mismatch : Addr) : S := (sIf (dTor (dCmp .tmp [] neD (dOp (u1 listD) (dAcons (.vw [7]) [] (dIx (.vw [7]) [] (dn 7) (dc (.int 0))) dAnil)) (dn 1)) (dCmp .tmp [] neD (dOp (u1 listD) (dAcons (.vw [7]) [] (dIx (.vw [7]) [] (dn 7) (dc (.int 1))) dAnil)) (dn 2)))
  (sRt .tmp [] (dc (.bl false)))
  sNx)
def b__law_refused (C_Cloth C_MillError C_BadColours C_TooLarge C_Mismatch : Addr) : S := (sSeq (sAsg .tmp (dCall D__law_word_due [.val .tmp, .val .tmp, .val (.vw [1]), .val (.vw [2])] (dCval .tmp [] (dOp (u1 lenD) (dAcons (.vw [0]) [] (dn 0) dAnil)) (dCval .tmp [] (dOp (u1 lenD) (dAcons (.vw [0]) [] (dIx (.vw [0]) [] (dn 0) (dc (.int 0))) dAnil)) (dCval (.vw [1]) [] (dn 1) (dCval (.vw [2]) [] (dn 2) dCnil))))) (gdN 5))
  (sSeq (if__law_refused_1 C_Cloth C_MillError C_BadColours C_TooLarge C_Mismatch)
  (sSeq (sAsg .tmp (dMake true C_Cloth (D_Cloth___init__ C_Cloth) [.val .tmp] (dCval .tmp [] (dOp (u1 tupD) (dAcons (.vw [0]) [] (dn 0) dAnil)) dCnil)) (gdN 6))
  (sSeq (sAsg .tmp (dCall D__law_handed [.val (.vw [1]), .val (.vw [2]), .val (.vw [4])] (dCval (.vw [1]) [] (dn 1) (dCval (.vw [2]) [] (dn 2) (dCval (.vw [4]) [] (dn 4) dCnil)))) (gdN 7))
  (sSeq (sAsg .tmp (dCall (D__law_answers C_Cloth C_MillError C_BadColours C_TooLarge C_Mismatch) [.val (.vw [6]), .val (.vw [7]), .val (.vw [7]), .val (.vw [4])] (dCval (.vw [6]) [] (dn 6) (dCval (.vw [7]) [] (dIx (.vw [7]) [] (dn 7) (dc (.int 0))) (dCval (.vw [7]) [] (dIx (.vw [7]) [] (dn 7) (dc (.int 1))) (dCval (.vw [4]) [] (dn 4) dCnil))))) (gdN 8))
  (sSeq (fo__law_refused_1 C_Cloth C_MillError C_BadColours C_TooLarge C_Mismatch)
  (sSeq (if__law_refused_3 C_Cloth C_MillError C_BadColours C_TooLarge C_Mismatch)
  (sRt .tmp [] (dCall (D__law_answered C_Cloth C_MillError C_BadColours C_TooLarge C_Mismatch) [.val (.vw [6]), .val (.vw [0]), .val (.vw [3]), .val (.vw [3]), .val .tmp] (dCval (.vw [6]) [] (dn 6) (dCval (.vw [0]) [] (dn 0) (dCval (.vw [3]) [] (dIx (.vw [3]) [] (dn 3) (dc (.int 0))) (dCval (.vw [3]) [] (dIx (.vw [3]) [] (dn 3) (dc (.int 1))) (dCval .tmp [] (dTwo (.vw [4]) [] oAdd (dn 4) (dc (.int 1))) dCnil))))))))))))))
def D__law_refused (C_Cloth C_MillError C_BadColours C_TooLarge C_Mismatch : Addr) : FD := fnN 10 [] (b__law_refused C_Cloth C_MillError C_BadColours C_TooLarge C_Mismatch)
theorem sc_law : FnScope ["script", "state", "h", "w", "first_rows", "span", "first_warp", "first_weft", "count", "turn", "cloth_rows", "warp", "weft", "step", "bad_warp", "bad_weft", "right", "i", "j", "kind"] ["script"] (defScope s_law) := ⟨rfl, rfl, rfl, by decide +kernel, rfl, by decide +kernel, by decide +kernel⟩
def if_law_1 (C_Cloth C_MillError C_BadColours C_TooLarge C_Mismatch : Addr) : S := (sIf (dCmp .tmp [] gtD (dTwo (.vw [2]) [] oMul (dn 2) (dn 3)) (dc (.int 150)))
  (sAsg .tmp (dc (.int 1)) (gdN 8))
  sNx)
def if_law_2 (C_Cloth C_MillError C_BadColours C_TooLarge C_Mismatch : Addr) : S := (sIf (dTnot (dTt (dCall (D__law_shows C_Cloth C_MillError C_BadColours C_TooLarge C_Mismatch) [.val (.vw [10]), .val (.vw [11]), .val (.vw [12]), .val .tmp] (dCval (.vw [10]) [] (dn 10) (dCval (.vw [11]) [] (dn 11) (dCval (.vw [12]) [] (dn 12) (dCval .tmp [] (dTwo (.vw [9]) [] oAdd (dn 9) (dn 13)) dCnil)))))))
  (sRt .tmp [] (dc (.bl false)))
  sNx)
def if_law_3 (C_Cloth C_MillError C_BadColours C_TooLarge C_Mismatch : Addr) : S := (sIf (dCmp (.vw [19]) [] eqD (dn 19) (dc (.int 0)))
  (sSetIx 11 .tmp (dCall D__law_draw [.io 1, .val .tmp] (dCslot 1 (dCval .tmp [] (dc (.int 6)) dCnil))) (dpN 11) (dn 18))
  sNx)
def if_law_4 (C_Cloth C_MillError C_BadColours C_TooLarge C_Mismatch : Addr) : S := (sIf (dCmp (.vw [19]) [] eqD (dn 19) (dc (.int 1)))
  (sSetIx 12 .tmp (dCall D__law_draw [.io 1, .val .tmp] (dCslot 1 (dCval .tmp [] (dc (.int 6)) dCnil))) (dpN 12) (dn 17))
  sNx)
def if_law_5 (C_Cloth C_MillError C_BadColours C_TooLarge C_Mismatch : Addr) : S := (sIf (dCmp (.vw [19]) [] gtD (dn 19) (dc (.int 1)))
  (sAsg .tmp (dCall D__law_exchange [.val (.vw [10]), .val (.vw [17]), .val (.vw [18])] (dCval (.vw [10]) [] (dn 10) (dCval (.vw [17]) [] (dn 17) (dCval (.vw [18]) [] (dn 18) dCnil)))) (gdN 10))
  sNx)
def fb_law_1 (C_Cloth C_MillError C_BadColours C_TooLarge C_Mismatch : Addr) : S := (sSeq (if_law_2 C_Cloth C_MillError C_BadColours C_TooLarge C_Mismatch)
  (sSeq (sAsg .tmp (dCall D__law_draw [.io 1, .val (.vw [2])] (dCslot 1 (dCval (.vw [2]) [] (dn 2) dCnil))) (gdN 17))
  (sSeq (sAsg .tmp (dCall D__law_draw [.io 1, .val (.vw [3])] (dCslot 1 (dCval (.vw [3]) [] (dn 3) dCnil))) (gdN 18))
  (sSeq (sAsg .tmp (dCall D__law_draw [.io 1, .val .tmp] (dCslot 1 (dCval .tmp [] (dc (.int 4)) dCnil))) (gdN 19))
  (sSeq (if_law_3 C_Cloth C_MillError C_BadColours C_TooLarge C_Mismatch)
  (sSeq (if_law_4 C_Cloth C_MillError C_BadColours C_TooLarge C_Mismatch)
  (if_law_5 C_Cloth C_MillError C_BadColours C_TooLarge C_Mismatch)))))))
def fo_law_1 (C_Cloth C_MillError C_BadColours C_TooLarge C_Mismatch : Addr) : S := (sFor .tmp [13, 1, 17, 1, 18, 1, 19, 1, 11, 1, 12, 10] (dRg1 (dAcons (.vw [8]) [] (dn 8) dAnil)) (gdN 13) (fb_law_1 C_Cloth C_MillError C_BadColours C_TooLarge C_Mismatch))
def if_law_6 (C_Cloth C_MillError C_BadColours C_TooLarge C_Mismatch : Addr) : S := (sIf (dTnot (dTt (dCall (D__law_shows C_Cloth C_MillError C_BadColours C_TooLarge C_Mismatch) [.val (.vw [10]), .val (.vw [11]), .val (.vw [12]), .val (.vw [9])] (dCval (.vw [10]) [] (dn 10) (dCval (.vw [11]) [] (dn 11) (dCval (.vw [12]) [] (dn 12) (dCval (.vw [9]) [] (dn 9) dCnil)))))))
  (sRt .tmp [] (dc (.bl false)))
  sNx)
def if_law_7 (C_Cloth C_MillError C_BadColours C_TooLarge C_Mismatch : Addr) : S := (sIf (dTnot (dTt (dCall (D__law_refused C_Cloth C_MillError C_BadColours C_TooLarge C_Mismatch) [.val (.vw [10]), .val (.vw [14]), .val (.vw [15]), .val (.vw [16]), .val (.vw [9])] (dCval (.vw [10]) [] (dn 10) (dCval (.vw [14]) [] (dn 14) (dCval (.vw [15]) [] (dn 15) (dCval (.vw [16]) [] (dn 16) (dCval (.vw [9]) [] (dn 9) dCnil))))))))
  (sRt .tmp [] (dc (.bl false)))
  sNx)
def if_law_8 (C_Cloth C_MillError C_BadColours C_TooLarge C_Mismatch : Addr) : S := (sIf (dTnot (dTt (dCall (D__law_refused C_Cloth C_MillError C_BadColours C_TooLarge C_Mismatch) [.val (.vw [10]), .val (.vw [14]), .val (.vw [12]), .val (.vw [16]), .val .tmp] (dCval (.vw [10]) [] (dn 10) (dCval (.vw [14]) [] (dn 14) (dCval (.vw [12]) [] (dn 12) (dCval (.vw [16]) [] (dn 16) (dCval .tmp [] (dTwo (.vw [9]) [] oAdd (dn 9) (dc (.int 1))) dCnil))))))))
  (sRt .tmp [] (dc (.bl false)))
  sNx)
def if_law_9 (C_Cloth C_MillError C_BadColours C_TooLarge C_Mismatch : Addr) : S := (sIf (dTnot (dTt (dCall (D__law_refused C_Cloth C_MillError C_BadColours C_TooLarge C_Mismatch) [.val (.vw [10]), .val (.vw [11]), .val (.vw [15]), .val (.vw [16]), .val .tmp] (dCval (.vw [10]) [] (dn 10) (dCval (.vw [11]) [] (dn 11) (dCval (.vw [15]) [] (dn 15) (dCval (.vw [16]) [] (dn 16) (dCval .tmp [] (dTwo (.vw [9]) [] oAdd (dn 9) (dc (.int 2))) dCnil))))))))
  (sRt .tmp [] (dc (.bl false)))
  sNx)
def b_law (C_Cloth C_MillError C_BadColours C_TooLarge C_Mismatch : Addr) : S := (sSeq (sAsg .tmp (dCall D__law_start [.val (.vw [0])] (dCval (.vw [0]) [] (dn 0) dCnil)) (gdN 1))
  (sSeq (sAsg .tmp (dCall D__law_side [.io 1, .val .tmp] (dCslot 1 (dCval .tmp [] (dc (.int 60)) dCnil))) (gdN 2))
  (sSeq (sAsg .tmp (dCall D__law_side [.io 1, .val .tmp] (dCslot 1 (dCval .tmp [] (dc (.int 60)) dCnil))) (gdN 3))
  (sSeq (sAsg .tmp (dCall D__law_free_rows [.io 1, .val (.vw [2]), .val (.vw [3])] (dCslot 1 (dCval (.vw [2]) [] (dn 2) (dCval (.vw [3]) [] (dn 3) dCnil)))) (gdN 4))
  (sSeq (sAsg .tmp (dTwo .tmp [1] oAdd (dc (.int 1)) (dCall D__law_draw [.io 1, .val .tmp] (dCslot 1 (dCval .tmp [] (dc (.int 6)) dCnil)))) (gdN 5))
  (sSeq (sAsg .tmp (dCall D__law_colours [.io 1, .val (.vw [3]), .val (.vw [5])] (dCslot 1 (dCval (.vw [3]) [] (dn 3) (dCval (.vw [5]) [] (dn 5) dCnil)))) (gdN 6))
  (sSeq (sAsg .tmp (dCall D__law_colours [.io 1, .val (.vw [2]), .val (.vw [5])] (dCslot 1 (dCval (.vw [2]) [] (dn 2) (dCval (.vw [5]) [] (dn 5) dCnil)))) (gdN 7))
  (sSeq (sAsg .tmp (dTwo .tmp [1] oAdd (dc (.int 2)) (dCall D__law_draw [.io 1, .val .tmp] (dCslot 1 (dCval .tmp [] (dc (.int 5)) dCnil)))) (gdN 8))
  (sSeq (if_law_1 C_Cloth C_MillError C_BadColours C_TooLarge C_Mismatch)
  (sSeq (sAsg .tmp (dCall D__law_draw [.io 1, .val .tmp] (dCslot 1 (dCval .tmp [] (dc (.int 12)) dCnil))) (gdN 9))
  (sSeq (sAsg .tmp (dOp (u1 listD) (dAcons (.vw [4]) [] (dn 4) dAnil)) (gdN 10))
  (sSeq (sAsg .tmp (dOp (u1 listD) (dAcons (.vw [6]) [] (dn 6) dAnil)) (gdN 11))
  (sSeq (sAsg .tmp (dOp (u1 listD) (dAcons (.vw [7]) [] (dn 7) dAnil)) (gdN 12))
  (sSeq (fo_law_1 C_Cloth C_MillError C_BadColours C_TooLarge C_Mismatch)
  (sSeq (if_law_6 C_Cloth C_MillError C_BadColours C_TooLarge C_Mismatch)
  (sSeq (sAsg .tmp (dCall D__law_spoilt [.io 1, .val (.vw [11])] (dCslot 1 (dCval (.vw [11]) [] (dn 11) dCnil))) (gdN 14))
  (sSeq (sAsg .tmp (dCall D__law_spoilt [.io 1, .val (.vw [12])] (dCslot 1 (dCval (.vw [12]) [] (dn 12) dCnil))) (gdN 15))
  (sSeq (sAsg .tmp (dDis (.lst true) [.tmp, .tmp] (dAcons .tmp [12] (dfz 11) (dAcons .tmp [] (dfz 12) dAnil))) (gdN 16))
  (sSeq (if_law_7 C_Cloth C_MillError C_BadColours C_TooLarge C_Mismatch)
  (sSeq (if_law_8 C_Cloth C_MillError C_BadColours C_TooLarge C_Mismatch)
  (sSeq (if_law_9 C_Cloth C_MillError C_BadColours C_TooLarge C_Mismatch)
  (sRt .tmp [] (dCall (D__law_shows C_Cloth C_MillError C_BadColours C_TooLarge C_Mismatch) [.val (.vw [4]), .val (.vw [6]), .val (.vw [7]), .val .tmp] (dCval (.vw [4]) [] (dn 4) (dCval (.vw [6]) [] (dn 6) (dCval (.vw [7]) [] (dn 7) (dCval .tmp [] (dTwo (.vw [9]) [] oAdd (dn 9) (dc (.int 3))) dCnil)))))))))))))))))))))))))))
def D_law (C_Cloth C_MillError C_BadColours C_TooLarge C_Mismatch : Addr) : FD := fnN 20 [] (b_law C_Cloth C_MillError C_BadColours C_TooLarge C_Mismatch)
structure Ad where
  f_in_range : Addr
  fd_in_range : FuncData
  f_colours_fit : Addr
  fd_colours_fit : FuncData
  f_rows_fit : Addr
  fd_rows_fit : FuncData
  f_Cloth___init__ : Addr
  fd_Cloth___init__ : FuncData
  f_other : Addr
  fd_other : FuncData
  f_turned_over : Addr
  fd_turned_over : FuncData
  f_check_colours : Addr
  fd_check_colours : FuncData
  f_crossing_colours : Addr
  fd_crossing_colours : FuncData
  f_face : Addr
  fd_face : FuncData
  f_back : Addr
  fd_back : FuncData
  f_hidden : Addr
  fd_hidden : FuncData
  f__law_start : Addr
  fd__law_start : FuncData
  f__law_draw : Addr
  fd__law_draw : FuncData
  f__law_side : Addr
  fd__law_side : FuncData
  f__law_same : Addr
  fd__law_same : FuncData
  f__law_free_rows : Addr
  fd__law_free_rows : FuncData
  f__law_exchange : Addr
  fd__law_exchange : FuncData
  f__law_turned : Addr
  fd__law_turned : FuncData
  f__law_rows_told : Addr
  fd__law_rows_told : FuncData
  f__law_picture : Addr
  fd__law_picture : FuncData
  f__law_colours : Addr
  fd__law_colours : FuncData
  f__law_due : Addr
  fd__law_due : FuncData
  f__law_asked_face : Addr
  fd__law_asked_face : FuncData
  f__law_asked_back : Addr
  fd__law_asked_back : FuncData
  f__law_asked_hidden : Addr
  fd__law_asked_hidden : FuncData
  f__law_handed : Addr
  fd__law_handed : FuncData
  f__law_answers : Addr
  fd__law_answers : FuncData
  f__law_answered : Addr
  fd__law_answered : FuncData
  f__law_shows : Addr
  fd__law_shows : FuncData
  f__law_spoilt : Addr
  fd__law_spoilt : FuncData
  f__law_word_due : Addr
  fd__law_word_due : FuncData
  f__law_refused : Addr
  fd__law_refused : FuncData
  f_law : Addr
  fd_law : FuncData
  C_Cloth : Addr
  C_MillError : Addr
  C_BadColours : Addr
  C_TooLarge : Addr
  C_Mismatch : Addr
structure Ok (a : Ad) (K : PySem.W.Frag) (mg : Str → Option Value) : Prop where
  m_isinstance : mg "isinstance" = none
  m_list : mg "list" = none
  m_tuple : mg "tuple" = none
  F_in_range : Fun K "in_range" "in_range" s_in_range a.f_in_range a.fd_in_range
  b_in_range : Binds K a.fd_in_range ["n", "low", "high"] []
  g_in_range : mg "in_range" = some (.ref a.f_in_range)
  m_len : mg "len" = none
  F_rows_fit : Fun K "rows_fit" "rows_fit" s_rows_fit a.f_rows_fit a.fd_rows_fit
  b_rows_fit : Binds K a.fd_rows_fit ["rows", "signs", "most"] []
  g_rows_fit : mg "rows_fit" = some (.ref a.f_rows_fit)
  c_SIGNS : ∃ u, mg "SIGNS" = some u ∧ RelV (.str "01") u
  g_Cloth : mg "Cloth" = some (.ref a.C_Cloth)
  r_Cloth : ClX.CRead K a.C_Cloth (.type "type")
  k_Cloth_MOST : ∃ u, ClX.CVal K a.C_Cloth (.type "type") "MOST" (.int 60) u
  cl_Cloth : Cls K a.C_Cloth
  na_Cloth_rows : NoAttr K a.C_Cloth "rows"
  na_Cloth_picks : NoAttr K a.C_Cloth "picks"
  na_Cloth_ends : NoAttr K a.C_Cloth "ends"
  m_str : mg "str" = none
  m_sum : mg "sum" = none
  F_Cloth___init__ : Fun K "__init__" "Cloth.__init__" s_Cloth___init__ a.f_Cloth___init__ a.fd_Cloth___init__
  b_Cloth___init__ : Binds K a.fd_Cloth___init__ ["self", "rows"] []
  mk_Cloth : Mk K a.C_Cloth a.f_Cloth___init__
  F_other : Fun K "other" "other" s_other a.f_other a.fd_other
  b_other : Binds K a.fd_other ["sign"] []
  g_other : mg "other" = some (.ref a.f_other)
  F_colours_fit : Fun K "colours_fit" "colours_fit" s_colours_fit a.f_colours_fit a.fd_colours_fit
  b_colours_fit : Binds K a.fd_colours_fit ["colours"] []
  g_colours_fit : mg "colours_fit" = some (.ref a.f_colours_fit)
  g_BadColours : mg "BadColours" = some (.ref a.C_BadColours)
  xi_BadColours : PySem.W.excIn K a.C_BadColours [.type "ValueError", .type "Exception", .type "BaseException", .type "object"] "ValueError.__new__" = true
  xk_BadColours : PySem.W.keepIn K (.ref a.C_BadColours) = true
  xb_BadColours : PySem.W.subIn K (.ref a.C_BadColours) (.type "BaseException") = some true
  xt_BadColours : PySem.W.typeIn K (.ref a.C_BadColours) = some (.type "type")
  g_Mismatch : mg "Mismatch" = some (.ref a.C_Mismatch)
  xi_Mismatch : PySem.W.excIn K a.C_Mismatch [.type "ValueError", .type "Exception", .type "BaseException", .type "object"] "ValueError.__new__" = true
  xk_Mismatch : PySem.W.keepIn K (.ref a.C_Mismatch) = true
  xb_Mismatch : PySem.W.subIn K (.ref a.C_Mismatch) (.type "BaseException") = some true
  xt_Mismatch : PySem.W.typeIn K (.ref a.C_Mismatch) = some (.type "type")
  F_check_colours : Fun K "check_colours" "check_colours" s_check_colours a.f_check_colours a.fd_check_colours
  b_check_colours : Binds K a.fd_check_colours ["cloth", "warp", "weft"] []
  g_check_colours : mg "check_colours" = some (.ref a.f_check_colours)
  m_range : mg "range" = none
  F_crossing_colours : Fun K "crossing_colours" "crossing_colours" s_crossing_colours a.f_crossing_colours a.fd_crossing_colours
  b_crossing_colours : Binds K a.fd_crossing_colours ["cloth", "warp", "weft", "i", "j"] []
  g_crossing_colours : mg "crossing_colours" = some (.ref a.f_crossing_colours)
  c_DIGITS : ∃ u, mg "DIGITS" = some u ∧ RelV (.str "012345") u
  m_int : mg "int" = none
  m_abs : mg "abs" = none
  F__law_draw : Fun K "_law_draw" "_law_draw" s__law_draw a.f__law_draw a.fd__law_draw
  b__law_draw : Binds K a.fd__law_draw ["state", "span"] []
  g__law_draw : mg "_law_draw" = some (.ref a.f__law_draw)
  m_min : mg "min" = none
  m_bool : mg "bool" = none
  F__law_same : Fun K "_law_same" "_law_same" s__law_same a.f__law_same a.fd__law_same
  b__law_same : Binds K a.fd__law_same ["actual", "due"] []
  g__law_same : mg "_law_same" = some (.ref a.f__law_same)
  F__law_picture : Fun K "_law_picture" "_law_picture" s__law_picture a.f__law_picture a.fd__law_picture
  b__law_picture : Binds K a.fd__law_picture ["cloth_rows", "warp", "weft"] []
  g__law_picture : mg "_law_picture" = some (.ref a.f__law_picture)
  F__law_turned : Fun K "_law_turned" "_law_turned" s__law_turned a.f__law_turned a.fd__law_turned
  b__law_turned : Binds K a.fd__law_turned ["cloth_rows"] []
  g__law_turned : mg "_law_turned" = some (.ref a.f__law_turned)
  F_face : Fun K "face" "face" s_face a.f_face a.fd_face
  b_face : Binds K a.fd_face ["cloth", "warp", "weft"] []
  g_face : mg "face" = some (.ref a.f_face)
  g_MillError : mg "MillError" = some (.ref a.C_MillError)
  xb_MillError : PySem.W.subIn K (.ref a.C_MillError) (.type "BaseException") = some true
  xt_MillError : PySem.W.typeIn K (.ref a.C_MillError) = some (.type "type")
  m_ValueError : mg "ValueError" = none
  g_TooLarge : mg "TooLarge" = some (.ref a.C_TooLarge)
  F_back : Fun K "back" "back" s_back a.f_back a.fd_back
  b_back : Binds K a.fd_back ["cloth", "warp", "weft"] []
  g_back : mg "back" = some (.ref a.f_back)
  F_hidden : Fun K "hidden" "hidden" s_hidden a.f_hidden a.fd_hidden
  b_hidden : Binds K a.fd_hidden ["cloth", "warp", "weft"] []
  g_hidden : mg "hidden" = some (.ref a.f_hidden)
  F__law_asked_face : Fun K "_law_asked_face" "_law_asked_face" s__law_asked_face a.f__law_asked_face a.fd__law_asked_face
  b__law_asked_face : Binds K a.fd__law_asked_face ["cloth", "warp", "weft"] []
  g__law_asked_face : mg "_law_asked_face" = some (.ref a.f__law_asked_face)
  F__law_asked_back : Fun K "_law_asked_back" "_law_asked_back" s__law_asked_back a.f__law_asked_back a.fd__law_asked_back
  b__law_asked_back : Binds K a.fd__law_asked_back ["cloth", "warp", "weft"] []
  g__law_asked_back : mg "_law_asked_back" = some (.ref a.f__law_asked_back)
  F__law_asked_hidden : Fun K "_law_asked_hidden" "_law_asked_hidden" s__law_asked_hidden a.f__law_asked_hidden a.fd__law_asked_hidden
  b__law_asked_hidden : Binds K a.fd__law_asked_hidden ["cloth", "warp", "weft"] []
  g__law_asked_hidden : mg "_law_asked_hidden" = some (.ref a.f__law_asked_hidden)
  F__law_due : Fun K "_law_due" "_law_due" s__law_due a.f__law_due a.fd__law_due
  b__law_due : Binds K a.fd__law_due ["cloth_rows", "warp", "weft"] []
  g__law_due : mg "_law_due" = some (.ref a.f__law_due)
  F__law_handed : Fun K "_law_handed" "_law_handed" s__law_handed a.f__law_handed a.fd__law_handed
  b__law_handed : Binds K a.fd__law_handed ["warp", "weft", "turn"] []
  g__law_handed : mg "_law_handed" = some (.ref a.f__law_handed)
  F__law_answers : Fun K "_law_answers" "_law_answers" s__law_answers a.f__law_answers a.fd__law_answers
  b__law_answers : Binds K a.fd__law_answers ["cloth", "warp", "weft", "turn"] []
  g__law_answers : mg "_law_answers" = some (.ref a.f__law_answers)
  F__law_rows_told : Fun K "_law_rows_told" "_law_rows_told" s__law_rows_told a.f__law_rows_told a.fd__law_rows_told
  b__law_rows_told : Binds K a.fd__law_rows_told ["told"] []
  g__law_rows_told : mg "_law_rows_told" = some (.ref a.f__law_rows_told)
  F__law_answered : Fun K "_law_answered" "_law_answered" s__law_answered a.f__law_answered a.fd__law_answered
  b__law_answered : Binds K a.fd__law_answered ["cloth", "cloth_rows", "warp", "weft", "turn"] []
  g__law_answered : mg "_law_answered" = some (.ref a.f__law_answered)
  F_turned_over : Fun K "turned_over" "turned_over" s_turned_over a.f_turned_over a.fd_turned_over
  b_turned_over : Binds K a.fd_turned_over ["cloth"] []
  g_turned_over : mg "turned_over" = some (.ref a.f_turned_over)
  F__law_word_due : Fun K "_law_word_due" "_law_word_due" s__law_word_due a.f__law_word_due a.fd__law_word_due
  b__law_word_due : Binds K a.fd__law_word_due ["h", "w", "warp", "weft"] []
  g__law_word_due : mg "_law_word_due" = some (.ref a.f__law_word_due)
  F__law_shows : Fun K "_law_shows" "_law_shows" s__law_shows a.f__law_shows a.fd__law_shows
  b__law_shows : Binds K a.fd__law_shows ["cloth_rows", "warp", "weft", "turn"] []
  g__law_shows : mg "_law_shows" = some (.ref a.f__law_shows)
  F__law_start : Fun K "_law_start" "_law_start" s__law_start a.f__law_start a.fd__law_start
  b__law_start : Binds K a.fd__law_start ["script"] []
  g__law_start : mg "_law_start" = some (.ref a.f__law_start)
  F__law_side : Fun K "_law_side" "_law_side" s__law_side a.f__law_side a.fd__law_side
  b__law_side : Binds K a.fd__law_side ["state", "most"] []
  g__law_side : mg "_law_side" = some (.ref a.f__law_side)
  F__law_free_rows : Fun K "_law_free_rows" "_law_free_rows" s__law_free_rows a.f__law_free_rows a.fd__law_free_rows
  b__law_free_rows : Binds K a.fd__law_free_rows ["state", "h", "w"] []
  g__law_free_rows : mg "_law_free_rows" = some (.ref a.f__law_free_rows)
  F__law_colours : Fun K "_law_colours" "_law_colours" s__law_colours a.f__law_colours a.fd__law_colours
  b__law_colours : Binds K a.fd__law_colours ["state", "count", "span"] []
  g__law_colours : mg "_law_colours" = some (.ref a.f__law_colours)
  F__law_exchange : Fun K "_law_exchange" "_law_exchange" s__law_exchange a.f__law_exchange a.fd__law_exchange
  b__law_exchange : Binds K a.fd__law_exchange ["cloth_rows", "i", "j"] []
  g__law_exchange : mg "_law_exchange" = some (.ref a.f__law_exchange)
  F__law_spoilt : Fun K "_law_spoilt" "_law_spoilt" s__law_spoilt a.f__law_spoilt a.fd__law_spoilt
  b__law_spoilt : Binds K a.fd__law_spoilt ["state", "colours"] []
  g__law_spoilt : mg "_law_spoilt" = some (.ref a.f__law_spoilt)
  F__law_refused : Fun K "_law_refused" "_law_refused" s__law_refused a.f__law_refused a.fd__law_refused
  b__law_refused : Binds K a.fd__law_refused ["cloth_rows", "warp", "weft", "right", "turn"] []
  g__law_refused : mg "_law_refused" = some (.ref a.f__law_refused)
  F_law : Fun K "law" "law" s_law a.f_law a.fd_law
  b_law : Binds K a.fd_law ["script"] []
  isa_t : ∀ e ∈ isaT a.C_Cloth, PySem.W.kitOne K e.1.v e.2.1.v = some e.2.2
  isa_c : ∀ C ∈ [a.C_Cloth], InsTy K C
  isx_t : ∀ e ∈ isxT a.C_BadColours a.C_TooLarge a.C_Mismatch, PySem.W.kitOne K e.1.v e.2.1.v = some e.2.2
  ext_t : ∀ e ∈ exT a.C_MillError a.C_BadColours a.C_Mismatch, PySem.W.exmOne K (.ref e.1) (.ref e.2.1) = some e.2.2
  ext_c : ∀ e ∈ exT a.C_MillError a.C_BadColours a.C_Mismatch, ExcC K e.1
end Wk21

namespace Wk21
open PySem PySem.Spec PyProof.Rows L2 VS
section
variable {P : Program} {w : World} {K : PySem.W.Frag} {mg : Str → Option Value} {base : Heap} {a : Ad}
theorem ok_in_range (o : Ok a K mg) : FnOk P w K mg base CX0 1 a.f_in_range a.fd_in_range ["n", "low", "high"] (spOf K [.val, .val, .val] (D_in_range )) :=
  fn_vs (N := ["n", "low", "high"]) (k := 0) (d := b_in_range ) [.val, .val, .val] o.F_in_range sc_in_range rfl (by decide) fun cdv A outer s H E hr => ⟨_, _, (dss_one (ds_rt (wE (de_chn op_leA cmpd_ok op_leA cmpd_ok (de_n 1) (de_n 0) (de_n 2)))))⟩
theorem ok_colours_fit (o : Ok a K mg) : FnOk P w K mg base CX0 2 a.f_colours_fit a.fd_colours_fit ["colours"] (spOf K [.val] (D_colours_fit a.C_Cloth)) :=
  fn_vs (N := ["colours", "colour"]) (k := 1) (d := b_colours_fit a.C_Cloth) [.val] o.F_colours_fit sc_colours_fit rfl (by decide) fun cdv A outer s H E hr => ⟨_, _, (dss_cons (ds_if (wT (DW.dt (dw_or (wT (dt_not (wT (dt_t (wE (de_callB (isi_ok o.isa_t o.isa_c) (call_or call_is1 call_isN) (by rfl) o.m_isinstance VS.boot_isi (wA (da_cons (de_n 0) (wA (da_cons (wE (de_tup (wA (da_cons (de_bltn (by rfl) o.m_list VS.boot_lst (v := .ty "list") rfl) (wA (da_cons (de_bltn (by rfl) o.m_tuple VS.boot_tup (v := .ty "tuple") rfl) da_nil)))))) da_nil)))))))))) (dw_or1 (wT (dt_not (wT (dt_t (wE (de_call (ks := [.val .tmp, .val .tmp, .val .tmp]) (ok_in_range o) (hr.mono (by decide)) (by rfl) o.g_in_range o.F_in_range.kp o.b_in_range (wC (dc_val (wE (de_callB (One.n len_ok) call_len (by rfl) o.m_len VS.boot_len (wA (da_cons (de_n 0) da_nil)))) (wC (dc_val de_int (wC (dc_val de_int dc_nil)))))))))))))))) (dss_one (ds_rt de_bl)) dss_nil)
      (dss_cons (for_ PassesOwn.never rfl (wI (di_any (de_n 0))) (dg_n 1 sc_colours_fit.nd) (dss_one (ds_if (wT (dt_not (wT (dt_t (wE (de_call (ks := [.val (.vw [1]), .val .tmp, .val .tmp]) (ok_in_range o) (hr.mono (by decide)) (by rfl) o.g_in_range o.F_in_range.kp o.b_in_range (wC (dc_val (de_n 1) (wC (dc_val de_int (wC (dc_val de_int dc_nil)))))))))))) (dss_one (ds_rt de_bl)) dss_nil)))
      (dss_one (ds_rt de_bl))))⟩
theorem ok_rows_fit (o : Ok a K mg) : FnOk P w K mg base CX0 2 a.f_rows_fit a.fd_rows_fit ["rows", "signs", "most"] (spOf K [.val, .val, .val] (D_rows_fit a.C_Cloth)) :=
  fn_vs (N := ["rows", "signs", "most", "row", "sign"]) (k := 1) (d := b_rows_fit a.C_Cloth) [.val, .val, .val] o.F_rows_fit sc_rows_fit rfl (by decide) fun cdv A outer s H E hr => ⟨_, _, (dss_cons (ds_if (wT (DW.dt (dw_or (wT (dt_not (wT (dt_t (wE (de_callB (isi_ok o.isa_t o.isa_c) (call_or call_is1 call_isN) (by rfl) o.m_isinstance VS.boot_isi (wA (da_cons (de_n 0) (wA (da_cons (wE (de_tup (wA (da_cons (de_bltn (by rfl) o.m_list VS.boot_lst (v := .ty "list") rfl) (wA (da_cons (de_bltn (by rfl) o.m_tuple VS.boot_tup (v := .ty "tuple") rfl) da_nil)))))) da_nil)))))))))) (dw_or1 (wT (dt_not (wT (dt_t (wE (de_call (ks := [.val .tmp, .val .tmp, .val (.vw [2])]) (ok_in_range o) (hr.mono (by decide)) (by rfl) o.g_in_range o.F_in_range.kp o.b_in_range (wC (dc_val (wE (de_callB (One.n len_ok) call_len (by rfl) o.m_len VS.boot_len (wA (da_cons (de_n 0) da_nil)))) (wC (dc_val de_int (wC (dc_val (de_n 2) dc_nil)))))))))))))))) (dss_one (ds_rt de_bl)) dss_nil)
      (dss_cons (for_ PassesOwn.never rfl (wI (di_any (de_n 0))) (dg_n 3 sc_rows_fit.nd) (dss_cons (ds_if (wT (DW.dt (dw_or (wT (dt_not (wT (dt_t (wE (de_callB (isi_ok o.isa_t o.isa_c) (call_or call_is1 call_isN) (by rfl) o.m_isinstance VS.boot_isi (wA (da_cons (de_n 3) (wA (da_cons (de_bltn (by rfl) o.m_str VS.boot_str (v := .ty "str") rfl) da_nil)))))))))) (dw_or (wT (dt_not (wT (dt_t (wE (de_call (ks := [.val .tmp, .val .tmp, .val (.vw [2])]) (ok_in_range o) (hr.mono (by decide)) (by rfl) o.g_in_range o.F_in_range.kp o.b_in_range (wC (dc_val (wE (de_callB (One.n len_ok) call_len (by rfl) o.m_len VS.boot_len (wA (da_cons (de_n 3) da_nil)))) (wC (dc_val de_int (wC (dc_val (de_n 2) dc_nil)))))))))))) (dw_or1 (wT (dt_cmp (op_neA (huX hr)) ned_ok (wE (de_callB (One.n len_ok) call_len (by rfl) o.m_len VS.boot_len (wA (da_cons (de_n 3) da_nil)))) (wE (de_callB (One.n len_ok) call_len (by rfl) o.m_len VS.boot_len (wA (da_cons (wE (de_ix (de_n 0) de_int)) da_nil))))))))))) (dss_one (ds_rt de_bl)) dss_nil)
      (dss_one (ds_if (wT (dt_cmp (op_neA (huX hr)) ned_ok (wE (de_callB (One.n sum_ok) (cr_sum rfl) (by rfl) o.m_sum VS.boot_sum (wA (da_cons (wE (lc_ (own := [("sign", 4)]) rfl sc_rows_fit.nd (wI (di_any (de_n 1))) (by refine blkOk_by (own := [("sign", 4)]) ?_; first | (dsimp only [Cx.blk, compEnvC, cxOf, Cx.nox, envOfC]; decide +kernel) | rfl | with_unfolding_all rfl) (fun _ _ _ _ _ => ⟨_, (dg_n 4 sc_rows_fit.nd)⟩) (fun _ _ _ _ _ => ⟨_, dts_nil⟩) (fun _ _ _ _ _ => ⟨_, (wE (de_bm scount_ok tyS_of PySem.F.plainAttrs_str PySem.F.slot_str_count PySem.F.type_str_count mt_count (de_n 3) (wA (da_cons (de_n 4) da_nil))))⟩))) da_nil)))) (wE (de_callB (One.n len_ok) call_len (by rfl) o.m_len VS.boot_len (wA (da_cons (de_n 3) da_nil)))))) (dss_one (ds_rt de_bl)) dss_nil))))
      (dss_one (ds_rt de_bl))))⟩
theorem ok_Cloth___init__ (o : Ok a K mg) : FnOk P w K mg base CX0 3 a.f_Cloth___init__ a.fd_Cloth___init__ ["self", "rows"] (spOf K [.io, .val] (D_Cloth___init__ a.C_Cloth)) :=
  fn_vs (N := ["self", "rows"]) (k := 2) (d := b_Cloth___init__ a.C_Cloth) [.io, .val] o.F_Cloth___init__ sc_Cloth___init__ rfl (by decide) fun cdv A outer s H E hr => ⟨_, _, (dss_cons (ds_if (wT (dt_not (wT (dt_t (wE (de_call (ks := [.val (.vw [1]), .val .tmp, .val .tmp]) (ok_rows_fit o) (hr.mono (by decide)) (by rfl) o.g_rows_fit o.F_rows_fit.kp o.b_rows_fit (wC (dc_val (de_n 1) (wC (dc_val (de_gc (by rfl) o.c_SIGNS) (wC (dc_val (de_cval (pe_glob (by rfl) o.g_Cloth rfl) o.r_Cloth o.k_Cloth_MOST.choose_spec) dc_nil)))))))))))) (dss_one ds_no) dss_nil)
      (dss_cons (ds_fld (Cs := [a.C_Cloth]) (fun C m => (List.mem_cons.mp m).elim (fun e => by subst e; exact ⟨o.cl_Cloth, o.na_Cloth_rows⟩) fun m => nomatch m) (wE (de_callT (One.n tup_ok) call_tuple_of (by rfl) o.m_tuple VS.boot_tup (wA (da_cons (de_n 1) da_nil)))) (dp_n 0))
      (dss_cons (ds_fld (Cs := [a.C_Cloth]) (fun C m => (List.mem_cons.mp m).elim (fun e => by subst e; exact ⟨o.cl_Cloth, o.na_Cloth_picks⟩) fun m => nomatch m) (wE (de_callB (One.n len_ok) call_len (by rfl) o.m_len VS.boot_len (wA (da_cons (wE (de_fld (Cs := [a.C_Cloth]) (fun C m => (List.mem_cons.mp m).elim (fun e => by subst e; exact ⟨o.cl_Cloth, o.na_Cloth_rows⟩) fun m => nomatch m) (de_n 0))) da_nil)))) (dp_n 0))
      (dss_one (ds_fld (Cs := [a.C_Cloth]) (fun C m => (List.mem_cons.mp m).elim (fun e => by subst e; exact ⟨o.cl_Cloth, o.na_Cloth_ends⟩) fun m => nomatch m) (wE (de_callB (One.n len_ok) call_len (by rfl) o.m_len VS.boot_len (wA (da_cons (wE (de_ix (wE (de_fld (Cs := [a.C_Cloth]) (fun C m => (List.mem_cons.mp m).elim (fun e => by subst e; exact ⟨o.cl_Cloth, o.na_Cloth_rows⟩) fun m => nomatch m) (de_n 0))) de_int)) da_nil)))) (dp_n 0))))))⟩
theorem ok_other (o : Ok a K mg) : FnOk P w K mg base CX0 1 a.f_other a.fd_other ["sign"] (spOf K [.val] (D_other )) :=
  fn_vs (N := ["sign"]) (k := 0) (d := b_other ) [.val] o.F_other sc_other rfl (by decide) fun cdv A outer s H E hr => ⟨_, _, (dss_cons (ds_if (wT (dt_cmp (op_eqA (huX hr)) eqd_ok (de_n 0) de_str)) (dss_one (ds_rt de_str)) dss_nil)
      (dss_one (ds_rt de_str)))⟩
theorem ok_turned_over (o : Ok a K mg) : FnOk P w K mg base CX0 5 a.f_turned_over a.fd_turned_over ["cloth"] (spOf K [.val] (D_turned_over a.C_Cloth)) :=
  fn_vs (N := ["cloth", "row", "sign"]) (k := 4) (d := b_turned_over a.C_Cloth) [.val] o.F_turned_over sc_turned_over rfl (by decide) fun cdv A outer s H E hr => ⟨_, _, (dss_one (ds_rt (wE (de_make (ks := [.val .tmp]) true o.mk_Cloth (ok_Cloth___init__ o) (hr.mono (by decide)) (by rfl) o.g_Cloth o.b_Cloth___init__ (wC (dc_val (wE (lc_ (own := [("row", 1)]) rfl sc_turned_over.nd (wI (di_any (wE (de_fld (Cs := [a.C_Cloth]) (fun C m => (List.mem_cons.mp m).elim (fun e => by subst e; exact ⟨o.cl_Cloth, o.na_Cloth_rows⟩) fun m => nomatch m) (de_n 0))))) (by refine blkOk_by (own := [("row", 1)]) ?_; first | (dsimp only [Cx.blk, compEnvC, cxOf, Cx.nox, envOfC]; decide +kernel) | rfl | with_unfolding_all rfl) (fun _ _ _ _ _ => ⟨_, (dg_n 1 sc_turned_over.nd)⟩) (fun _ _ _ _ _ => ⟨_, dts_nil⟩) (fun _ _ _ _ _ => ⟨_, (wE (de_bm join_ok tyS_of PySem.F.plainAttrs_str PySem.F.slot_str_join PySem.F.type_str_join mt_join de_str (wA (da_cons (wE (lc_ (own := [("sign", 2)]) rfl sc_turned_over.nd (wI (di_any (wE (de_revA (de_n 1))))) (by refine blkOk_by (own := [("sign", 2)]) ?_; first | (dsimp only [Cx.blk, compEnvC, cxOf, Cx.nox, envOfC]; decide +kernel) | rfl | with_unfolding_all rfl) (fun _ _ _ _ _ => ⟨_, (dg_n 2 sc_turned_over.nd)⟩) (fun _ _ _ _ _ => ⟨_, dts_nil⟩) (fun _ _ _ _ _ => ⟨_, (wE (de_call (ks := [.val (.vw [2])]) (ok_other o) (hr.mono (by decide)) (by rfl) o.g_other o.F_other.kp o.b_other (wC (dc_val (de_n 2) dc_nil))))⟩))) da_nil))))⟩))) dc_nil))))))⟩
theorem ok_check_colours (o : Ok a K mg) : FnOk P w K mg base (L2.CX P w) 3 a.f_check_colours a.fd_check_colours ["cloth", "warp", "weft"] (spOf K [.val, .val, .val] (D_check_colours a.C_Cloth a.C_BadColours a.C_Mismatch)) :=
  fn_vsX (N := ["cloth", "warp", "weft"]) (k := 2) (d := b_check_colours a.C_Cloth a.C_BadColours a.C_Mismatch) [.val, .val, .val] o.F_check_colours sc_check_colours rfl (by decide) fun cdv A outer s H E hr => ⟨_, _, (dss_cons (ds_if (wT (DW.dt (dw_or (wT (dt_not (wT (dt_t (wE (de_callX (ks := [.val (.vw [1])]) (ok_colours_fit o) (hr.mono (by decide)) (by rfl) o.g_colours_fit o.F_colours_fit.kp o.b_colours_fit px0 (wC (dc_val (de_n 1) dc_nil)))))))) (dw_or1 (wT (dt_not (wT (dt_t (wE (de_callX (ks := [.val (.vw [2])]) (ok_colours_fit o) (hr.mono (by decide)) (by rfl) o.g_colours_fit o.F_colours_fit.kp o.b_colours_fit px0 (wC (dc_val (de_n 2) dc_nil)))))))))))) (dss_one (ds_raise (takes_of rfl rfl rfl rfl) (pmk_own PySem.F.excBase_ValueError o.xi_BadColours o.g_BadColours o.xk_BadColours (raises_own o.xb_BadColours o.xt_BadColours) (by rfl)))) dss_nil)
      (dss_one (ds_if (wT (DW.dt (dw_or (wT (dt_cmp (op_neA (huX hr)) ned_ok (wE (de_callB (One.n len_ok) call_len (by rfl) o.m_len VS.boot_len (wA (da_cons (de_n 1) da_nil)))) (wE (de_fld (Cs := [a.C_Cloth]) (fun C m => (List.mem_cons.mp m).elim (fun e => by subst e; exact ⟨o.cl_Cloth, o.na_Cloth_ends⟩) fun m => nomatch m) (de_n 0))))) (dw_or1 (wT (dt_cmp (op_neA (huX hr)) ned_ok (wE (de_callB (One.n len_ok) call_len (by rfl) o.m_len VS.boot_len (wA (da_cons (de_n 2) da_nil)))) (wE (de_fld (Cs := [a.C_Cloth]) (fun C m => (List.mem_cons.mp m).elim (fun e => by subst e; exact ⟨o.cl_Cloth, o.na_Cloth_picks⟩) fun m => nomatch m) (de_n 0))))))))) (dss_one (ds_raise (takes_of rfl rfl rfl rfl) (pmk_own PySem.F.excBase_ValueError o.xi_Mismatch o.g_Mismatch o.xk_Mismatch (raises_own o.xb_Mismatch o.xt_Mismatch) (by rfl)))) dss_nil)))⟩
theorem ok_crossing_colours (o : Ok a K mg) : FnOk P w K mg base CX0 1 a.f_crossing_colours a.fd_crossing_colours ["cloth", "warp", "weft", "i", "j"] (spOf K [.val, .val, .val, .val, .val] (D_crossing_colours a.C_Cloth)) :=
  fn_vs (N := ["cloth", "warp", "weft", "i", "j"]) (k := 0) (d := b_crossing_colours a.C_Cloth) [.val, .val, .val, .val, .val] o.F_crossing_colours sc_crossing_colours rfl (by decide) fun cdv A outer s H E hr => ⟨_, _, (dss_cons (ds_if (wT (dt_cmp (op_eqA (huX hr)) eqd_ok (wE (de_ix (wE (de_ix (wE (de_fld (Cs := [a.C_Cloth]) (fun C m => (List.mem_cons.mp m).elim (fun e => by subst e; exact ⟨o.cl_Cloth, o.na_Cloth_rows⟩) fun m => nomatch m) (de_n 0))) (de_n 3))) (de_n 4))) de_str)) (dss_one (ds_rt (wE (de_tup (wA (da_cons (wE (de_ix (de_n 1) (de_n 4))) (wA (da_cons (wE (de_ix (de_n 2) (de_n 3))) da_nil)))))))) dss_nil)
      (dss_one (ds_rt (wE (de_tup (wA (da_cons (wE (de_ix (de_n 2) (de_n 3))) (wA (da_cons (wE (de_ix (de_n 1) (de_n 4))) da_nil)))))))))⟩
theorem ok_face (o : Ok a K mg) : FnOk P w K mg base (L2.CX P w) 4 a.f_face a.fd_face ["cloth", "warp", "weft"] (spOf K [.val, .val, .val] (D_face a.C_Cloth a.C_BadColours a.C_Mismatch)) :=
  fn_vsX (N := ["cloth", "warp", "weft", "picture", "i", "over", "j", "colour"]) (k := 3) (d := b_face a.C_Cloth a.C_BadColours a.C_Mismatch) [.val, .val, .val] o.F_face sc_face rfl (by decide) fun cdv A outer s H E hr => ⟨_, _, (dss_cons (ds_expr (wE (de_callX (ks := [.val (.vw [0]), .val (.vw [1]), .val (.vw [2])]) (ok_check_colours o) (hr.mono (by decide)) (by rfl) o.g_check_colours o.F_check_colours.kp o.b_check_colours (fun σ => passAt (takes_of rfl rfl rfl rfl) σ) (wC (dc_val (de_n 0) (wC (dc_val (de_n 1) (wC (dc_val (de_n 2) dc_nil)))))))))
      (dss_cons (ds_asg (wE (de_lst da_nil)) (dg_n 3 sc_face.nd))
      (dss_cons (for_ (passes_of rfl) rfl (wI (di_rg1 (by rfl) o.m_range (wA (da_cons (wE (de_fld (Cs := [a.C_Cloth]) (fun C m => (List.mem_cons.mp m).elim (fun e => by subst e; exact ⟨o.cl_Cloth, o.na_Cloth_picks⟩) fun m => nomatch m) (de_n 0))) da_nil)))) (dg_n 4 sc_face.nd) (dss_cons (setLc_ (i := 5) (own := [("j", 6)]) rfl sc_face.nd rfl rfl (sw_true rfl rfl rfl (by decide +kernel)) (wI (di_rg1 (by rfl) o.m_range (wA (da_cons (wE (de_fld (Cs := [a.C_Cloth]) (fun C m => (List.mem_cons.mp m).elim (fun e => by subst e; exact ⟨o.cl_Cloth, o.na_Cloth_ends⟩) fun m => nomatch m) (de_n 0))) da_nil)))) (by refine blkOk_by (own := [("j", 6)]) ?_; first | (dsimp only [Cx.blk, compEnvC, cxOf, Cx.nox, envOfC]; decide +kernel) | rfl | with_unfolding_all rfl) (fun _ _ _ _ _ => ⟨_, (dg_n 6 sc_face.nd)⟩) (fun _ _ _ _ _ => ⟨_, dts_nil⟩) (fun _ _ _ _ _ => ⟨_, (wE (de_ix (wE (de_callX (ks := [.val (.vw [0]), .val (.vw [1]), .val (.vw [2]), .val (.vw [4]), .val (.vw [6])]) (ok_crossing_colours o) (hr.mono (by decide)) (by rfl) o.g_crossing_colours o.F_crossing_colours.kp o.b_crossing_colours px0 (wC (dc_val (de_n 0) (wC (dc_val (de_n 1) (wC (dc_val (de_n 2) (wC (dc_val (de_n 4) (wC (dc_val (de_n 6) dc_nil)))))))))))) de_int))⟩))
      (dss_one (ds_expr (wE (de_append (dp_n 3) (wE (de_bm join_ok tyS_of PySem.F.plainAttrs_str PySem.F.slot_str_join PySem.F.type_str_join mt_join de_str (wA (da_cons (wE (lc_ (own := [("colour", 7)]) rfl sc_face.nd (wI (di_any (de_n 5))) (by refine blkOk_by (own := [("colour", 7)]) ?_; first | (dsimp only [Cx.blk, compEnvC, cxOf, Cx.nox, envOfC]; decide +kernel) | rfl | with_unfolding_all rfl) (fun _ _ _ _ _ => ⟨_, (dg_n 7 sc_face.nd)⟩) (fun _ _ _ _ _ => ⟨_, dts_nil⟩) (fun _ _ _ _ _ => ⟨_, (wE (de_ix (de_gc (by rfl) o.c_DIGITS) (de_n 7)))⟩))) da_nil))))))))))
      (dss_one (ds_rt (wE (de_callT (One.n tup_ok) call_tuple_of (by rfl) o.m_tuple VS.boot_tup (wA (da_cons (de_n 3) da_nil)))))))))⟩
theorem ok_back (o : Ok a K mg) : FnOk P w K mg base (L2.CX P w) 4 a.f_back a.fd_back ["cloth", "warp", "weft"] (spOf K [.val, .val, .val] (D_back a.C_Cloth a.C_BadColours a.C_Mismatch)) :=
  fn_vsX (N := ["cloth", "warp", "weft", "picture", "i", "under", "j", "colour"]) (k := 3) (d := b_back a.C_Cloth a.C_BadColours a.C_Mismatch) [.val, .val, .val] o.F_back sc_back rfl (by decide) fun cdv A outer s H E hr => ⟨_, _, (dss_cons (ds_expr (wE (de_callX (ks := [.val (.vw [0]), .val (.vw [1]), .val (.vw [2])]) (ok_check_colours o) (hr.mono (by decide)) (by rfl) o.g_check_colours o.F_check_colours.kp o.b_check_colours (fun σ => passAt (takes_of rfl rfl rfl rfl) σ) (wC (dc_val (de_n 0) (wC (dc_val (de_n 1) (wC (dc_val (de_n 2) dc_nil)))))))))
      (dss_cons (ds_asg (wE (de_lst da_nil)) (dg_n 3 sc_back.nd))
      (dss_cons (for_ (passes_of rfl) rfl (wI (di_rg1 (by rfl) o.m_range (wA (da_cons (wE (de_fld (Cs := [a.C_Cloth]) (fun C m => (List.mem_cons.mp m).elim (fun e => by subst e; exact ⟨o.cl_Cloth, o.na_Cloth_picks⟩) fun m => nomatch m) (de_n 0))) da_nil)))) (dg_n 4 sc_back.nd) (dss_cons (setLc_ (i := 5) (own := [("j", 6)]) rfl sc_back.nd rfl rfl (sw_true rfl rfl rfl (by decide +kernel)) (wI (di_rg1 (by rfl) o.m_range (wA (da_cons (wE (de_fld (Cs := [a.C_Cloth]) (fun C m => (List.mem_cons.mp m).elim (fun e => by subst e; exact ⟨o.cl_Cloth, o.na_Cloth_ends⟩) fun m => nomatch m) (de_n 0))) da_nil)))) (by refine blkOk_by (own := [("j", 6)]) ?_; first | (dsimp only [Cx.blk, compEnvC, cxOf, Cx.nox, envOfC]; decide +kernel) | rfl | with_unfolding_all rfl) (fun _ _ _ _ _ => ⟨_, (dg_n 6 sc_back.nd)⟩) (fun _ _ _ _ _ => ⟨_, dts_nil⟩) (fun _ _ _ _ _ => ⟨_, (wE (de_ix (wE (de_callX (ks := [.val (.vw [0]), .val (.vw [1]), .val (.vw [2]), .val (.vw [4]), .val (.vw [6])]) (ok_crossing_colours o) (hr.mono (by decide)) (by rfl) o.g_crossing_colours o.F_crossing_colours.kp o.b_crossing_colours px0 (wC (dc_val (de_n 0) (wC (dc_val (de_n 1) (wC (dc_val (de_n 2) (wC (dc_val (de_n 4) (wC (dc_val (de_n 6) dc_nil)))))))))))) de_int))⟩))
      (dss_one (ds_expr (wE (de_append (dp_n 3) (wE (de_bm join_ok tyS_of PySem.F.plainAttrs_str PySem.F.slot_str_join PySem.F.type_str_join mt_join de_str (wA (da_cons (wE (lc_ (own := [("colour", 7)]) rfl sc_back.nd (wI (di_any (wE (de_revA (de_n 5))))) (by refine blkOk_by (own := [("colour", 7)]) ?_; first | (dsimp only [Cx.blk, compEnvC, cxOf, Cx.nox, envOfC]; decide +kernel) | rfl | with_unfolding_all rfl) (fun _ _ _ _ _ => ⟨_, (dg_n 7 sc_back.nd)⟩) (fun _ _ _ _ _ => ⟨_, dts_nil⟩) (fun _ _ _ _ _ => ⟨_, (wE (de_ix (de_gc (by rfl) o.c_DIGITS) (de_n 7)))⟩))) da_nil))))))))))
      (dss_one (ds_rt (wE (de_callT (One.n tup_ok) call_tuple_of (by rfl) o.m_tuple VS.boot_tup (wA (da_cons (de_n 3) da_nil)))))))))⟩
theorem ok_hidden (o : Ok a K mg) : FnOk P w K mg base (L2.CX P w) 4 a.f_hidden a.fd_hidden ["cloth", "warp", "weft"] (spOf K [.val, .val, .val] (D_hidden a.C_Cloth a.C_BadColours a.C_Mismatch)) :=
  fn_vsX (N := ["cloth", "warp", "weft", "crossings", "i", "j"]) (k := 3) (d := b_hidden a.C_Cloth a.C_BadColours a.C_Mismatch) [.val, .val, .val] o.F_hidden sc_hidden rfl (by decide) fun cdv A outer s H E hr => ⟨_, _, (dss_cons (ds_expr (wE (de_callX (ks := [.val (.vw [0]), .val (.vw [1]), .val (.vw [2])]) (ok_check_colours o) (hr.mono (by decide)) (by rfl) o.g_check_colours o.F_check_colours.kp o.b_check_colours (fun σ => passAt (takes_of rfl rfl rfl rfl) σ) (wC (dc_val (de_n 0) (wC (dc_val (de_n 1) (wC (dc_val (de_n 2) dc_nil)))))))))
      (dss_cons (ds_asg (wE (de_lst da_nil)) (dg_n 3 sc_hidden.nd))
      (dss_cons (for_ (passes_of rfl) rfl (wI (di_rg1 (by rfl) o.m_range (wA (da_cons (wE (de_fld (Cs := [a.C_Cloth]) (fun C m => (List.mem_cons.mp m).elim (fun e => by subst e; exact ⟨o.cl_Cloth, o.na_Cloth_picks⟩) fun m => nomatch m) (de_n 0))) da_nil)))) (dg_n 4 sc_hidden.nd) (dss_one (ds_expr (wE (de_extend (dp_n 3) (wE (lc_ (own := [("j", 5)]) rfl sc_hidden.nd (wI (di_rg1 (by rfl) o.m_range (wA (da_cons (wE (de_fld (Cs := [a.C_Cloth]) (fun C m => (List.mem_cons.mp m).elim (fun e => by subst e; exact ⟨o.cl_Cloth, o.na_Cloth_ends⟩) fun m => nomatch m) (de_n 0))) da_nil)))) (by refine blkOk_by (own := [("j", 5)]) ?_; first | (dsimp only [Cx.blk, compEnvC, cxOf, Cx.nox, envOfC]; decide +kernel) | rfl | with_unfolding_all rfl) (fun _ _ _ _ _ => ⟨_, (dg_n 5 sc_hidden.nd)⟩) (fun _ _ _ _ _ => ⟨_, (dts_one (wT (dt_cmp (op_eqA (huX hr)) eqd_ok (wE (de_ix (de_n 1) (de_n 5))) (wE (de_ix (de_n 2) (de_n 4))))))⟩) (fun _ _ _ _ _ => ⟨_, (wE (de_tup (wA (da_cons (de_n 4) (wA (da_cons (de_n 5) da_nil))))))⟩))))))))
      (dss_one (ds_rt (wE (de_callT (One.n tup_ok) call_tuple_of (by rfl) o.m_tuple VS.boot_tup (wA (da_cons (de_n 3) da_nil)))))))))⟩
theorem ok__law_start (o : Ok a K mg) : FnOk P w K mg base CX0 1 a.f__law_start a.fd__law_start ["script"] (spOf K [.val] (D__law_start )) :=
  fn_vs (N := ["script", "seed", "cell"]) (k := 0) (d := b__law_start ) [.val] o.F__law_start sc__law_start rfl (by decide) fun cdv A outer s H E hr => ⟨_, _, (dss_cons (ds_asg de_int (dg_n 1 sc__law_start.nd))
      (dss_cons (for_ PassesOwn.never rfl (wI (di_any (wE (s01_ (de_n 0) de_int)))) (dg_n 2 sc__law_start.nd) (dss_one (ds_asg (wE (de_bin op_mod oMod_ok (wE (de_callT (One.n int_ok) call_int1 (by rfl) o.m_int VS.boot_int (wA (da_cons (wE (de_bin op_addA oAdd_ok (wE (de_bin op_addA oAdd_ok (wE (de_bin op_mulA oMul_ok (de_n 1) de_int)) (wE (de_bin op_mod oMod_ok (wE (de_callT (One.n int_ok) call_int1 (by rfl) o.m_int VS.boot_int (wA (da_cons (de_n 2) da_nil)))) de_int)))) de_int)) da_nil)))) de_int)) (dg_n 1 sc__law_start.nd))))
      (dss_one (ds_rt (wE (de_lst (wA (da_cons (wE (de_callT (One.n list_ok) call_list_of (by rfl) o.m_list VS.boot_lst (wA (da_cons (wE (s01_ (de_n 0) de_int)) da_nil)))) (wA (da_cons de_int (wA (da_cons de_int (wA (da_cons (de_n 1) (wA (da_cons de_int da_nil))))))))))))))))⟩
theorem ok__law_draw (o : Ok a K mg) : FnOk P w K mg base CX0 1 a.f__law_draw a.fd__law_draw ["state", "span"] (spOf K [.io, .val] (D__law_draw )) :=
  fn_vs (N := ["state", "span", "base", "mixed", "digit", "cell"]) (k := 0) (d := b__law_draw ) [.io, .val] o.F__law_draw sc__law_draw rfl (by decide) fun cdv A outer s H E hr => ⟨_, _, (dss_cons (ds_setix (wE (de_bin op_addA oAdd_ok (wE (de_ix (de_n 0) de_int)) de_int)) (dp_n 0) de_int)
      (dss_cons (ds_if (wT (dt_cmp op_gtA cmpd_ok (wE (de_ix (de_n 0) de_int)) de_int)) (dss_cons (ds_asg (wE (de_bin op_mod oMod_ok (wE (de_callT (One.n int_ok) call_int1 (by rfl) o.m_int VS.boot_int (wA (da_cons (wE (de_ix (de_n 0) de_int)) da_nil)))) (de_n 1))) (dg_n 4 sc__law_draw.nd))
      (dss_cons (ds_setix (wE (de_bin op_fdivW oDiv_ok (wE (de_ix (de_n 0) de_int)) (de_n 1))) (dp_n 0) de_int)
      (dss_one (ds_rt (de_n 4))))) dss_nil)
      (dss_cons (ds_asg (wE (de_ix (de_n 0) de_int)) (dg_n 2 sc__law_draw.nd))
      (dss_cons (ds_if (wT (dt_cmp op_ltA cmpd_ok (wE (de_ix (de_n 0) de_int)) (wE (de_callB (One.n len_ok) call_len (by rfl) o.m_len VS.boot_len (wA (da_cons (wE (de_ix (de_n 0) de_int)) da_nil)))))) (dss_cons (ds_asg (wE (de_callB (One.n abs_ok) call_abs (by rfl) o.m_abs VS.boot_abs (wA (da_cons (wE (de_callT (One.n int_ok) call_int1 (by rfl) o.m_int VS.boot_int (wA (da_cons (wE (de_ix (wE (de_ix (de_n 0) de_int)) (wE (de_ix (de_n 0) de_int)))) da_nil)))) da_nil)))) (dg_n 5 sc__law_draw.nd))
      (dss_cons (ds_setix (wE (de_bin op_addA oAdd_ok (wE (de_ix (de_n 0) de_int)) de_int)) (dp_n 0) de_int)
      (dss_cons (ds_if (wT (dt_cmp op_geA cmpd_ok (de_n 5) (wE (de_bin op_pow oPow_ok de_int de_int)))) (dss_cons (ds_setix (wE (de_bin op_fdivW oDiv_ok (de_n 5) (de_n 1))) (dp_n 0) de_int)
      (dss_one (ds_rt (wE (de_bin op_mod oMod_ok (wE (de_callT (One.n int_ok) call_int1 (by rfl) o.m_int VS.boot_int (wA (da_cons (de_n 5) da_nil)))) (de_n 1)))))) dss_nil)
      (dss_one (ds_asg (de_n 5) (dg_n 2 sc__law_draw.nd)))))) dss_nil)
      (dss_cons (ds_asg (wE (de_bin op_mod oMod_ok (wE (de_callT (One.n int_ok) call_int1 (by rfl) o.m_int VS.boot_int (wA (da_cons (wE (de_bin op_addA oAdd_ok (wE (de_bin op_addA oAdd_ok (wE (de_bin op_mulA oMul_ok (de_n 2) de_int)) (wE (de_bin op_mulA oMul_ok (wE (de_ix (de_n 0) de_int)) de_int)))) de_int)) da_nil)))) de_int)) (dg_n 3 sc__law_draw.nd))
      (dss_cons (ds_asg (wE (de_bin op_mod oMod_ok (wE (de_callT (One.n int_ok) call_int1 (by rfl) o.m_int VS.boot_int (wA (da_cons (wE (de_bin op_addA oAdd_ok (wE (de_bin op_mulA oMul_ok (de_n 3) (de_n 3))) (wE (de_bin op_mulA oMul_ok (wE (de_ix (de_n 0) de_int)) de_int)))) da_nil)))) de_int)) (dg_n 3 sc__law_draw.nd))
      (dss_cons (ds_asg (wE (de_bin op_mod oMod_ok (wE (de_callT (One.n int_ok) call_int1 (by rfl) o.m_int VS.boot_int (wA (da_cons (wE (de_bin op_addA oAdd_ok (wE (de_bin op_mulA oMul_ok (de_n 3) (de_n 3))) de_int)) da_nil)))) de_int)) (dg_n 3 sc__law_draw.nd))
      (dss_one (ds_rt (wE (de_bin op_mod oMod_ok (wE (de_callT (One.n int_ok) call_int1 (by rfl) o.m_int VS.boot_int (wA (da_cons (de_n 3) da_nil)))) (de_n 1))))))))))))⟩
theorem ok__law_side (o : Ok a K mg) : FnOk P w K mg base CX0 2 a.f__law_side a.fd__law_side ["state", "most"] (spOf K [.io, .val] (D__law_side )) :=
  fn_vs (N := ["state", "most", "kind"]) (k := 1) (d := b__law_side ) [.io, .val] o.F__law_side sc__law_side rfl (by decide) fun cdv A outer s H E hr => ⟨_, _, (dss_cons (ds_asg (wE (de_call (ks := [.io 0, .val .tmp]) (ok__law_draw o) (hr.mono (by decide)) (by rfl) o.g__law_draw o.F__law_draw.kp o.b__law_draw (wC (dc_io 0 (wC (dc_val de_int dc_nil)))))) (dg_n 2 sc__law_side.nd))
      (dss_cons (ds_if (wT (dt_cmp (op_eqA (huX hr)) eqd_ok (de_n 2) de_int)) (dss_one (ds_rt (wE (de_bin op_addA oAdd_ok de_int (wE (de_call (ks := [.io 0, .val (.vw [1])]) (ok__law_draw o) (hr.mono (by decide)) (by rfl) o.g__law_draw o.F__law_draw.kp o.b__law_draw (wC (dc_io 0 (wC (dc_val (de_n 1) dc_nil)))))))))) dss_nil)
      (dss_cons (ds_if (wT (dt_cmp op_ltA cmpd_ok (de_n 2) de_int)) (dss_one (ds_rt (wE (de_bin op_addA oAdd_ok de_int (wE (de_call (ks := [.io 0, .val .tmp]) (ok__law_draw o) (hr.mono (by decide)) (by rfl) o.g__law_draw o.F__law_draw.kp o.b__law_draw (wC (dc_io 0 (wC (dc_val (wE (de_callB (i2_ok (g := minI)) (call_min2 rfl) (by rfl) o.m_min VS.boot_min (wA (da_cons (de_n 1) (wA (da_cons de_int da_nil)))))) dc_nil)))))))))) dss_nil)
      (dss_one (ds_rt (wE (de_bin op_addA oAdd_ok de_int (wE (de_call (ks := [.io 0, .val .tmp]) (ok__law_draw o) (hr.mono (by decide)) (by rfl) o.g__law_draw o.F__law_draw.kp o.b__law_draw (wC (dc_io 0 (wC (dc_val (wE (de_callB (i2_ok (g := minI)) (call_min2 rfl) (by rfl) o.m_min VS.boot_min (wA (da_cons (de_n 1) (wA (da_cons de_int da_nil)))))) dc_nil)))))))))))))⟩
theorem ok__law_same (o : Ok a K mg) : ∀ k : Nat, FnOk P w K mg base CX0 (1 + k) a.f__law_same a.fd__law_same ["actual", "due"] (spOf K [.val, .val] (D__law_same a.C_Cloth k))
  | 0 => fn_no [.val, .val] rfl
  | k + 1 => by
    have ih := ok__law_same o k
    exact fn_vs (N := ["actual", "due", "k"]) (k := 1 + k) (d := b__law_same a.C_Cloth (D__law_same a.C_Cloth k)) [.val, .val] o.F__law_same sc__law_same rfl (by decide) fun cdv A outer s H E hr => ⟨_, _, (dss_cons (ds_if (wT (dt_cmp op_isN is_ok (de_n 1) de_non)) (dss_one (ds_rt (wE (de_cmp op_isN is_ok (de_n 0) de_non)))) dss_nil)
      (dss_cons (ds_if (wT (dt_t (wE (de_callB (isi_ok o.isa_t o.isa_c) (call_or call_is1 call_isN) (by rfl) o.m_isinstance VS.boot_isi (wA (da_cons (de_n 1) (wA (da_cons (de_bltn (by rfl) o.m_bool VS.boot_bool (v := .ty "bool") rfl) da_nil)))))))) (dss_one (ds_rt (wE (de_and (wE (de_callB (isi_ok o.isa_t o.isa_c) (call_or call_is1 call_isN) (by rfl) o.m_isinstance VS.boot_isi (wA (da_cons (de_n 0) (wA (da_cons (de_bltn (by rfl) o.m_bool VS.boot_bool (v := .ty "bool") rfl) da_nil)))))) (wE (de_one1 (wE (de_cmp (op_eqA (huX hr)) eqd_ok (de_n 0) (de_n 1))))))))) dss_nil)
      (dss_cons (ds_if (wT (dt_t (wE (de_callB (isi_ok o.isa_t o.isa_c) (call_or call_is1 call_isN) (by rfl) o.m_isinstance VS.boot_isi (wA (da_cons (de_n 1) (wA (da_cons (de_bltn (by rfl) o.m_int VS.boot_int (v := .ty "int") rfl) da_nil)))))))) (dss_one (ds_rt (wE (de_and (wE (de_callB (isi_ok o.isa_t o.isa_c) (call_or call_is1 call_isN) (by rfl) o.m_isinstance VS.boot_isi (wA (da_cons (de_n 0) (wA (da_cons (de_bltn (by rfl) o.m_int VS.boot_int (v := .ty "int") rfl) da_nil)))))) (wE (de_and (wE (de_not (wE (de_callB (isi_ok o.isa_t o.isa_c) (call_or call_is1 call_isN) (by rfl) o.m_isinstance VS.boot_isi (wA (da_cons (de_n 0) (wA (da_cons (de_bltn (by rfl) o.m_bool VS.boot_bool (v := .ty "bool") rfl) da_nil)))))))) (wE (de_one1 (wE (de_cmp (op_eqA (huX hr)) eqd_ok (de_n 0) (de_n 1))))))))))) dss_nil)
      (dss_cons (ds_if (wT (dt_t (wE (de_callB (isi_ok o.isa_t o.isa_c) (call_or call_is1 call_isN) (by rfl) o.m_isinstance VS.boot_isi (wA (da_cons (de_n 1) (wA (da_cons (de_bltn (by rfl) o.m_str VS.boot_str (v := .ty "str") rfl) da_nil)))))))) (dss_one (ds_rt (wE (de_and (wE (de_callB (isi_ok o.isa_t o.isa_c) (call_or call_is1 call_isN) (by rfl) o.m_isinstance VS.boot_isi (wA (da_cons (de_n 0) (wA (da_cons (de_bltn (by rfl) o.m_str VS.boot_str (v := .ty "str") rfl) da_nil)))))) (wE (de_one1 (wE (de_cmp (op_eqA (huX hr)) eqd_ok (de_n 0) (de_n 1))))))))) dss_nil)
      (dss_cons (ds_if (wT (DW.dt (dw_or (wT (dt_not (wT (dt_t (wE (de_callB (isi_ok o.isa_t o.isa_c) (call_or call_is1 call_isN) (by rfl) o.m_isinstance VS.boot_isi (wA (da_cons (de_n 0) (wA (da_cons (de_bltn (by rfl) o.m_tuple VS.boot_tup (v := .ty "tuple") rfl) da_nil)))))))))) (dw_or1 (wT (dt_cmp (op_neA (huX hr)) ned_ok (wE (de_callB (One.n len_ok) call_len (by rfl) o.m_len VS.boot_len (wA (da_cons (de_n 0) da_nil)))) (wE (de_callB (One.n len_ok) call_len (by rfl) o.m_len VS.boot_len (wA (da_cons (de_n 1) da_nil)))))))))) (dss_one (ds_rt de_bl)) dss_nil)
      (dss_cons (for_ PassesOwn.never rfl (wI (di_rg1 (by rfl) o.m_range (wA (da_cons (wE (de_callB (One.n len_ok) call_len (by rfl) o.m_len VS.boot_len (wA (da_cons (de_n 1) da_nil)))) da_nil)))) (dg_n 2 sc__law_same.nd) (dss_one (ds_if (wT (dt_not (wT (dt_t (wE (de_call (ks := [.val (.vw [0]), .val (.vw [1])]) ih (hr.mono (by omega)) (by rfl) o.g__law_same o.F__law_same.kp o.b__law_same (wC (dc_val (wE (de_ix (de_n 0) (de_n 2))) (wC (dc_val (wE (de_ix (de_n 1) (de_n 2))) dc_nil)))))))))) (dss_one (ds_rt de_bl)) dss_nil)))
      (dss_one (ds_rt de_bl))))))))⟩
theorem ok__law_free_rows (o : Ok a K mg) : FnOk P w K mg base CX0 2 a.f__law_free_rows a.fd__law_free_rows ["state", "h", "w"] (spOf K [.io, .val, .val] (D__law_free_rows )) :=
  fn_vs (N := ["state", "h", "w", "told", "i", "j"]) (k := 1) (d := b__law_free_rows ) [.io, .val, .val] o.F__law_free_rows sc__law_free_rows rfl (by decide) fun cdv A outer s H E hr => ⟨_, _, (dss_cons (ds_asg (wE (de_lst da_nil)) (dg_n 3 sc__law_free_rows.nd))
      (dss_cons (for_ PassesOwn.never rfl (wI (di_rg1 (by rfl) o.m_range (wA (da_cons (de_n 1) da_nil)))) (dg_n 4 sc__law_free_rows.nd) (dss_one (ds_expr (wE (de_append (dp_n 3) (wE (de_bm join_ok tyS_of PySem.F.plainAttrs_str PySem.F.slot_str_join PySem.F.type_str_join mt_join de_str (wA (da_cons (wE (lc_ (own := [("j", 5)]) rfl sc__law_free_rows.nd (wI (di_rg1 (by rfl) o.m_range (wA (da_cons (de_n 2) da_nil)))) (by refine blkOk_by (own := [("j", 5)]) ?_; first | (dsimp only [Cx.blk, compEnvC, cxOf, Cx.nox, envOfC]; decide +kernel) | rfl | with_unfolding_all rfl) (fun _ _ _ _ _ => ⟨_, (dg_n 5 sc__law_free_rows.nd)⟩) (fun _ _ _ _ _ => ⟨_, dts_nil⟩) (fun _ _ _ _ _ => ⟨_, (wE (de_ix de_str (wE (de_call (ks := [.io 0, .val .tmp]) (ok__law_draw o) (hr.mono (by decide)) (by rfl) o.g__law_draw o.F__law_draw.kp o.b__law_draw (wC (dc_io 0 (wC (dc_val de_int dc_nil))))))))⟩))) da_nil)))))))))
      (dss_one (ds_rt (de_n 3)))))⟩
theorem ok__law_exchange (o : Ok a K mg) : FnOk P w K mg base CX0 1 a.f__law_exchange a.fd__law_exchange ["cloth_rows", "i", "j"] (spOf K [.val, .val, .val] (D__law_exchange )) :=
  fn_vs (N := ["cloth_rows", "i", "j", "told", "sign"]) (k := 0) (d := b__law_exchange ) [.val, .val, .val] o.F__law_exchange sc__law_exchange rfl (by decide) fun cdv A outer s H E hr => ⟨_, _, (dss_cons (ds_asg (wE (de_callT (One.n list_ok) call_list_of (by rfl) o.m_list VS.boot_lst (wA (da_cons (de_n 0) da_nil)))) (dg_n 3 sc__law_exchange.nd))
      (dss_cons (ds_asg (wE (de_ix de_str (wE (de_callT (One.n int_ok) call_int1 (by rfl) o.m_int VS.boot_int (wA (da_cons (wE (de_cmp (op_eqA (huX hr)) eqd_ok (wE (de_ix (wE (de_ix (de_n 3) (de_n 1))) (de_n 2))) de_str)) da_nil)))))) (dg_n 4 sc__law_exchange.nd))
      (dss_cons (ds_setix (wE (de_bin op_addA oAdd_ok (wE (de_bin op_addA oAdd_ok (wE (s01_ (wE (de_ix (de_n 3) (de_n 1))) (de_n 2))) (de_n 4))) (wE (s10_ (wE (de_ix (de_n 3) (de_n 1))) (wE (de_bin op_addA oAdd_ok (de_n 2) de_int)))))) (dp_n 3) (de_n 1))
      (dss_one (ds_rt (de_n 3))))))⟩
theorem ok__law_turned (o : Ok a K mg) : FnOk P w K mg base CX0 1 a.f__law_turned a.fd__law_turned ["cloth_rows"] (spOf K [.val] (D__law_turned )) :=
  fn_vs (N := ["cloth_rows", "told", "row", "sign"]) (k := 0) (d := b__law_turned ) [.val] o.F__law_turned sc__law_turned rfl (by decide) fun cdv A outer s H E hr => ⟨_, _, (dss_cons (ds_asg (wE (de_lst da_nil)) (dg_n 1 sc__law_turned.nd))
      (dss_cons (for_ PassesOwn.never rfl (wI (di_any (de_n 0))) (dg_n 2 sc__law_turned.nd) (dss_one (ds_expr (wE (de_append (dp_n 1) (wE (de_bm join_ok tyS_of PySem.F.plainAttrs_str PySem.F.slot_str_join PySem.F.type_str_join mt_join de_str (wA (da_cons (wE (lc_ (own := [("sign", 3)]) rfl sc__law_turned.nd (wI (di_any (wE (de_revA (de_n 2))))) (by refine blkOk_by (own := [("sign", 3)]) ?_; first | (dsimp only [Cx.blk, compEnvC, cxOf, Cx.nox, envOfC]; decide +kernel) | rfl | with_unfolding_all rfl) (fun _ _ _ _ _ => ⟨_, (dg_n 3 sc__law_turned.nd)⟩) (fun _ _ _ _ _ => ⟨_, dts_nil⟩) (fun _ _ _ _ _ => ⟨_, (wE (de_ix de_str (wE (de_callT (One.n int_ok) call_int1 (by rfl) o.m_int VS.boot_int (wA (da_cons (wE (de_cmp (op_eqA (huX hr)) eqd_ok (de_n 3) de_str)) da_nil))))))⟩))) da_nil)))))))))
      (dss_one (ds_rt (de_n 1)))))⟩
theorem ok__law_rows_told (o : Ok a K mg) : FnOk P w K mg base CX0 1 a.f__law_rows_told a.fd__law_rows_told ["told"] (spOf K [.val] (D__law_rows_told a.C_Cloth)) :=
  fn_vs (N := ["told", "row"]) (k := 0) (d := b__law_rows_told a.C_Cloth) [.val] o.F__law_rows_told sc__law_rows_told rfl (by decide) fun cdv A outer s H E hr => ⟨_, _, (dss_cons (ds_if (wT (DW.dt (dw_or (wT (dt_not (wT (dt_t (wE (de_callB (isi_ok o.isa_t o.isa_c) (call_or call_is1 call_isN) (by rfl) o.m_isinstance VS.boot_isi (wA (da_cons (de_n 0) (wA (da_cons (de_glob (by rfl) o.g_Cloth (v := .ref a.C_Cloth) rfl) da_nil)))))))))) (dw_or1 (wT (dt_not (wT (dt_t (wE (de_callB (isi_ok o.isa_t o.isa_c) (call_or call_is1 call_isN) (by rfl) o.m_isinstance VS.boot_isi (wA (da_cons (wE (de_fld (Cs := [a.C_Cloth]) (fun C m => (List.mem_cons.mp m).elim (fun e => by subst e; exact ⟨o.cl_Cloth, o.na_Cloth_rows⟩) fun m => nomatch m) (de_n 0))) (wA (da_cons (de_bltn (by rfl) o.m_tuple VS.boot_tup (v := .ty "tuple") rfl) da_nil)))))))))))))) (dss_one (ds_rt de_non)) dss_nil)
      (dss_cons (for_ PassesOwn.never rfl (wI (di_any (wE (de_fld (Cs := [a.C_Cloth]) (fun C m => (List.mem_cons.mp m).elim (fun e => by subst e; exact ⟨o.cl_Cloth, o.na_Cloth_rows⟩) fun m => nomatch m) (de_n 0))))) (dg_n 1 sc__law_rows_told.nd) (dss_one (ds_if (wT (dt_not (wT (dt_t (wE (de_callB (isi_ok o.isa_t o.isa_c) (call_or call_is1 call_isN) (by rfl) o.m_isinstance VS.boot_isi (wA (da_cons (de_n 1) (wA (da_cons (de_bltn (by rfl) o.m_str VS.boot_str (v := .ty "str") rfl) da_nil)))))))))) (dss_one (ds_rt de_non)) dss_nil)))
      (dss_one (ds_rt (wE (de_callT (One.n list_ok) call_list_of (by rfl) o.m_list VS.boot_lst (wA (da_cons (wE (de_fld (Cs := [a.C_Cloth]) (fun C m => (List.mem_cons.mp m).elim (fun e => by subst e; exact ⟨o.cl_Cloth, o.na_Cloth_rows⟩) fun m => nomatch m) (de_n 0))) da_nil))))))))⟩
theorem ok__law_picture (o : Ok a K mg) : FnOk P w K mg base CX0 1 a.f__law_picture a.fd__law_picture ["cloth_rows", "warp", "weft"] (spOf K [.val, .val, .val] (D__law_picture )) :=
  fn_vs (N := ["cloth_rows", "warp", "weft", "told", "i", "row", "j"]) (k := 0) (d := b__law_picture ) [.val, .val, .val] o.F__law_picture sc__law_picture rfl (by decide) fun cdv A outer s H E hr => ⟨_, _, (dss_cons (ds_asg (wE (de_lst da_nil)) (dg_n 3 sc__law_picture.nd))
      (dss_cons (for_ PassesOwn.never rfl (wI (di_rg1 (by rfl) o.m_range (wA (da_cons (wE (de_callB (One.n len_ok) call_len (by rfl) o.m_len VS.boot_len (wA (da_cons (de_n 0) da_nil)))) da_nil)))) (dg_n 4 sc__law_picture.nd) (dss_cons (ds_asg de_str (dg_n 5 sc__law_picture.nd))
      (dss_cons (for_ PassesOwn.never rfl (wI (di_rg1 (by rfl) o.m_range (wA (da_cons (wE (de_callB (One.n len_ok) call_len (by rfl) o.m_len VS.boot_len (wA (da_cons (de_n 1) da_nil)))) da_nil)))) (dg_n 6 sc__law_picture.nd) (dss_one (ds_asg (wE (de_bin op_addA oAdd_ok (de_n 5) (wE (de_ix de_str (wE (de_ix (wE (de_lst (wA (da_cons (wE (de_ix (de_n 2) (de_n 4))) (wA (da_cons (wE (de_ix (de_n 1) (de_n 6))) da_nil)))))) (wE (de_callT (One.n int_ok) call_int1 (by rfl) o.m_int VS.boot_int (wA (da_cons (wE (de_cmp (op_eqA (huX hr)) eqd_ok (wE (de_ix (wE (de_ix (de_n 0) (de_n 4))) (de_n 6))) de_str)) da_nil)))))))))) (dg_n 5 sc__law_picture.nd))))
      (dss_one (ds_expr (wE (de_append (dp_n 3) (de_n 5))))))))
      (dss_one (ds_rt (de_n 3)))))⟩
theorem ok__law_colours (o : Ok a K mg) : FnOk P w K mg base CX0 2 a.f__law_colours a.fd__law_colours ["state", "count", "span"] (spOf K [.io, .val, .val] (D__law_colours )) :=
  fn_vs (N := ["state", "count", "span", "k"]) (k := 1) (d := b__law_colours ) [.io, .val, .val] o.F__law_colours sc__law_colours rfl (by decide) fun cdv A outer s H E hr => ⟨_, _, (dss_one (ds_rt (wE (lc_ (own := [("k", 3)]) rfl sc__law_colours.nd (wI (di_rg1 (by rfl) o.m_range (wA (da_cons (de_n 1) da_nil)))) (by refine blkOk_by (own := [("k", 3)]) ?_; first | (dsimp only [Cx.blk, compEnvC, cxOf, Cx.nox, envOfC]; decide +kernel) | rfl | with_unfolding_all rfl) (fun _ _ _ _ _ => ⟨_, (dg_n 3 sc__law_colours.nd)⟩) (fun _ _ _ _ _ => ⟨_, dts_nil⟩) (fun _ _ _ _ _ => ⟨_, (wE (de_call (ks := [.io 0, .val (.vw [2])]) (ok__law_draw o) (hr.mono (by decide)) (by rfl) o.g__law_draw o.F__law_draw.kp o.b__law_draw (wC (dc_io 0 (wC (dc_val (de_n 2) dc_nil))))))⟩)))))⟩
theorem ok__law_due (o : Ok a K mg) : FnOk P w K mg base CX0 2 a.f__law_due a.fd__law_due ["cloth_rows", "warp", "weft"] (spOf K [.val, .val, .val] (D__law_due )) :=
  fn_vs (N := ["cloth_rows", "warp", "weft", "front", "behind", "covered", "i", "j"]) (k := 1) (d := b__law_due ) [.val, .val, .val] o.F__law_due sc__law_due rfl (by decide) fun cdv A outer s H E hr => ⟨_, _, (dss_cons (ds_asg (wE (de_call (ks := [.val (.vw [0]), .val (.vw [1]), .val (.vw [2])]) (ok__law_picture o) (hr.mono (by decide)) (by rfl) o.g__law_picture o.F__law_picture.kp o.b__law_picture (wC (dc_val (de_n 0) (wC (dc_val (de_n 1) (wC (dc_val (de_n 2) dc_nil)))))))) (dg_n 3 sc__law_due.nd))
      (dss_cons (ds_asg (wE (de_call (ks := [.val .tmp, .val .tmp, .val (.vw [2])]) (ok__law_picture o) (hr.mono (by decide)) (by rfl) o.g__law_picture o.F__law_picture.kp o.b__law_picture (wC (dc_val (wE (de_call (ks := [.val (.vw [0])]) (ok__law_turned o) (hr.mono (by decide)) (by rfl) o.g__law_turned o.F__law_turned.kp o.b__law_turned (wC (dc_val (de_n 0) dc_nil)))) (wC (dc_val (wE (de_revA (de_n 1))) (wC (dc_val (de_n 2) dc_nil)))))))) (dg_n 4 sc__law_due.nd))
      (dss_cons (ds_asg (wE (de_lst da_nil)) (dg_n 5 sc__law_due.nd))
      (dss_cons (for_ PassesOwn.never rfl (wI (di_rg1 (by rfl) o.m_range (wA (da_cons (wE (de_callB (One.n len_ok) call_len (by rfl) o.m_len VS.boot_len (wA (da_cons (de_n 2) da_nil)))) da_nil)))) (dg_n 6 sc__law_due.nd) (dss_one (ds_expr (wE (de_extend (dp_n 5) (wE (lc_ (own := [("j", 7)]) rfl sc__law_due.nd (wI (di_rg1 (by rfl) o.m_range (wA (da_cons (wE (de_callB (One.n len_ok) call_len (by rfl) o.m_len VS.boot_len (wA (da_cons (de_n 1) da_nil)))) da_nil)))) (by refine blkOk_by (own := [("j", 7)]) ?_; first | (dsimp only [Cx.blk, compEnvC, cxOf, Cx.nox, envOfC]; decide +kernel) | rfl | with_unfolding_all rfl) (fun _ _ _ _ _ => ⟨_, (dg_n 7 sc__law_due.nd)⟩) (fun _ _ _ _ _ => ⟨_, (dts_one (wT (dt_cmp (op_eqA (huX hr)) eqd_ok (wE (de_ix (wE (de_ix (de_n 3) (de_n 6))) (de_n 7))) (wE (de_ix (wE (de_ix (de_n 4) (de_n 6))) (wE (de_bin op_sub oInt0_ok (wE (de_bin op_sub oInt0_ok (wE (de_callB (One.n len_ok) call_len (by rfl) o.m_len VS.boot_len (wA (da_cons (de_n 1) da_nil)))) de_int)) (de_n 7))))))))⟩) (fun _ _ _ _ _ => ⟨_, (wE (de_tup (wA (da_cons (de_n 6) (wA (da_cons (de_n 7) da_nil))))))⟩))))))))
      (dss_one (ds_rt (wE (de_lst (wA (da_cons (wE (de_callT (One.n tup_ok) call_tuple_of (by rfl) o.m_tuple VS.boot_tup (wA (da_cons (de_n 3) da_nil)))) (wA (da_cons (wE (de_callT (One.n tup_ok) call_tuple_of (by rfl) o.m_tuple VS.boot_tup (wA (da_cons (de_n 4) da_nil)))) (wA (da_cons (wE (de_callT (One.n tup_ok) call_tuple_of (by rfl) o.m_tuple VS.boot_tup (wA (da_cons (de_n 5) da_nil)))) da_nil))))))))))))))⟩
theorem ok__law_asked_face (o : Ok a K mg) : FnOk P w K mg base CX0 5 a.f__law_asked_face a.fd__law_asked_face ["cloth", "warp", "weft"] (spOf K [.val, .val, .val] (D__law_asked_face a.C_Cloth a.C_MillError a.C_BadColours a.C_TooLarge a.C_Mismatch)) :=
  fn_vs (N := ["cloth", "warp", "weft", "word", "told", "e"]) (k := 4) (d := b__law_asked_face a.C_Cloth a.C_MillError a.C_BadColours a.C_TooLarge a.C_Mismatch) [.val, .val, .val] o.F__law_asked_face sc__law_asked_face rfl (by decide) fun cdv A outer s H E hr => ⟨_, _, (dss_cons (ds_asg de_str (dg_n 3 sc__law_asked_face.nd))
      (dss_cons (ds_asg de_non (dg_n 4 sc__law_asked_face.nd))
      (dss_cons (ds_try [0, 1, 2, 3, 4, 5] o.ext_t o.ext_c takes0 (fun W1 pn xe tk po => ⟨_, (dss_one (ds_asg (wE (de_callX (ks := [.val (.vw [0]), .val (.vw [1]), .val (.vw [2])]) (ok_face o) (hr.mono (by decide)) (by rfl) o.g_face o.F_face.kp o.b_face (fun σ => passAt tk σ) (wC (dc_val (de_n 0) (wC (dc_val (de_n 1) (wC (dc_val (de_n 2) dc_nil)))))))) (dg_n 4 sc__law_asked_face.nd)))⟩) (DHs.as (by rfl) (by rfl) (by rfl) (by rfl) ⟨by rfl, by decide, .inl o.g_BadColours⟩ ⟨fun xC xa oe pn ec hz hf => ⟨_, _, (dss_one (ds_asg (wE (de_ix (wE (de_lst (wA (da_cons de_str (wA (da_cons de_str da_nil)))))) (wE (de_callT (One.n int_ok) call_int1 (by rfl) o.m_int VS.boot_int (wA (da_cons (wE (de_and (wE (de_callB (isx_ok o.isx_t) (call_xA ec hz hf) (by rfl) o.m_isinstance VS.boot_isi (wA (da_cons (de_n 5) (wA (da_cons (de_bltn (by rfl) o.m_ValueError VS.boot_vale (v := .ty "ValueError") rfl) da_nil)))))) (wE (de_one1 (wE (de_not (wE (de_callB (isx_ok o.isx_t) (call_xA ec hz hf) (by rfl) o.m_isinstance VS.boot_isi (wA (da_cons (de_n 5) (wA (da_cons (wE (de_tup (wA (da_cons (de_glob (by rfl) o.g_Mismatch (v := .ref a.C_Mismatch) rfl) (wA (da_cons (de_glob (by rfl) o.g_TooLarge (v := .ref a.C_TooLarge) rfl) da_nil)))))) da_nil)))))))))))) da_nil)))))) (dg_n 3 sc__law_asked_face.nd))), by rfl⟩⟩ (hi_hn__law_asked_face_3 a.C_Cloth a.C_MillError a.C_BadColours a.C_TooLarge a.C_Mismatch) (DHs.as (by rfl) (by rfl) (by rfl) (by rfl) ⟨by rfl, by decide, .inl o.g_Mismatch⟩ ⟨fun xC xa oe pn ec hz hf => ⟨_, _, (dss_one (ds_asg (wE (de_ix (wE (de_lst (wA (da_cons de_str (wA (da_cons de_str da_nil)))))) (wE (de_callT (One.n int_ok) call_int1 (by rfl) o.m_int VS.boot_int (wA (da_cons (wE (de_and (wE (de_callB (isx_ok o.isx_t) (call_xA ec hz hf) (by rfl) o.m_isinstance VS.boot_isi (wA (da_cons (de_n 5) (wA (da_cons (de_bltn (by rfl) o.m_ValueError VS.boot_vale (v := .ty "ValueError") rfl) da_nil)))))) (wE (de_one1 (wE (de_not (wE (de_callB (isx_ok o.isx_t) (call_xA ec hz hf) (by rfl) o.m_isinstance VS.boot_isi (wA (da_cons (de_n 5) (wA (da_cons (de_glob (by rfl) o.g_TooLarge (v := .ref a.C_TooLarge) rfl) da_nil)))))))))))) da_nil)))))) (dg_n 3 sc__law_asked_face.nd))), by rfl⟩⟩ (hi_hn__law_asked_face_2 a.C_Cloth a.C_MillError a.C_BadColours a.C_TooLarge a.C_Mismatch) (DHs.cons ⟨by rfl, by decide, .inl o.g_MillError⟩ ⟨fun xC xa oe pn ec hz hf => ⟨_, _, (dss_one (ds_asg de_str (dg_n 3 sc__law_asked_face.nd))), by rfl⟩⟩ (hi_hn__law_asked_face_1 a.C_Cloth a.C_MillError a.C_BadColours a.C_TooLarge a.C_Mismatch) DHs.nil))) sc__law_asked_face.nd)
      (dss_one (ds_rt (wE (de_lst (wA (da_cons (de_n 3) (wA (da_cons (de_n 4) da_nil)))))))))))⟩
theorem ok__law_asked_back (o : Ok a K mg) : FnOk P w K mg base CX0 5 a.f__law_asked_back a.fd__law_asked_back ["cloth", "warp", "weft"] (spOf K [.val, .val, .val] (D__law_asked_back a.C_Cloth a.C_MillError a.C_BadColours a.C_TooLarge a.C_Mismatch)) :=
  fn_vs (N := ["cloth", "warp", "weft", "word", "told", "e"]) (k := 4) (d := b__law_asked_back a.C_Cloth a.C_MillError a.C_BadColours a.C_TooLarge a.C_Mismatch) [.val, .val, .val] o.F__law_asked_back sc__law_asked_back rfl (by decide) fun cdv A outer s H E hr => ⟨_, _, (dss_cons (ds_asg de_str (dg_n 3 sc__law_asked_back.nd))
      (dss_cons (ds_asg de_non (dg_n 4 sc__law_asked_back.nd))
      (dss_cons (ds_try [0, 1, 2, 3, 4, 5] o.ext_t o.ext_c takes0 (fun W1 pn xe tk po => ⟨_, (dss_one (ds_asg (wE (de_callX (ks := [.val (.vw [0]), .val (.vw [1]), .val (.vw [2])]) (ok_back o) (hr.mono (by decide)) (by rfl) o.g_back o.F_back.kp o.b_back (fun σ => passAt tk σ) (wC (dc_val (de_n 0) (wC (dc_val (de_n 1) (wC (dc_val (de_n 2) dc_nil)))))))) (dg_n 4 sc__law_asked_back.nd)))⟩) (DHs.as (by rfl) (by rfl) (by rfl) (by rfl) ⟨by rfl, by decide, .inl o.g_BadColours⟩ ⟨fun xC xa oe pn ec hz hf => ⟨_, _, (dss_one (ds_asg (wE (de_ix (wE (de_lst (wA (da_cons de_str (wA (da_cons de_str da_nil)))))) (wE (de_callT (One.n int_ok) call_int1 (by rfl) o.m_int VS.boot_int (wA (da_cons (wE (de_and (wE (de_callB (isx_ok o.isx_t) (call_xA ec hz hf) (by rfl) o.m_isinstance VS.boot_isi (wA (da_cons (de_n 5) (wA (da_cons (de_bltn (by rfl) o.m_ValueError VS.boot_vale (v := .ty "ValueError") rfl) da_nil)))))) (wE (de_one1 (wE (de_not (wE (de_callB (isx_ok o.isx_t) (call_xA ec hz hf) (by rfl) o.m_isinstance VS.boot_isi (wA (da_cons (de_n 5) (wA (da_cons (wE (de_tup (wA (da_cons (de_glob (by rfl) o.g_Mismatch (v := .ref a.C_Mismatch) rfl) (wA (da_cons (de_glob (by rfl) o.g_TooLarge (v := .ref a.C_TooLarge) rfl) da_nil)))))) da_nil)))))))))))) da_nil)))))) (dg_n 3 sc__law_asked_back.nd))), by rfl⟩⟩ (hi_hn__law_asked_back_3 a.C_Cloth a.C_MillError a.C_BadColours a.C_TooLarge a.C_Mismatch) (DHs.as (by rfl) (by rfl) (by rfl) (by rfl) ⟨by rfl, by decide, .inl o.g_Mismatch⟩ ⟨fun xC xa oe pn ec hz hf => ⟨_, _, (dss_one (ds_asg (wE (de_ix (wE (de_lst (wA (da_cons de_str (wA (da_cons de_str da_nil)))))) (wE (de_callT (One.n int_ok) call_int1 (by rfl) o.m_int VS.boot_int (wA (da_cons (wE (de_and (wE (de_callB (isx_ok o.isx_t) (call_xA ec hz hf) (by rfl) o.m_isinstance VS.boot_isi (wA (da_cons (de_n 5) (wA (da_cons (de_bltn (by rfl) o.m_ValueError VS.boot_vale (v := .ty "ValueError") rfl) da_nil)))))) (wE (de_one1 (wE (de_not (wE (de_callB (isx_ok o.isx_t) (call_xA ec hz hf) (by rfl) o.m_isinstance VS.boot_isi (wA (da_cons (de_n 5) (wA (da_cons (de_glob (by rfl) o.g_TooLarge (v := .ref a.C_TooLarge) rfl) da_nil)))))))))))) da_nil)))))) (dg_n 3 sc__law_asked_back.nd))), by rfl⟩⟩ (hi_hn__law_asked_back_2 a.C_Cloth a.C_MillError a.C_BadColours a.C_TooLarge a.C_Mismatch) (DHs.cons ⟨by rfl, by decide, .inl o.g_MillError⟩ ⟨fun xC xa oe pn ec hz hf => ⟨_, _, (dss_one (ds_asg de_str (dg_n 3 sc__law_asked_back.nd))), by rfl⟩⟩ (hi_hn__law_asked_back_1 a.C_Cloth a.C_MillError a.C_BadColours a.C_TooLarge a.C_Mismatch) DHs.nil))) sc__law_asked_back.nd)
      (dss_one (ds_rt (wE (de_lst (wA (da_cons (de_n 3) (wA (da_cons (de_n 4) da_nil)))))))))))⟩
theorem ok__law_asked_hidden (o : Ok a K mg) : FnOk P w K mg base CX0 5 a.f__law_asked_hidden a.fd__law_asked_hidden ["cloth", "warp", "weft"] (spOf K [.val, .val, .val] (D__law_asked_hidden a.C_Cloth a.C_MillError a.C_BadColours a.C_TooLarge a.C_Mismatch)) :=
  fn_vs (N := ["cloth", "warp", "weft", "word", "told", "e"]) (k := 4) (d := b__law_asked_hidden a.C_Cloth a.C_MillError a.C_BadColours a.C_TooLarge a.C_Mismatch) [.val, .val, .val] o.F__law_asked_hidden sc__law_asked_hidden rfl (by decide) fun cdv A outer s H E hr => ⟨_, _, (dss_cons (ds_asg de_str (dg_n 3 sc__law_asked_hidden.nd))
      (dss_cons (ds_asg de_non (dg_n 4 sc__law_asked_hidden.nd))
      (dss_cons (ds_try [0, 1, 2, 3, 4, 5] o.ext_t o.ext_c takes0 (fun W1 pn xe tk po => ⟨_, (dss_one (ds_asg (wE (de_callX (ks := [.val (.vw [0]), .val (.vw [1]), .val (.vw [2])]) (ok_hidden o) (hr.mono (by decide)) (by rfl) o.g_hidden o.F_hidden.kp o.b_hidden (fun σ => passAt tk σ) (wC (dc_val (de_n 0) (wC (dc_val (de_n 1) (wC (dc_val (de_n 2) dc_nil)))))))) (dg_n 4 sc__law_asked_hidden.nd)))⟩) (DHs.as (by rfl) (by rfl) (by rfl) (by rfl) ⟨by rfl, by decide, .inl o.g_BadColours⟩ ⟨fun xC xa oe pn ec hz hf => ⟨_, _, (dss_one (ds_asg (wE (de_ix (wE (de_lst (wA (da_cons de_str (wA (da_cons de_str da_nil)))))) (wE (de_callT (One.n int_ok) call_int1 (by rfl) o.m_int VS.boot_int (wA (da_cons (wE (de_and (wE (de_callB (isx_ok o.isx_t) (call_xA ec hz hf) (by rfl) o.m_isinstance VS.boot_isi (wA (da_cons (de_n 5) (wA (da_cons (de_bltn (by rfl) o.m_ValueError VS.boot_vale (v := .ty "ValueError") rfl) da_nil)))))) (wE (de_one1 (wE (de_not (wE (de_callB (isx_ok o.isx_t) (call_xA ec hz hf) (by rfl) o.m_isinstance VS.boot_isi (wA (da_cons (de_n 5) (wA (da_cons (wE (de_tup (wA (da_cons (de_glob (by rfl) o.g_Mismatch (v := .ref a.C_Mismatch) rfl) (wA (da_cons (de_glob (by rfl) o.g_TooLarge (v := .ref a.C_TooLarge) rfl) da_nil)))))) da_nil)))))))))))) da_nil)))))) (dg_n 3 sc__law_asked_hidden.nd))), by rfl⟩⟩ (hi_hn__law_asked_hidden_3 a.C_Cloth a.C_MillError a.C_BadColours a.C_TooLarge a.C_Mismatch) (DHs.as (by rfl) (by rfl) (by rfl) (by rfl) ⟨by rfl, by decide, .inl o.g_Mismatch⟩ ⟨fun xC xa oe pn ec hz hf => ⟨_, _, (dss_one (ds_asg (wE (de_ix (wE (de_lst (wA (da_cons de_str (wA (da_cons de_str da_nil)))))) (wE (de_callT (One.n int_ok) call_int1 (by rfl) o.m_int VS.boot_int (wA (da_cons (wE (de_and (wE (de_callB (isx_ok o.isx_t) (call_xA ec hz hf) (by rfl) o.m_isinstance VS.boot_isi (wA (da_cons (de_n 5) (wA (da_cons (de_bltn (by rfl) o.m_ValueError VS.boot_vale (v := .ty "ValueError") rfl) da_nil)))))) (wE (de_one1 (wE (de_not (wE (de_callB (isx_ok o.isx_t) (call_xA ec hz hf) (by rfl) o.m_isinstance VS.boot_isi (wA (da_cons (de_n 5) (wA (da_cons (de_glob (by rfl) o.g_TooLarge (v := .ref a.C_TooLarge) rfl) da_nil)))))))))))) da_nil)))))) (dg_n 3 sc__law_asked_hidden.nd))), by rfl⟩⟩ (hi_hn__law_asked_hidden_2 a.C_Cloth a.C_MillError a.C_BadColours a.C_TooLarge a.C_Mismatch) (DHs.cons ⟨by rfl, by decide, .inl o.g_MillError⟩ ⟨fun xC xa oe pn ec hz hf => ⟨_, _, (dss_one (ds_asg de_str (dg_n 3 sc__law_asked_hidden.nd))), by rfl⟩⟩ (hi_hn__law_asked_hidden_1 a.C_Cloth a.C_MillError a.C_BadColours a.C_TooLarge a.C_Mismatch) DHs.nil))) sc__law_asked_hidden.nd)
      (dss_one (ds_rt (wE (de_lst (wA (da_cons (de_n 3) (wA (da_cons (de_n 4) da_nil)))))))))))⟩
theorem ok__law_handed (o : Ok a K mg) : FnOk P w K mg base CX0 1 a.f__law_handed a.fd__law_handed ["warp", "weft", "turn"] (spOf K [.val, .val, .val] (D__law_handed )) :=
  fn_vs (N := ["warp", "weft", "turn"]) (k := 0) (d := b__law_handed ) [.val, .val, .val] o.F__law_handed sc__law_handed rfl (by decide) fun cdv A outer s H E hr => ⟨_, _, (dss_one (ds_rt (wE (de_lst (wA (da_cons (wE (de_ix (wE (de_lst (wA (da_cons (wE (de_callT (One.n list_ok) call_list_of (by rfl) o.m_list VS.boot_lst (wA (da_cons (de_n 0) da_nil)))) (wA (da_cons (wE (de_callT (One.n tup_ok) call_tuple_of (by rfl) o.m_tuple VS.boot_tup (wA (da_cons (de_n 0) da_nil)))) da_nil)))))) (wE (de_bin op_mod oMod_ok (wE (de_callT (One.n int_ok) call_int1 (by rfl) o.m_int VS.boot_int (wA (da_cons (de_n 2) da_nil)))) de_int)))) (wA (da_cons (wE (de_ix (wE (de_lst (wA (da_cons (wE (de_callT (One.n list_ok) call_list_of (by rfl) o.m_list VS.boot_lst (wA (da_cons (de_n 1) da_nil)))) (wA (da_cons (wE (de_callT (One.n tup_ok) call_tuple_of (by rfl) o.m_tuple VS.boot_tup (wA (da_cons (de_n 1) da_nil)))) da_nil)))))) (wE (de_bin op_mod oMod_ok (wE (de_callT (One.n int_ok) call_int1 (by rfl) o.m_int VS.boot_int (wA (da_cons (wE (de_bin op_fdivW oDiv_ok (de_n 2) de_int)) da_nil)))) de_int)))) da_nil))))))))⟩
theorem ok__law_answers (o : Ok a K mg) : FnOk P w K mg base CX0 6 a.f__law_answers a.fd__law_answers ["cloth", "warp", "weft", "turn"] (spOf K [.val, .val, .val, .val] (D__law_answers a.C_Cloth a.C_MillError a.C_BadColours a.C_TooLarge a.C_Mismatch)) :=
  fn_vs (N := ["cloth", "warp", "weft", "turn", "told", "step", "which"]) (k := 5) (d := b__law_answers a.C_Cloth a.C_MillError a.C_BadColours a.C_TooLarge a.C_Mismatch) [.val, .val, .val, .val] o.F__law_answers sc__law_answers rfl (by decide) fun cdv A outer s H E hr => ⟨_, _, (dss_cons (ds_asg (wE (de_lst (wA (da_cons de_non (wA (da_cons de_non (wA (da_cons de_non da_nil)))))))) (dg_n 4 sc__law_answers.nd))
      (dss_cons (for_ PassesOwn.never rfl (wI (di_rg1 (by rfl) o.m_range (wA (da_cons de_int da_nil)))) (dg_n 5 sc__law_answers.nd) (dss_cons (ds_asg (wE (de_bin op_mod oMod_ok (wE (de_callT (One.n int_ok) call_int1 (by rfl) o.m_int VS.boot_int (wA (da_cons (wE (de_bin op_addA oAdd_ok (de_n 5) (de_n 3))) da_nil)))) de_int)) (dg_n 6 sc__law_answers.nd))
      (dss_cons (ds_if (wT (dt_cmp (op_eqA (huX hr)) eqd_ok (de_n 6) de_int)) (dss_one (ds_setix (wE (de_call (ks := [.val (.vw [0]), .val (.vw [1]), .val (.vw [2])]) (ok__law_asked_face o) (hr.mono (by decide)) (by rfl) o.g__law_asked_face o.F__law_asked_face.kp o.b__law_asked_face (wC (dc_val (de_n 0) (wC (dc_val (de_n 1) (wC (dc_val (de_n 2) dc_nil)))))))) (dp_n 4) de_int)) dss_nil)
      (dss_cons (ds_if (wT (dt_cmp (op_eqA (huX hr)) eqd_ok (de_n 6) de_int)) (dss_one (ds_setix (wE (de_call (ks := [.val (.vw [0]), .val (.vw [1]), .val (.vw [2])]) (ok__law_asked_back o) (hr.mono (by decide)) (by rfl) o.g__law_asked_back o.F__law_asked_back.kp o.b__law_asked_back (wC (dc_val (de_n 0) (wC (dc_val (de_n 1) (wC (dc_val (de_n 2) dc_nil)))))))) (dp_n 4) de_int)) dss_nil)
      (dss_one (ds_if (wT (dt_cmp (op_eqA (huX hr)) eqd_ok (de_n 6) de_int)) (dss_one (ds_setix (wE (de_call (ks := [.val (.vw [0]), .val (.vw [1]), .val (.vw [2])]) (ok__law_asked_hidden o) (hr.mono (by decide)) (by rfl) o.g__law_asked_hidden o.F__law_asked_hidden.kp o.b__law_asked_hidden (wC (dc_val (de_n 0) (wC (dc_val (de_n 1) (wC (dc_val (de_n 2) dc_nil)))))))) (dp_n 4) de_int)) dss_nil))))))
      (dss_one (ds_rt (de_n 4)))))⟩
theorem ok__law_answered (o : Ok a K mg) : FnOk P w K mg base CX0 7 a.f__law_answered a.fd__law_answered ["cloth", "cloth_rows", "warp", "weft", "turn"] (spOf K [.val, .val, .val, .val, .val] (D__law_answered a.C_Cloth a.C_MillError a.C_BadColours a.C_TooLarge a.C_Mismatch)) :=
  fn_vs (N := ["cloth", "cloth_rows", "warp", "weft", "turn", "due", "given", "answers", "k"]) (k := 6) (d := b__law_answered a.C_Cloth a.C_MillError a.C_BadColours a.C_TooLarge a.C_Mismatch) [.val, .val, .val, .val, .val] o.F__law_answered sc__law_answered rfl (by decide) fun cdv A outer s H E hr => ⟨_, _, (dss_cons (ds_asg (wE (de_call (ks := [.val (.vw [1]), .val (.vw [2]), .val (.vw [3])]) (ok__law_due o) (hr.mono (by decide)) (by rfl) o.g__law_due o.F__law_due.kp o.b__law_due (wC (dc_val (de_n 1) (wC (dc_val (de_n 2) (wC (dc_val (de_n 3) dc_nil)))))))) (dg_n 5 sc__law_answered.nd))
      (dss_cons (ds_asg (wE (de_call (ks := [.val (.vw [2]), .val (.vw [3]), .val (.vw [4])]) (ok__law_handed o) (hr.mono (by decide)) (by rfl) o.g__law_handed o.F__law_handed.kp o.b__law_handed (wC (dc_val (de_n 2) (wC (dc_val (de_n 3) (wC (dc_val (de_n 4) dc_nil)))))))) (dg_n 6 sc__law_answered.nd))
      (dss_cons (ds_asg (wE (de_call (ks := [.val (.vw [0]), .val (.vw [6]), .val (.vw [6]), .val (.vw [4])]) (ok__law_answers o) (hr.mono (by decide)) (by rfl) o.g__law_answers o.F__law_answers.kp o.b__law_answers (wC (dc_val (de_n 0) (wC (dc_val (wE (de_ix (de_n 6) de_int)) (wC (dc_val (wE (de_ix (de_n 6) de_int)) (wC (dc_val (de_n 4) dc_nil)))))))))) (dg_n 7 sc__law_answered.nd))
      (dss_cons (for_ PassesOwn.never rfl (wI (di_rg1 (by rfl) o.m_range (wA (da_cons de_int da_nil)))) (dg_n 8 sc__law_answered.nd) (dss_one (ds_if (wT (DW.dt (dw_or (wT (dt_cmp (op_neA (huX hr)) ned_ok (wE (de_ix (wE (de_ix (de_n 7) (de_n 8))) de_int)) de_str)) (dw_or1 (wT (dt_not (wT (dt_t (wE (de_call (ks := [.val (.vw [7]), .val (.vw [5])]) (ok__law_same o 3) (hr.mono (by decide)) (by rfl) o.g__law_same o.F__law_same.kp o.b__law_same (wC (dc_val (wE (de_ix (wE (de_ix (de_n 7) (de_n 8))) de_int)) (wC (dc_val (wE (de_ix (de_n 5) (de_n 8))) dc_nil)))))))))))))) (dss_one (ds_rt de_bl)) dss_nil)))
      (dss_cons (ds_if (wT (DW.dt (dw_or (wT (dt_cmp (op_neA (huX hr)) ned_ok (wE (de_callT (One.n list_ok) call_list_of (by rfl) o.m_list VS.boot_lst (wA (da_cons (wE (de_ix (de_n 6) de_int)) da_nil)))) (wE (de_callT (One.n list_ok) call_list_of (by rfl) o.m_list VS.boot_lst (wA (da_cons (de_n 2) da_nil)))))) (dw_or1 (wT (dt_cmp (op_neA (huX hr)) ned_ok (wE (de_callT (One.n list_ok) call_list_of (by rfl) o.m_list VS.boot_lst (wA (da_cons (wE (de_ix (de_n 6) de_int)) da_nil)))) (wE (de_callT (One.n list_ok) call_list_of (by rfl) o.m_list VS.boot_lst (wA (da_cons (de_n 3) da_nil)))))))))) (dss_one (ds_rt de_bl)) dss_nil)
      (dss_one (ds_rt (wE (de_cmp (op_eqA (huX hr)) eqd_ok (wE (de_call (ks := [.val (.vw [0])]) (ok__law_rows_told o) (hr.mono (by decide)) (by rfl) o.g__law_rows_told o.F__law_rows_told.kp o.b__law_rows_told (wC (dc_val (de_n 0) dc_nil)))) (wE (de_callT (One.n list_ok) call_list_of (by rfl) o.m_list VS.boot_lst (wA (da_cons (de_n 1) da_nil)))))))))))))⟩
theorem ok__law_shows (o : Ok a K mg) : FnOk P w K mg base CX0 8 a.f__law_shows a.fd__law_shows ["cloth_rows", "warp", "weft", "turn"] (spOf K [.val, .val, .val, .val] (D__law_shows a.C_Cloth a.C_MillError a.C_BadColours a.C_TooLarge a.C_Mismatch)) :=
  fn_vs (N := ["cloth_rows", "warp", "weft", "turn", "cloth", "behind", "seen", "colour"]) (k := 7) (d := b__law_shows a.C_Cloth a.C_MillError a.C_BadColours a.C_TooLarge a.C_Mismatch) [.val, .val, .val, .val] o.F__law_shows sc__law_shows rfl (by decide) fun cdv A outer s H E hr => ⟨_, _, (dss_cons (ds_asg (wE (de_make (ks := [.val .tmp]) true o.mk_Cloth (ok_Cloth___init__ o) (hr.mono (by decide)) (by rfl) o.g_Cloth o.b_Cloth___init__ (wC (dc_val (wE (de_callT (One.n list_ok) call_list_of (by rfl) o.m_list VS.boot_lst (wA (da_cons (de_n 0) da_nil)))) dc_nil)))) (dg_n 4 sc__law_shows.nd))
      (dss_cons (ds_if (wT (dt_not (wT (dt_t (wE (de_call (ks := [.val (.vw [4]), .val (.vw [0]), .val (.vw [1]), .val (.vw [2]), .val (.vw [3])]) (ok__law_answered o) (hr.mono (by decide)) (by rfl) o.g__law_answered o.F__law_answered.kp o.b__law_answered (wC (dc_val (de_n 4) (wC (dc_val (de_n 0) (wC (dc_val (de_n 1) (wC (dc_val (de_n 2) (wC (dc_val (de_n 3) dc_nil)))))))))))))))) (dss_one (ds_rt de_bl)) dss_nil)
      (dss_cons (ds_if (wT (dt_cmp op_leA cmpd_ok (wE (de_bin op_mulA oMul_ok (wE (de_callB (One.n len_ok) call_len (by rfl) o.m_len VS.boot_len (wA (da_cons (de_n 1) da_nil)))) (wE (de_callB (One.n len_ok) call_len (by rfl) o.m_len VS.boot_len (wA (da_cons (de_n 2) da_nil)))))) de_int)) (dss_one (ds_if (wT (dt_not (wT (dt_t (wE (de_call (ks := [.val (.vw [4]), .val (.vw [0]), .val .tmp, .val (.vw [2]), .val .tmp]) (ok__law_answered o) (hr.mono (by decide)) (by rfl) o.g__law_answered o.F__law_answered.kp o.b__law_answered (wC (dc_val (de_n 4) (wC (dc_val (de_n 0) (wC (dc_val (wE (lc_ (own := [("colour", 7)]) rfl sc__law_shows.nd (wI (di_any (de_n 1))) (by refine blkOk_by (own := [("colour", 7)]) ?_; first | (dsimp only [Cx.blk, compEnvC, cxOf, Cx.nox, envOfC]; decide +kernel) | rfl | with_unfolding_all rfl) (fun _ _ _ _ _ => ⟨_, (dg_n 7 sc__law_shows.nd)⟩) (fun _ _ _ _ _ => ⟨_, dts_nil⟩) (fun _ _ _ _ _ => ⟨_, (wE (de_bin op_sub oInt0_ok de_int (de_n 7)))⟩))) (wC (dc_val (de_n 2) (wC (dc_val (wE (de_bin op_addA oAdd_ok (de_n 3) de_int)) dc_nil)))))))))))))))) (dss_one (ds_rt de_bl)) dss_nil)) dss_nil)
      (dss_cons (ds_asg (wE (de_call (ks := [.val .tmp, .val .tmp, .val (.vw [2])]) (ok__law_picture o) (hr.mono (by decide)) (by rfl) o.g__law_picture o.F__law_picture.kp o.b__law_picture (wC (dc_val (wE (de_call (ks := [.val (.vw [0])]) (ok__law_turned o) (hr.mono (by decide)) (by rfl) o.g__law_turned o.F__law_turned.kp o.b__law_turned (wC (dc_val (de_n 0) dc_nil)))) (wC (dc_val (wE (de_revA (de_n 1))) (wC (dc_val (de_n 2) dc_nil)))))))) (dg_n 5 sc__law_shows.nd))
      (dss_cons (ds_asg (wE (de_call (ks := [.val .tmp, .val .tmp, .val .tmp]) (ok__law_asked_face o) (hr.mono (by decide)) (by rfl) o.g__law_asked_face o.F__law_asked_face.kp o.b__law_asked_face (wC (dc_val (wE (de_call (ks := [.val (.vw [4])]) (ok_turned_over o) (hr.mono (by decide)) (by rfl) o.g_turned_over o.F_turned_over.kp o.b_turned_over (wC (dc_val (de_n 4) dc_nil)))) (wC (dc_val (wE (de_callT (One.n tup_ok) call_tuple_of (by rfl) o.m_tuple VS.boot_tup (wA (da_cons (wE (de_revA (de_n 1))) da_nil)))) (wC (dc_val (wE (de_callT (One.n list_ok) call_list_of (by rfl) o.m_list VS.boot_lst (wA (da_cons (de_n 2) da_nil)))) dc_nil)))))))) (dg_n 6 sc__law_shows.nd))
      (dss_one (ds_rt (wE (de_and (wE (de_cmp (op_eqA (huX hr)) eqd_ok (wE (de_ix (de_n 6) de_int)) de_str)) (wE (de_one1 (wE (de_call (ks := [.val (.vw [6]), .val .tmp]) (ok__law_same o 3) (hr.mono (by decide)) (by rfl) o.g__law_same o.F__law_same.kp o.b__law_same (wC (dc_val (wE (de_ix (de_n 6) de_int)) (wC (dc_val (wE (de_callT (One.n tup_ok) call_tuple_of (by rfl) o.m_tuple VS.boot_tup (wA (da_cons (de_n 5) da_nil)))) dc_nil)))))))))))))))))⟩
theorem ok__law_spoilt (o : Ok a K mg) : FnOk P w K mg base CX0 2 a.f__law_spoilt a.fd__law_spoilt ["state", "colours"] (spOf K [.io, .val] (D__law_spoilt )) :=
  fn_vs (N := ["state", "colours", "kind", "told", "at", "more"]) (k := 1) (d := b__law_spoilt ) [.io, .val] o.F__law_spoilt sc__law_spoilt rfl (by decide) fun cdv A outer s H E hr => ⟨_, _, (dss_cons (ds_asg (wE (de_call (ks := [.io 0, .val .tmp]) (ok__law_draw o) (hr.mono (by decide)) (by rfl) o.g__law_draw o.F__law_draw.kp o.b__law_draw (wC (dc_io 0 (wC (dc_val de_int dc_nil)))))) (dg_n 2 sc__law_spoilt.nd))
      (dss_cons (ds_asg (wE (de_callT (One.n list_ok) call_list_of (by rfl) o.m_list VS.boot_lst (wA (da_cons (de_n 1) da_nil)))) (dg_n 3 sc__law_spoilt.nd))
      (dss_cons (ds_if (wT (dt_cmp (op_eqA (huX hr)) eqd_ok (de_n 2) de_int)) (dss_cons (ds_asg (wE (de_call (ks := [.io 0, .val .tmp]) (ok__law_draw o) (hr.mono (by decide)) (by rfl) o.g__law_draw o.F__law_draw.kp o.b__law_draw (wC (dc_io 0 (wC (dc_val (wE (de_callB (One.n len_ok) call_len (by rfl) o.m_len VS.boot_len (wA (da_cons (de_n 3) da_nil)))) dc_nil)))))) (dg_n 4 sc__law_spoilt.nd))
      (dss_cons (ds_asg (wE (de_call (ks := [.io 0, .val .tmp]) (ok__law_draw o) (hr.mono (by decide)) (by rfl) o.g__law_draw o.F__law_draw.kp o.b__law_draw (wC (dc_io 0 (wC (dc_val (wE (de_bin op_pow oPow_ok de_int de_int)) dc_nil)))))) (dg_n 5 sc__law_spoilt.nd))
      (dss_one (ds_setix (wE (de_ix (wE (de_lst (wA (da_cons de_int (wA (da_cons (wE (de_neg de_int)) (wA (da_cons (wE (de_neg de_int)) (wA (da_cons (wE (de_bin op_addA oAdd_ok de_int (de_n 5))) (wA (da_cons (wE (de_bin op_sub oInt0_ok (wE (de_neg de_int)) (de_n 5))) (wA (da_cons (wE (de_bin op_pow oPow_ok de_int de_int)) (wA (da_cons (wE (de_bin op_sub oInt0_ok de_int (wE (de_bin op_pow oPow_ok de_int de_int)))) da_nil)))))))))))))))) (wE (de_call (ks := [.io 0, .val .tmp]) (ok__law_draw o) (hr.mono (by decide)) (by rfl) o.g__law_draw o.F__law_draw.kp o.b__law_draw (wC (dc_io 0 (wC (dc_val de_int dc_nil)))))))) (dp_n 3) (de_n 4))))) dss_nil)
      (dss_cons (ds_if (wT (dt_cmp (op_eqA (huX hr)) eqd_ok (de_n 2) de_int)) (dss_one (ds_asg (wE (de_lst da_nil)) (dg_n 3 sc__law_spoilt.nd))) dss_nil)
      (dss_cons (ds_if (wT (dt_cmp (op_eqA (huX hr)) eqd_ok (de_n 2) de_int)) (dss_one (ds_asg (wE (s01_ (wE (de_bin op_mulA oMul_ok (de_n 3) de_int)) (wE (de_bin op_addA oAdd_ok de_int (wE (de_call (ks := [.io 0, .val .tmp]) (ok__law_draw o) (hr.mono (by decide)) (by rfl) o.g__law_draw o.F__law_draw.kp o.b__law_draw (wC (dc_io 0 (wC (dc_val de_int dc_nil)))))))))) (dg_n 3 sc__law_spoilt.nd))) dss_nil)
      (dss_cons (ds_if (wT (dt_cmp (op_eqA (huX hr)) eqd_ok (de_n 2) de_int)) (dss_one (ds_asg (wE (s01_ (wE (de_bin op_mulA oMul_ok (de_n 3) de_int)) de_int)) (dg_n 3 sc__law_spoilt.nd))) dss_nil)
      (dss_cons (ds_if (wT (dt_cmp (op_eqA (huX hr)) eqd_ok (de_n 2) de_int)) (dss_one (ds_expr (wE (de_append (dp_n 3) (wE (de_call (ks := [.io 0, .val .tmp]) (ok__law_draw o) (hr.mono (by decide)) (by rfl) o.g__law_draw o.F__law_draw.kp o.b__law_draw (wC (dc_io 0 (wC (dc_val de_int dc_nil)))))))))) dss_nil)
      (dss_cons (ds_if (wT (dt_cmp (op_eqA (huX hr)) eqd_ok (de_n 2) de_int)) (dss_one (ds_asg (wE (s10_ (de_n 3) de_int)) (dg_n 3 sc__law_spoilt.nd))) dss_nil)
      (dss_one (ds_rt (de_n 3)))))))))))⟩
theorem ok__law_word_due (o : Ok a K mg) : FnOk P w K mg base CX0 1 a.f__law_word_due a.fd__law_word_due ["h", "w", "warp", "weft"] (spOf K [.val, .val, .val, .val] (D__law_word_due )) :=
  fn_vs (N := ["h", "w", "warp", "weft", "one", "colour"]) (k := 0) (d := b__law_word_due ) [.val, .val, .val, .val] o.F__law_word_due sc__law_word_due rfl (by decide) fun cdv A outer s H E hr => ⟨_, _, (dss_cons (for_ PassesOwn.never rfl (wI (di_any (wE (de_tup (wA (da_cons (de_n 2) (wA (da_cons (de_n 3) da_nil)))))))) (dg_n 4 sc__law_word_due.nd) (dss_one (ds_if (wT (DW.dt (dw_or (wT (dt_not (wT (dt_chn op_leA cmpd_ok op_leA cmpd_ok de_int (wE (de_callB (One.n len_ok) call_len (by rfl) o.m_len VS.boot_len (wA (da_cons (de_n 4) da_nil)))) de_int)))) (dw_or1 (wT (dt_cmp op_gtA cmpd_ok (wE (de_callB (One.n len_ok) call_len (by rfl) o.m_len VS.boot_len (wA (da_cons (wE (lc_ (own := [("colour", 5)]) rfl sc__law_word_due.nd (wI (di_any (de_n 4))) (by refine blkOk_by (own := [("colour", 5)]) ?_; first | (dsimp only [Cx.blk, compEnvC, cxOf, Cx.nox, envOfC]; decide +kernel) | rfl | with_unfolding_all rfl) (fun _ _ _ _ _ => ⟨_, (dg_n 5 sc__law_word_due.nd)⟩) (fun _ _ _ _ _ => ⟨_, (dts_one (wT (dt_not (wT (dt_chn op_leA cmpd_ok op_leA cmpd_ok de_int (de_n 5) de_int)))))⟩) (fun _ _ _ _ _ => ⟨_, de_int⟩))) da_nil)))) de_int)))))) (dss_one (ds_rt de_str)) dss_nil)))
      (dss_cons (ds_if (wT (DW.dt (dw_or (wT (dt_cmp (op_neA (huX hr)) ned_ok (wE (de_callB (One.n len_ok) call_len (by rfl) o.m_len VS.boot_len (wA (da_cons (de_n 2) da_nil)))) (de_n 1))) (dw_or1 (wT (dt_cmp (op_neA (huX hr)) ned_ok (wE (de_callB (One.n len_ok) call_len (by rfl) o.m_len VS.boot_len (wA (da_cons (de_n 3) da_nil)))) (de_n 0))))))) (dss_one (ds_rt de_str)) dss_nil)
      (dss_one (ds_rt de_str))))⟩
theorem ok__law_refused (o : Ok a K mg) : FnOk P w K mg base CX0 9 a.f__law_refused a.fd__law_refused ["cloth_rows", "warp", "weft", "right", "turn"] (spOf K [.val, .val, .val, .val, .val] (D__law_refused a.C_Cloth a.C_MillError a.C_BadColours a.C_TooLarge a.C_Mismatch)) :=
  fn_vs (N := ["cloth_rows", "warp", "weft", "right", "turn", "word", "cloth", "given", "answers", "k"]) (k := 8) (d := b__law_refused a.C_Cloth a.C_MillError a.C_BadColours a.C_TooLarge a.C_Mismatch) [.val, .val, .val, .val, .val] o.F__law_refused sc__law_refused rfl (by decide) fun cdv A outer s H E hr => ⟨_, _, (dss_cons (ds_asg (wE (de_call (ks := [.val .tmp, .val .tmp, .val (.vw [1]), .val (.vw [2])]) (ok__law_word_due o) (hr.mono (by decide)) (by rfl) o.g__law_word_due o.F__law_word_due.kp o.b__law_word_due (wC (dc_val (wE (de_callB (One.n len_ok) call_len (by rfl) o.m_len VS.boot_len (wA (da_cons (de_n 0) da_nil)))) (wC (dc_val (wE (de_callB (One.n len_ok) call_len (by rfl) o.m_len VS.boot_len (wA (da_cons (wE (de_ix (de_n 0) de_int)) da_nil)))) (wC (dc_val (de_n 1) (wC (dc_val (de_n 2) dc_nil)))))))))) (dg_n 5 sc__law_refused.nd))
      (dss_cons (ds_if (wT (dt_cmp (op_eqA (huX hr)) eqd_ok (de_n 5) de_str)) (dss_one (ds_rt (wE (de_call (ks := [.val (.vw [0]), .val (.vw [1]), .val (.vw [2]), .val (.vw [4])]) (ok__law_shows o) (hr.mono (by decide)) (by rfl) o.g__law_shows o.F__law_shows.kp o.b__law_shows (wC (dc_val (de_n 0) (wC (dc_val (de_n 1) (wC (dc_val (de_n 2) (wC (dc_val (de_n 4) dc_nil)))))))))))) dss_nil)
      (dss_cons (ds_asg (wE (de_make (ks := [.val .tmp]) true o.mk_Cloth (ok_Cloth___init__ o) (hr.mono (by decide)) (by rfl) o.g_Cloth o.b_Cloth___init__ (wC (dc_val (wE (de_callT (One.n tup_ok) call_tuple_of (by rfl) o.m_tuple VS.boot_tup (wA (da_cons (de_n 0) da_nil)))) dc_nil)))) (dg_n 6 sc__law_refused.nd))
      (dss_cons (ds_asg (wE (de_call (ks := [.val (.vw [1]), .val (.vw [2]), .val (.vw [4])]) (ok__law_handed o) (hr.mono (by decide)) (by rfl) o.g__law_handed o.F__law_handed.kp o.b__law_handed (wC (dc_val (de_n 1) (wC (dc_val (de_n 2) (wC (dc_val (de_n 4) dc_nil)))))))) (dg_n 7 sc__law_refused.nd))
      (dss_cons (ds_asg (wE (de_call (ks := [.val (.vw [6]), .val (.vw [7]), .val (.vw [7]), .val (.vw [4])]) (ok__law_answers o) (hr.mono (by decide)) (by rfl) o.g__law_answers o.F__law_answers.kp o.b__law_answers (wC (dc_val (de_n 6) (wC (dc_val (wE (de_ix (de_n 7) de_int)) (wC (dc_val (wE (de_ix (de_n 7) de_int)) (wC (dc_val (de_n 4) dc_nil)))))))))) (dg_n 8 sc__law_refused.nd))
      (dss_cons (for_ PassesOwn.never rfl (wI (di_rg1 (by rfl) o.m_range (wA (da_cons de_int da_nil)))) (dg_n 9 sc__law_refused.nd) (dss_one (ds_if (wT (dt_cmp (op_neA (huX hr)) ned_ok (wE (de_ix (wE (de_ix (de_n 8) (de_n 9))) de_int)) (de_n 5))) (dss_one (ds_rt de_bl)) dss_nil)))
      (dss_cons (ds_if (wT (DW.dt (dw_or (wT (dt_cmp (op_neA (huX hr)) ned_ok (wE (de_callT (One.n list_ok) call_list_of (by rfl) o.m_list VS.boot_lst (wA (da_cons (wE (de_ix (de_n 7) de_int)) da_nil)))) (de_n 1))) (dw_or1 (wT (dt_cmp (op_neA (huX hr)) ned_ok (wE (de_callT (One.n list_ok) call_list_of (by rfl) o.m_list VS.boot_lst (wA (da_cons (wE (de_ix (de_n 7) de_int)) da_nil)))) (de_n 2))))))) (dss_one (ds_rt de_bl)) dss_nil)
      (dss_one (ds_rt (wE (de_call (ks := [.val (.vw [6]), .val (.vw [0]), .val (.vw [3]), .val (.vw [3]), .val .tmp]) (ok__law_answered o) (hr.mono (by decide)) (by rfl) o.g__law_answered o.F__law_answered.kp o.b__law_answered (wC (dc_val (de_n 6) (wC (dc_val (de_n 0) (wC (dc_val (wE (de_ix (de_n 3) de_int)) (wC (dc_val (wE (de_ix (de_n 3) de_int)) (wC (dc_val (wE (de_bin op_addA oAdd_ok (de_n 4) de_int)) dc_nil)))))))))))))))))))))⟩
theorem ok_law (o : Ok a K mg) : FnOk P w K mg base CX0 10 a.f_law a.fd_law ["script"] (spOf K [.val] (D_law a.C_Cloth a.C_MillError a.C_BadColours a.C_TooLarge a.C_Mismatch)) :=
  fn_vs (N := ["script", "state", "h", "w", "first_rows", "span", "first_warp", "first_weft", "count", "turn", "cloth_rows", "warp", "weft", "step", "bad_warp", "bad_weft", "right", "i", "j", "kind"]) (k := 9) (d := b_law a.C_Cloth a.C_MillError a.C_BadColours a.C_TooLarge a.C_Mismatch) [.val] o.F_law sc_law rfl (by decide) fun cdv A outer s H E hr => ⟨_, _, (dss_cons (ds_asg (wE (de_call (ks := [.val (.vw [0])]) (ok__law_start o) (hr.mono (by decide)) (by rfl) o.g__law_start o.F__law_start.kp o.b__law_start (wC (dc_val (de_n 0) dc_nil)))) (dg_n 1 sc_law.nd))
      (dss_cons (ds_asg (wE (de_call (ks := [.io 1, .val .tmp]) (ok__law_side o) (hr.mono (by decide)) (by rfl) o.g__law_side o.F__law_side.kp o.b__law_side (wC (dc_io 1 (wC (dc_val de_int dc_nil)))))) (dg_n 2 sc_law.nd))
      (dss_cons (ds_asg (wE (de_call (ks := [.io 1, .val .tmp]) (ok__law_side o) (hr.mono (by decide)) (by rfl) o.g__law_side o.F__law_side.kp o.b__law_side (wC (dc_io 1 (wC (dc_val de_int dc_nil)))))) (dg_n 3 sc_law.nd))
      (dss_cons (ds_asg (wE (de_call (ks := [.io 1, .val (.vw [2]), .val (.vw [3])]) (ok__law_free_rows o) (hr.mono (by decide)) (by rfl) o.g__law_free_rows o.F__law_free_rows.kp o.b__law_free_rows (wC (dc_io 1 (wC (dc_val (de_n 2) (wC (dc_val (de_n 3) dc_nil)))))))) (dg_n 4 sc_law.nd))
      (dss_cons (ds_asg (wE (de_bin op_addA oAdd_ok de_int (wE (de_call (ks := [.io 1, .val .tmp]) (ok__law_draw o) (hr.mono (by decide)) (by rfl) o.g__law_draw o.F__law_draw.kp o.b__law_draw (wC (dc_io 1 (wC (dc_val de_int dc_nil)))))))) (dg_n 5 sc_law.nd))
      (dss_cons (ds_asg (wE (de_call (ks := [.io 1, .val (.vw [3]), .val (.vw [5])]) (ok__law_colours o) (hr.mono (by decide)) (by rfl) o.g__law_colours o.F__law_colours.kp o.b__law_colours (wC (dc_io 1 (wC (dc_val (de_n 3) (wC (dc_val (de_n 5) dc_nil)))))))) (dg_n 6 sc_law.nd))
      (dss_cons (ds_asg (wE (de_call (ks := [.io 1, .val (.vw [2]), .val (.vw [5])]) (ok__law_colours o) (hr.mono (by decide)) (by rfl) o.g__law_colours o.F__law_colours.kp o.b__law_colours (wC (dc_io 1 (wC (dc_val (de_n 2) (wC (dc_val (de_n 5) dc_nil)))))))) (dg_n 7 sc_law.nd))
      (dss_cons (ds_asg (wE (de_bin op_addA oAdd_ok de_int (wE (de_call (ks := [.io 1, .val .tmp]) (ok__law_draw o) (hr.mono (by decide)) (by rfl) o.g__law_draw o.F__law_draw.kp o.b__law_draw (wC (dc_io 1 (wC (dc_val de_int dc_nil)))))))) (dg_n 8 sc_law.nd))
      (dss_cons (ds_if (wT (dt_cmp op_gtA cmpd_ok (wE (de_bin op_mulA oMul_ok (de_n 2) (de_n 3))) de_int)) (dss_one (ds_asg de_int (dg_n 8 sc_law.nd))) dss_nil)
      (dss_cons (ds_asg (wE (de_call (ks := [.io 1, .val .tmp]) (ok__law_draw o) (hr.mono (by decide)) (by rfl) o.g__law_draw o.F__law_draw.kp o.b__law_draw (wC (dc_io 1 (wC (dc_val de_int dc_nil)))))) (dg_n 9 sc_law.nd))
      (dss_cons (ds_asg (wE (de_callT (One.n list_ok) call_list_of (by rfl) o.m_list VS.boot_lst (wA (da_cons (de_n 4) da_nil)))) (dg_n 10 sc_law.nd))
      (dss_cons (ds_asg (wE (de_callT (One.n list_ok) call_list_of (by rfl) o.m_list VS.boot_lst (wA (da_cons (de_n 6) da_nil)))) (dg_n 11 sc_law.nd))
      (dss_cons (ds_asg (wE (de_callT (One.n list_ok) call_list_of (by rfl) o.m_list VS.boot_lst (wA (da_cons (de_n 7) da_nil)))) (dg_n 12 sc_law.nd))
      (dss_cons (for_ PassesOwn.never rfl (wI (di_rg1 (by rfl) o.m_range (wA (da_cons (de_n 8) da_nil)))) (dg_n 13 sc_law.nd) (dss_cons (ds_if (wT (dt_not (wT (dt_t (wE (de_call (ks := [.val (.vw [10]), .val (.vw [11]), .val (.vw [12]), .val .tmp]) (ok__law_shows o) (hr.mono (by decide)) (by rfl) o.g__law_shows o.F__law_shows.kp o.b__law_shows (wC (dc_val (de_n 10) (wC (dc_val (de_n 11) (wC (dc_val (de_n 12) (wC (dc_val (wE (de_bin op_addA oAdd_ok (de_n 9) (de_n 13))) dc_nil)))))))))))))) (dss_one (ds_rt de_bl)) dss_nil)
      (dss_cons (ds_asg (wE (de_call (ks := [.io 1, .val (.vw [2])]) (ok__law_draw o) (hr.mono (by decide)) (by rfl) o.g__law_draw o.F__law_draw.kp o.b__law_draw (wC (dc_io 1 (wC (dc_val (de_n 2) dc_nil)))))) (dg_n 17 sc_law.nd))
      (dss_cons (ds_asg (wE (de_call (ks := [.io 1, .val (.vw [3])]) (ok__law_draw o) (hr.mono (by decide)) (by rfl) o.g__law_draw o.F__law_draw.kp o.b__law_draw (wC (dc_io 1 (wC (dc_val (de_n 3) dc_nil)))))) (dg_n 18 sc_law.nd))
      (dss_cons (ds_asg (wE (de_call (ks := [.io 1, .val .tmp]) (ok__law_draw o) (hr.mono (by decide)) (by rfl) o.g__law_draw o.F__law_draw.kp o.b__law_draw (wC (dc_io 1 (wC (dc_val de_int dc_nil)))))) (dg_n 19 sc_law.nd))
      (dss_cons (ds_if (wT (dt_cmp (op_eqA (huX hr)) eqd_ok (de_n 19) de_int)) (dss_one (ds_setix (wE (de_call (ks := [.io 1, .val .tmp]) (ok__law_draw o) (hr.mono (by decide)) (by rfl) o.g__law_draw o.F__law_draw.kp o.b__law_draw (wC (dc_io 1 (wC (dc_val de_int dc_nil)))))) (dp_n 11) (de_n 18))) dss_nil)
      (dss_cons (ds_if (wT (dt_cmp (op_eqA (huX hr)) eqd_ok (de_n 19) de_int)) (dss_one (ds_setix (wE (de_call (ks := [.io 1, .val .tmp]) (ok__law_draw o) (hr.mono (by decide)) (by rfl) o.g__law_draw o.F__law_draw.kp o.b__law_draw (wC (dc_io 1 (wC (dc_val de_int dc_nil)))))) (dp_n 12) (de_n 17))) dss_nil)
      (dss_one (ds_if (wT (dt_cmp op_gtA cmpd_ok (de_n 19) de_int)) (dss_one (ds_asg (wE (de_call (ks := [.val (.vw [10]), .val (.vw [17]), .val (.vw [18])]) (ok__law_exchange o) (hr.mono (by decide)) (by rfl) o.g__law_exchange o.F__law_exchange.kp o.b__law_exchange (wC (dc_val (de_n 10) (wC (dc_val (de_n 17) (wC (dc_val (de_n 18) dc_nil)))))))) (dg_n 10 sc_law.nd))) dss_nil)))))))))
      (dss_cons (ds_if (wT (dt_not (wT (dt_t (wE (de_call (ks := [.val (.vw [10]), .val (.vw [11]), .val (.vw [12]), .val (.vw [9])]) (ok__law_shows o) (hr.mono (by decide)) (by rfl) o.g__law_shows o.F__law_shows.kp o.b__law_shows (wC (dc_val (de_n 10) (wC (dc_val (de_n 11) (wC (dc_val (de_n 12) (wC (dc_val (de_n 9) dc_nil)))))))))))))) (dss_one (ds_rt de_bl)) dss_nil)
      (dss_cons (ds_asg (wE (de_call (ks := [.io 1, .val (.vw [11])]) (ok__law_spoilt o) (hr.mono (by decide)) (by rfl) o.g__law_spoilt o.F__law_spoilt.kp o.b__law_spoilt (wC (dc_io 1 (wC (dc_val (de_n 11) dc_nil)))))) (dg_n 14 sc_law.nd))
      (dss_cons (ds_asg (wE (de_call (ks := [.io 1, .val (.vw [12])]) (ok__law_spoilt o) (hr.mono (by decide)) (by rfl) o.g__law_spoilt o.F__law_spoilt.kp o.b__law_spoilt (wC (dc_io 1 (wC (dc_val (de_n 12) dc_nil)))))) (dg_n 15 sc_law.nd))
      (dss_cons (ds_asg (wE (de_lst (wA (da_cons (de_nf 11) (wA (da_cons (de_nf 12) da_nil)))))) (dg_n 16 sc_law.nd))
      (dss_cons (ds_if (wT (dt_not (wT (dt_t (wE (de_call (ks := [.val (.vw [10]), .val (.vw [14]), .val (.vw [15]), .val (.vw [16]), .val (.vw [9])]) (ok__law_refused o) (hr.mono (by decide)) (by rfl) o.g__law_refused o.F__law_refused.kp o.b__law_refused (wC (dc_val (de_n 10) (wC (dc_val (de_n 14) (wC (dc_val (de_n 15) (wC (dc_val (de_n 16) (wC (dc_val (de_n 9) dc_nil)))))))))))))))) (dss_one (ds_rt de_bl)) dss_nil)
      (dss_cons (ds_if (wT (dt_not (wT (dt_t (wE (de_call (ks := [.val (.vw [10]), .val (.vw [14]), .val (.vw [12]), .val (.vw [16]), .val .tmp]) (ok__law_refused o) (hr.mono (by decide)) (by rfl) o.g__law_refused o.F__law_refused.kp o.b__law_refused (wC (dc_val (de_n 10) (wC (dc_val (de_n 14) (wC (dc_val (de_n 12) (wC (dc_val (de_n 16) (wC (dc_val (wE (de_bin op_addA oAdd_ok (de_n 9) de_int)) dc_nil)))))))))))))))) (dss_one (ds_rt de_bl)) dss_nil)
      (dss_cons (ds_if (wT (dt_not (wT (dt_t (wE (de_call (ks := [.val (.vw [10]), .val (.vw [11]), .val (.vw [15]), .val (.vw [16]), .val .tmp]) (ok__law_refused o) (hr.mono (by decide)) (by rfl) o.g__law_refused o.F__law_refused.kp o.b__law_refused (wC (dc_val (de_n 10) (wC (dc_val (de_n 11) (wC (dc_val (de_n 15) (wC (dc_val (de_n 16) (wC (dc_val (wE (de_bin op_addA oAdd_ok (de_n 9) de_int)) dc_nil)))))))))))))))) (dss_one (ds_rt de_bl)) dss_nil)
      (dss_one (ds_rt (wE (de_call (ks := [.val (.vw [4]), .val (.vw [6]), .val (.vw [7]), .val .tmp]) (ok__law_shows o) (hr.mono (by decide)) (by rfl) o.g__law_shows o.F__law_shows.kp o.b__law_shows (wC (dc_val (de_n 4) (wC (dc_val (de_n 6) (wC (dc_val (de_n 7) (wC (dc_val (wE (de_bin op_addA oAdd_ok (de_n 9) de_int)) dc_nil)))))))))))))))))))))))))))))))))⟩
end
end Wk21

namespace Wk21
open PySem PySem.Spec PyProof.Rows L2 VS
theorem all_mk {l : PySem.W.OpenLaw} {w : World} {K : PySem.W.Frag} {h : Heap} {mg : Str → Option Value} {fa : Addr} (X : K.In h) (G : h.Ns mainGlobals mg) (hfa : mg "law" = some (.ref fa))
    {f_in_range : Addr} {od_in_range an_in_range : Option Addr} {sl_in_range : Array (Option Value)} {oc_in_range kV_in_range dc_in_range pm_in_range cd_in_range ct_in_range : Value} {f_colours_fit : Addr} {od_colours_fit an_colours_fit : Option Addr} {sl_colours_fit : Array (Option Value)} {oc_colours_fit kV_colours_fit dc_colours_fit pm_colours_fit cd_colours_fit ct_colours_fit : Value} {f_rows_fit : Addr} {od_rows_fit an_rows_fit : Option Addr} {sl_rows_fit : Array (Option Value)} {oc_rows_fit kV_rows_fit dc_rows_fit pm_rows_fit cd_rows_fit ct_rows_fit : Value} {f_Cloth___init__ : Addr} {od_Cloth___init__ an_Cloth___init__ : Option Addr} {sl_Cloth___init__ : Array (Option Value)} {oc_Cloth___init__ kV_Cloth___init__ dc_Cloth___init__ pm_Cloth___init__ cd_Cloth___init__ ct_Cloth___init__ : Value} {f_other : Addr} {od_other an_other : Option Addr} {sl_other : Array (Option Value)} {oc_other kV_other dc_other pm_other cd_other ct_other : Value} {f_turned_over : Addr} {od_turned_over an_turned_over : Option Addr} {sl_turned_over : Array (Option Value)} {oc_turned_over kV_turned_over dc_turned_over pm_turned_over cd_turned_over ct_turned_over : Value} {f_check_colours : Addr} {od_check_colours an_check_colours : Option Addr} {sl_check_colours : Array (Option Value)} {oc_check_colours kV_check_colours dc_check_colours pm_check_colours cd_check_colours ct_check_colours : Value} {f_crossing_colours : Addr} {od_crossing_colours an_crossing_colours : Option Addr} {sl_crossing_colours : Array (Option Value)} {oc_crossing_colours kV_crossing_colours dc_crossing_colours pm_crossing_colours cd_crossing_colours ct_crossing_colours : Value} {f_face : Addr} {od_face an_face : Option Addr} {sl_face : Array (Option Value)} {oc_face kV_face dc_face pm_face cd_face ct_face : Value} {f_back : Addr} {od_back an_back : Option Addr} {sl_back : Array (Option Value)} {oc_back kV_back dc_back pm_back cd_back ct_back : Value} {f_hidden : Addr} {od_hidden an_hidden : Option Addr} {sl_hidden : Array (Option Value)} {oc_hidden kV_hidden dc_hidden pm_hidden cd_hidden ct_hidden : Value} {f__law_start : Addr} {od__law_start an__law_start : Option Addr} {sl__law_start : Array (Option Value)} {oc__law_start kV__law_start dc__law_start pm__law_start cd__law_start ct__law_start : Value} {f__law_draw : Addr} {od__law_draw an__law_draw : Option Addr} {sl__law_draw : Array (Option Value)} {oc__law_draw kV__law_draw dc__law_draw pm__law_draw cd__law_draw ct__law_draw : Value} {f__law_side : Addr} {od__law_side an__law_side : Option Addr} {sl__law_side : Array (Option Value)} {oc__law_side kV__law_side dc__law_side pm__law_side cd__law_side ct__law_side : Value} {f__law_same : Addr} {od__law_same an__law_same : Option Addr} {sl__law_same : Array (Option Value)} {oc__law_same kV__law_same dc__law_same pm__law_same cd__law_same ct__law_same : Value} {f__law_free_rows : Addr} {od__law_free_rows an__law_free_rows : Option Addr} {sl__law_free_rows : Array (Option Value)} {oc__law_free_rows kV__law_free_rows dc__law_free_rows pm__law_free_rows cd__law_free_rows ct__law_free_rows : Value} {f__law_exchange : Addr} {od__law_exchange an__law_exchange : Option Addr} {sl__law_exchange : Array (Option Value)} {oc__law_exchange kV__law_exchange dc__law_exchange pm__law_exchange cd__law_exchange ct__law_exchange : Value} {f__law_turned : Addr} {od__law_turned an__law_turned : Option Addr} {sl__law_turned : Array (Option Value)} {oc__law_turned kV__law_turned dc__law_turned pm__law_turned cd__law_turned ct__law_turned : Value} {f__law_rows_told : Addr} {od__law_rows_told an__law_rows_told : Option Addr} {sl__law_rows_told : Array (Option Value)} {oc__law_rows_told kV__law_rows_told dc__law_rows_told pm__law_rows_told cd__law_rows_told ct__law_rows_told : Value} {f__law_picture : Addr} {od__law_picture an__law_picture : Option Addr} {sl__law_picture : Array (Option Value)} {oc__law_picture kV__law_picture dc__law_picture pm__law_picture cd__law_picture ct__law_picture : Value} {f__law_colours : Addr} {od__law_colours an__law_colours : Option Addr} {sl__law_colours : Array (Option Value)} {oc__law_colours kV__law_colours dc__law_colours pm__law_colours cd__law_colours ct__law_colours : Value} {f__law_due : Addr} {od__law_due an__law_due : Option Addr} {sl__law_due : Array (Option Value)} {oc__law_due kV__law_due dc__law_due pm__law_due cd__law_due ct__law_due : Value} {f__law_asked_face : Addr} {od__law_asked_face an__law_asked_face : Option Addr} {sl__law_asked_face : Array (Option Value)} {oc__law_asked_face kV__law_asked_face dc__law_asked_face pm__law_asked_face cd__law_asked_face ct__law_asked_face : Value} {f__law_asked_back : Addr} {od__law_asked_back an__law_asked_back : Option Addr} {sl__law_asked_back : Array (Option Value)} {oc__law_asked_back kV__law_asked_back dc__law_asked_back pm__law_asked_back cd__law_asked_back ct__law_asked_back : Value} {f__law_asked_hidden : Addr} {od__law_asked_hidden an__law_asked_hidden : Option Addr} {sl__law_asked_hidden : Array (Option Value)} {oc__law_asked_hidden kV__law_asked_hidden dc__law_asked_hidden pm__law_asked_hidden cd__law_asked_hidden ct__law_asked_hidden : Value} {f__law_handed : Addr} {od__law_handed an__law_handed : Option Addr} {sl__law_handed : Array (Option Value)} {oc__law_handed kV__law_handed dc__law_handed pm__law_handed cd__law_handed ct__law_handed : Value} {f__law_answers : Addr} {od__law_answers an__law_answers : Option Addr} {sl__law_answers : Array (Option Value)} {oc__law_answers kV__law_answers dc__law_answers pm__law_answers cd__law_answers ct__law_answers : Value} {f__law_answered : Addr} {od__law_answered an__law_answered : Option Addr} {sl__law_answered : Array (Option Value)} {oc__law_answered kV__law_answered dc__law_answered pm__law_answered cd__law_answered ct__law_answered : Value} {f__law_shows : Addr} {od__law_shows an__law_shows : Option Addr} {sl__law_shows : Array (Option Value)} {oc__law_shows kV__law_shows dc__law_shows pm__law_shows cd__law_shows ct__law_shows : Value} {f__law_spoilt : Addr} {od__law_spoilt an__law_spoilt : Option Addr} {sl__law_spoilt : Array (Option Value)} {oc__law_spoilt kV__law_spoilt dc__law_spoilt pm__law_spoilt cd__law_spoilt ct__law_spoilt : Value} {f__law_word_due : Addr} {od__law_word_due an__law_word_due : Option Addr} {sl__law_word_due : Array (Option Value)} {oc__law_word_due kV__law_word_due dc__law_word_due pm__law_word_due cd__law_word_due ct__law_word_due : Value} {f__law_refused : Addr} {od__law_refused an__law_refused : Option Addr} {sl__law_refused : Array (Option Value)} {oc__law_refused kV__law_refused dc__law_refused pm__law_refused cd__law_refused ct__law_refused : Value} {f_law : Addr} {od_law an_law : Option Addr} {sl_law : Array (Option Value)} {oc_law kV_law dc_law pm_law cd_law ct_law : Value} {C_Cloth : Addr} {C_MillError : Addr} {C_BadColours : Addr} {C_TooLarge : Addr} {C_Mismatch : Addr} {t_SIGNS : Tok} {tk_Cloth_MOST : Tok} {t_DIGITS : Tok} {nc_Cloth : Value} {nd_Cloth : Option Addr} {nb_Cloth nm0_Cloth nu_Cloth : List Value} {nn_Cloth : Addr} {nq_Cloth : Str} {nh_Cloth na0_Cloth ne0_Cloth : Bool} {ns_Cloth : List Str} {nl_Cloth : Option Bool} {nz_Cloth : Array (Option Value)} {nc_MillError : Value} {nd_MillError : Option Addr} {nb_MillError nm0_MillError nu_MillError : List Value} {nn_MillError : Addr} {nq_MillError : Str} {nh_MillError na0_MillError ne0_MillError : Bool} {ns_MillError : List Str} {nl_MillError : Option Bool} {nz_MillError : Array (Option Value)} {nc_BadColours : Value} {nd_BadColours : Option Addr} {nb_BadColours nm0_BadColours nu_BadColours : List Value} {nn_BadColours : Addr} {nq_BadColours : Str} {nh_BadColours na0_BadColours ne0_BadColours : Bool} {ns_BadColours : List Str} {nl_BadColours : Option Bool} {nz_BadColours : Array (Option Value)} {nc_TooLarge : Value} {nd_TooLarge : Option Addr} {nb_TooLarge nm0_TooLarge nu_TooLarge : List Value} {nn_TooLarge : Addr} {nq_TooLarge : Str} {nh_TooLarge na0_TooLarge ne0_TooLarge : Bool} {ns_TooLarge : List Str} {nl_TooLarge : Option Bool} {nz_TooLarge : Array (Option Value)} {nc_Mismatch : Value} {nd_Mismatch : Option Addr} {nb_Mismatch nm0_Mismatch nu_Mismatch : List Value} {nn_Mismatch : Addr} {nq_Mismatch : Str} {nh_Mismatch na0_Mismatch ne0_Mismatch : Bool} {ns_Mismatch : List Str} {nl_Mismatch : Option Bool} {nz_Mismatch : Array (Option Value)}
    (l_in_range : K.lookup f_in_range = some ⟨oc_in_range, od_in_range, .func (PySem.W.fnOf "in_range" "in_range" (defArgs s_in_range) (defBody s_in_range) (defScope s_in_range) .none kV_in_range dc_in_range pm_in_range an_in_range cd_in_range ct_in_range), sl_in_range⟩)
    (c_in_range : PySem.W.codeIn K cd_in_range "in_range" = true)
    (k_in_range : PySem.W.keepIn K (.ref f_in_range) = true)
    (l_colours_fit : K.lookup f_colours_fit = some ⟨oc_colours_fit, od_colours_fit, .func (PySem.W.fnOf "colours_fit" "colours_fit" (defArgs s_colours_fit) (defBody s_colours_fit) (defScope s_colours_fit) .none kV_colours_fit dc_colours_fit pm_colours_fit an_colours_fit cd_colours_fit ct_colours_fit), sl_colours_fit⟩)
    (c_colours_fit : PySem.W.codeIn K cd_colours_fit "colours_fit" = true)
    (k_colours_fit : PySem.W.keepIn K (.ref f_colours_fit) = true)
    (l_rows_fit : K.lookup f_rows_fit = some ⟨oc_rows_fit, od_rows_fit, .func (PySem.W.fnOf "rows_fit" "rows_fit" (defArgs s_rows_fit) (defBody s_rows_fit) (defScope s_rows_fit) .none kV_rows_fit dc_rows_fit pm_rows_fit an_rows_fit cd_rows_fit ct_rows_fit), sl_rows_fit⟩)
    (c_rows_fit : PySem.W.codeIn K cd_rows_fit "rows_fit" = true)
    (k_rows_fit : PySem.W.keepIn K (.ref f_rows_fit) = true)
    (l_Cloth___init__ : K.lookup f_Cloth___init__ = some ⟨oc_Cloth___init__, od_Cloth___init__, .func (PySem.W.fnOf "__init__" "Cloth.__init__" (defArgs s_Cloth___init__) (defBody s_Cloth___init__) (defScope s_Cloth___init__) .none kV_Cloth___init__ dc_Cloth___init__ pm_Cloth___init__ an_Cloth___init__ cd_Cloth___init__ ct_Cloth___init__), sl_Cloth___init__⟩)
    (c_Cloth___init__ : PySem.W.codeIn K cd_Cloth___init__ "Cloth.__init__" = true)
    (k_Cloth___init__ : PySem.W.keepIn K (.ref f_Cloth___init__) = true)
    (l_other : K.lookup f_other = some ⟨oc_other, od_other, .func (PySem.W.fnOf "other" "other" (defArgs s_other) (defBody s_other) (defScope s_other) .none kV_other dc_other pm_other an_other cd_other ct_other), sl_other⟩)
    (c_other : PySem.W.codeIn K cd_other "other" = true)
    (k_other : PySem.W.keepIn K (.ref f_other) = true)
    (l_turned_over : K.lookup f_turned_over = some ⟨oc_turned_over, od_turned_over, .func (PySem.W.fnOf "turned_over" "turned_over" (defArgs s_turned_over) (defBody s_turned_over) (defScope s_turned_over) .none kV_turned_over dc_turned_over pm_turned_over an_turned_over cd_turned_over ct_turned_over), sl_turned_over⟩)
    (c_turned_over : PySem.W.codeIn K cd_turned_over "turned_over" = true)
    (k_turned_over : PySem.W.keepIn K (.ref f_turned_over) = true)
    (l_check_colours : K.lookup f_check_colours = some ⟨oc_check_colours, od_check_colours, .func (PySem.W.fnOf "check_colours" "check_colours" (defArgs s_check_colours) (defBody s_check_colours) (defScope s_check_colours) .none kV_check_colours dc_check_colours pm_check_colours an_check_colours cd_check_colours ct_check_colours), sl_check_colours⟩)
    (c_check_colours : PySem.W.codeIn K cd_check_colours "check_colours" = true)
    (k_check_colours : PySem.W.keepIn K (.ref f_check_colours) = true)
    (l_crossing_colours : K.lookup f_crossing_colours = some ⟨oc_crossing_colours, od_crossing_colours, .func (PySem.W.fnOf "crossing_colours" "crossing_colours" (defArgs s_crossing_colours) (defBody s_crossing_colours) (defScope s_crossing_colours) .none kV_crossing_colours dc_crossing_colours pm_crossing_colours an_crossing_colours cd_crossing_colours ct_crossing_colours), sl_crossing_colours⟩)
    (c_crossing_colours : PySem.W.codeIn K cd_crossing_colours "crossing_colours" = true)
    (k_crossing_colours : PySem.W.keepIn K (.ref f_crossing_colours) = true)
    (l_face : K.lookup f_face = some ⟨oc_face, od_face, .func (PySem.W.fnOf "face" "face" (defArgs s_face) (defBody s_face) (defScope s_face) .none kV_face dc_face pm_face an_face cd_face ct_face), sl_face⟩)
    (c_face : PySem.W.codeIn K cd_face "face" = true)
    (k_face : PySem.W.keepIn K (.ref f_face) = true)
    (l_back : K.lookup f_back = some ⟨oc_back, od_back, .func (PySem.W.fnOf "back" "back" (defArgs s_back) (defBody s_back) (defScope s_back) .none kV_back dc_back pm_back an_back cd_back ct_back), sl_back⟩)
    (c_back : PySem.W.codeIn K cd_back "back" = true)
    (k_back : PySem.W.keepIn K (.ref f_back) = true)
    (l_hidden : K.lookup f_hidden = some ⟨oc_hidden, od_hidden, .func (PySem.W.fnOf "hidden" "hidden" (defArgs s_hidden) (defBody s_hidden) (defScope s_hidden) .none kV_hidden dc_hidden pm_hidden an_hidden cd_hidden ct_hidden), sl_hidden⟩)
    (c_hidden : PySem.W.codeIn K cd_hidden "hidden" = true)
    (k_hidden : PySem.W.keepIn K (.ref f_hidden) = true)
    (l__law_start : K.lookup f__law_start = some ⟨oc__law_start, od__law_start, .func (PySem.W.fnOf "_law_start" "_law_start" (defArgs s__law_start) (defBody s__law_start) (defScope s__law_start) .none kV__law_start dc__law_start pm__law_start an__law_start cd__law_start ct__law_start), sl__law_start⟩)
    (c__law_start : PySem.W.codeIn K cd__law_start "_law_start" = true)
    (k__law_start : PySem.W.keepIn K (.ref f__law_start) = true)
    (l__law_draw : K.lookup f__law_draw = some ⟨oc__law_draw, od__law_draw, .func (PySem.W.fnOf "_law_draw" "_law_draw" (defArgs s__law_draw) (defBody s__law_draw) (defScope s__law_draw) .none kV__law_draw dc__law_draw pm__law_draw an__law_draw cd__law_draw ct__law_draw), sl__law_draw⟩)
    (c__law_draw : PySem.W.codeIn K cd__law_draw "_law_draw" = true)
    (k__law_draw : PySem.W.keepIn K (.ref f__law_draw) = true)
    (l__law_side : K.lookup f__law_side = some ⟨oc__law_side, od__law_side, .func (PySem.W.fnOf "_law_side" "_law_side" (defArgs s__law_side) (defBody s__law_side) (defScope s__law_side) .none kV__law_side dc__law_side pm__law_side an__law_side cd__law_side ct__law_side), sl__law_side⟩)
    (c__law_side : PySem.W.codeIn K cd__law_side "_law_side" = true)
    (k__law_side : PySem.W.keepIn K (.ref f__law_side) = true)
    (l__law_same : K.lookup f__law_same = some ⟨oc__law_same, od__law_same, .func (PySem.W.fnOf "_law_same" "_law_same" (defArgs s__law_same) (defBody s__law_same) (defScope s__law_same) .none kV__law_same dc__law_same pm__law_same an__law_same cd__law_same ct__law_same), sl__law_same⟩)
    (c__law_same : PySem.W.codeIn K cd__law_same "_law_same" = true)
    (k__law_same : PySem.W.keepIn K (.ref f__law_same) = true)
    (l__law_free_rows : K.lookup f__law_free_rows = some ⟨oc__law_free_rows, od__law_free_rows, .func (PySem.W.fnOf "_law_free_rows" "_law_free_rows" (defArgs s__law_free_rows) (defBody s__law_free_rows) (defScope s__law_free_rows) .none kV__law_free_rows dc__law_free_rows pm__law_free_rows an__law_free_rows cd__law_free_rows ct__law_free_rows), sl__law_free_rows⟩)
    (c__law_free_rows : PySem.W.codeIn K cd__law_free_rows "_law_free_rows" = true)
    (k__law_free_rows : PySem.W.keepIn K (.ref f__law_free_rows) = true)
    (l__law_exchange : K.lookup f__law_exchange = some ⟨oc__law_exchange, od__law_exchange, .func (PySem.W.fnOf "_law_exchange" "_law_exchange" (defArgs s__law_exchange) (defBody s__law_exchange) (defScope s__law_exchange) .none kV__law_exchange dc__law_exchange pm__law_exchange an__law_exchange cd__law_exchange ct__law_exchange), sl__law_exchange⟩)
    (c__law_exchange : PySem.W.codeIn K cd__law_exchange "_law_exchange" = true)
    (k__law_exchange : PySem.W.keepIn K (.ref f__law_exchange) = true)
    (l__law_turned : K.lookup f__law_turned = some ⟨oc__law_turned, od__law_turned, .func (PySem.W.fnOf "_law_turned" "_law_turned" (defArgs s__law_turned) (defBody s__law_turned) (defScope s__law_turned) .none kV__law_turned dc__law_turned pm__law_turned an__law_turned cd__law_turned ct__law_turned), sl__law_turned⟩)
    (c__law_turned : PySem.W.codeIn K cd__law_turned "_law_turned" = true)
    (k__law_turned : PySem.W.keepIn K (.ref f__law_turned) = true)
    (l__law_rows_told : K.lookup f__law_rows_told = some ⟨oc__law_rows_told, od__law_rows_told, .func (PySem.W.fnOf "_law_rows_told" "_law_rows_told" (defArgs s__law_rows_told) (defBody s__law_rows_told) (defScope s__law_rows_told) .none kV__law_rows_told dc__law_rows_told pm__law_rows_told an__law_rows_told cd__law_rows_told ct__law_rows_told), sl__law_rows_told⟩)
    (c__law_rows_told : PySem.W.codeIn K cd__law_rows_told "_law_rows_told" = true)
    (k__law_rows_told : PySem.W.keepIn K (.ref f__law_rows_told) = true)
    (l__law_picture : K.lookup f__law_picture = some ⟨oc__law_picture, od__law_picture, .func (PySem.W.fnOf "_law_picture" "_law_picture" (defArgs s__law_picture) (defBody s__law_picture) (defScope s__law_picture) .none kV__law_picture dc__law_picture pm__law_picture an__law_picture cd__law_picture ct__law_picture), sl__law_picture⟩)
    (c__law_picture : PySem.W.codeIn K cd__law_picture "_law_picture" = true)
    (k__law_picture : PySem.W.keepIn K (.ref f__law_picture) = true)
    (l__law_colours : K.lookup f__law_colours = some ⟨oc__law_colours, od__law_colours, .func (PySem.W.fnOf "_law_colours" "_law_colours" (defArgs s__law_colours) (defBody s__law_colours) (defScope s__law_colours) .none kV__law_colours dc__law_colours pm__law_colours an__law_colours cd__law_colours ct__law_colours), sl__law_colours⟩)
    (c__law_colours : PySem.W.codeIn K cd__law_colours "_law_colours" = true)
    (k__law_colours : PySem.W.keepIn K (.ref f__law_colours) = true)
    (l__law_due : K.lookup f__law_due = some ⟨oc__law_due, od__law_due, .func (PySem.W.fnOf "_law_due" "_law_due" (defArgs s__law_due) (defBody s__law_due) (defScope s__law_due) .none kV__law_due dc__law_due pm__law_due an__law_due cd__law_due ct__law_due), sl__law_due⟩)
    (c__law_due : PySem.W.codeIn K cd__law_due "_law_due" = true)
    (k__law_due : PySem.W.keepIn K (.ref f__law_due) = true)
    (l__law_asked_face : K.lookup f__law_asked_face = some ⟨oc__law_asked_face, od__law_asked_face, .func (PySem.W.fnOf "_law_asked_face" "_law_asked_face" (defArgs s__law_asked_face) (defBody s__law_asked_face) (defScope s__law_asked_face) .none kV__law_asked_face dc__law_asked_face pm__law_asked_face an__law_asked_face cd__law_asked_face ct__law_asked_face), sl__law_asked_face⟩)
    (c__law_asked_face : PySem.W.codeIn K cd__law_asked_face "_law_asked_face" = true)
    (k__law_asked_face : PySem.W.keepIn K (.ref f__law_asked_face) = true)
    (l__law_asked_back : K.lookup f__law_asked_back = some ⟨oc__law_asked_back, od__law_asked_back, .func (PySem.W.fnOf "_law_asked_back" "_law_asked_back" (defArgs s__law_asked_back) (defBody s__law_asked_back) (defScope s__law_asked_back) .none kV__law_asked_back dc__law_asked_back pm__law_asked_back an__law_asked_back cd__law_asked_back ct__law_asked_back), sl__law_asked_back⟩)
    (c__law_asked_back : PySem.W.codeIn K cd__law_asked_back "_law_asked_back" = true)
    (k__law_asked_back : PySem.W.keepIn K (.ref f__law_asked_back) = true)
    (l__law_asked_hidden : K.lookup f__law_asked_hidden = some ⟨oc__law_asked_hidden, od__law_asked_hidden, .func (PySem.W.fnOf "_law_asked_hidden" "_law_asked_hidden" (defArgs s__law_asked_hidden) (defBody s__law_asked_hidden) (defScope s__law_asked_hidden) .none kV__law_asked_hidden dc__law_asked_hidden pm__law_asked_hidden an__law_asked_hidden cd__law_asked_hidden ct__law_asked_hidden), sl__law_asked_hidden⟩)
    (c__law_asked_hidden : PySem.W.codeIn K cd__law_asked_hidden "_law_asked_hidden" = true)
    (k__law_asked_hidden : PySem.W.keepIn K (.ref f__law_asked_hidden) = true)
    (l__law_handed : K.lookup f__law_handed = some ⟨oc__law_handed, od__law_handed, .func (PySem.W.fnOf "_law_handed" "_law_handed" (defArgs s__law_handed) (defBody s__law_handed) (defScope s__law_handed) .none kV__law_handed dc__law_handed pm__law_handed an__law_handed cd__law_handed ct__law_handed), sl__law_handed⟩)
    (c__law_handed : PySem.W.codeIn K cd__law_handed "_law_handed" = true)
    (k__law_handed : PySem.W.keepIn K (.ref f__law_handed) = true)
    (l__law_answers : K.lookup f__law_answers = some ⟨oc__law_answers, od__law_answers, .func (PySem.W.fnOf "_law_answers" "_law_answers" (defArgs s__law_answers) (defBody s__law_answers) (defScope s__law_answers) .none kV__law_answers dc__law_answers pm__law_answers an__law_answers cd__law_answers ct__law_answers), sl__law_answers⟩)
    (c__law_answers : PySem.W.codeIn K cd__law_answers "_law_answers" = true)
    (k__law_answers : PySem.W.keepIn K (.ref f__law_answers) = true)
    (l__law_answered : K.lookup f__law_answered = some ⟨oc__law_answered, od__law_answered, .func (PySem.W.fnOf "_law_answered" "_law_answered" (defArgs s__law_answered) (defBody s__law_answered) (defScope s__law_answered) .none kV__law_answered dc__law_answered pm__law_answered an__law_answered cd__law_answered ct__law_answered), sl__law_answered⟩)
    (c__law_answered : PySem.W.codeIn K cd__law_answered "_law_answered" = true)
    (k__law_answered : PySem.W.keepIn K (.ref f__law_answered) = true)
    (l__law_shows : K.lookup f__law_shows = some ⟨oc__law_shows, od__law_shows, .func (PySem.W.fnOf "_law_shows" "_law_shows" (defArgs s__law_shows) (defBody s__law_shows) (defScope s__law_shows) .none kV__law_shows dc__law_shows pm__law_shows an__law_shows cd__law_shows ct__law_shows), sl__law_shows⟩)
    (c__law_shows : PySem.W.codeIn K cd__law_shows "_law_shows" = true)
    (k__law_shows : PySem.W.keepIn K (.ref f__law_shows) = true)
    (l__law_spoilt : K.lookup f__law_spoilt = some ⟨oc__law_spoilt, od__law_spoilt, .func (PySem.W.fnOf "_law_spoilt" "_law_spoilt" (defArgs s__law_spoilt) (defBody s__law_spoilt) (defScope s__law_spoilt) .none kV__law_spoilt dc__law_spoilt pm__law_spoilt an__law_spoilt cd__law_spoilt ct__law_spoilt), sl__law_spoilt⟩)
    (c__law_spoilt : PySem.W.codeIn K cd__law_spoilt "_law_spoilt" = true)
    (k__law_spoilt : PySem.W.keepIn K (.ref f__law_spoilt) = true)
    (l__law_word_due : K.lookup f__law_word_due = some ⟨oc__law_word_due, od__law_word_due, .func (PySem.W.fnOf "_law_word_due" "_law_word_due" (defArgs s__law_word_due) (defBody s__law_word_due) (defScope s__law_word_due) .none kV__law_word_due dc__law_word_due pm__law_word_due an__law_word_due cd__law_word_due ct__law_word_due), sl__law_word_due⟩)
    (c__law_word_due : PySem.W.codeIn K cd__law_word_due "_law_word_due" = true)
    (k__law_word_due : PySem.W.keepIn K (.ref f__law_word_due) = true)
    (l__law_refused : K.lookup f__law_refused = some ⟨oc__law_refused, od__law_refused, .func (PySem.W.fnOf "_law_refused" "_law_refused" (defArgs s__law_refused) (defBody s__law_refused) (defScope s__law_refused) .none kV__law_refused dc__law_refused pm__law_refused an__law_refused cd__law_refused ct__law_refused), sl__law_refused⟩)
    (c__law_refused : PySem.W.codeIn K cd__law_refused "_law_refused" = true)
    (k__law_refused : PySem.W.keepIn K (.ref f__law_refused) = true)
    (l_law : K.lookup f_law = some ⟨oc_law, od_law, .func (PySem.W.fnOf "law" "law" (defArgs s_law) (defBody s_law) (defScope s_law) .none kV_law dc_law pm_law an_law cd_law ct_law), sl_law⟩)
    (c_law : PySem.W.codeIn K cd_law "law" = true)
    (k_law : PySem.W.keepIn K (.ref f_law) = true)
    (m_isinstance : PySem.W.nsIn K mainGlobals "isinstance" = some none)
    (m_list : PySem.W.nsIn K mainGlobals "list" = some none)
    (m_tuple : PySem.W.nsIn K mainGlobals "tuple" = some none)
    (g_in_range : PySem.W.nsIn K mainGlobals "in_range" = some (some (.ref f_in_range)))
    (m_len : PySem.W.nsIn K mainGlobals "len" = some none)
    (g_rows_fit : PySem.W.nsIn K mainGlobals "rows_fit" = some (some (.ref f_rows_fit)))
    (c_SIGNS_ : PySem.W.nsIn K mainGlobals "SIGNS" = some (some (.str "01" t_SIGNS)))
    (g_Cloth : PySem.W.nsIn K mainGlobals "Cloth" = some (some (.ref C_Cloth)))
    (rd_Cloth : PySem.W.readsIn K C_Cloth (.type "type") = true)
    (ga_Cloth : PySem.W.specialIn K (.ref C_Cloth) "__getattribute__" = some (some (.builtin "type.__getattribute__")))
    (k_Cloth_MOST_ : PySem.W.findCls K (.ref C_Cloth) (.type "type") "MOST" = some (.val (.int 60 tk_Cloth_MOST)))
    (pg_Cloth : PySem.W.plainGet K C_Cloth Str.empty = true)
    (hd_Cloth : PySem.W.hasDictIn K C_Cloth = true)
    (po_Cloth : PySem.W.plainOver K C_Cloth = true)
    (sa_Cloth : PySem.W.findIn K (.ref C_Cloth) "__setattr__" = some (some (.builtin "object.__setattr__")))
    (na_Cloth_rows : PySem.W.findIn K (.ref C_Cloth) "rows" = some none)
    (na_Cloth_picks : PySem.W.findIn K (.ref C_Cloth) "picks" = some none)
    (na_Cloth_ends : PySem.W.findIn K (.ref C_Cloth) "ends" = some none)
    (m_str : PySem.W.nsIn K mainGlobals "str" = some none)
    (m_sum : PySem.W.nsIn K mainGlobals "sum" = some none)
    (i_Cloth___init__ : PySem.W.isFn K (.ref f_Cloth___init__) = true)
    (mk1_Cloth : PySem.W.makesIn K C_Cloth = true)
    (mk2_Cloth : PySem.W.findIn K (.ref C_Cloth) "__init__" = some (some (.ref f_Cloth___init__)))
    (mk3_Cloth : PySem.W.keepIn K (.ref C_Cloth) = true)
    (g_other : PySem.W.nsIn K mainGlobals "other" = some (some (.ref f_other)))
    (g_colours_fit : PySem.W.nsIn K mainGlobals "colours_fit" = some (some (.ref f_colours_fit)))
    (g_BadColours : PySem.W.nsIn K mainGlobals "BadColours" = some (some (.ref C_BadColours)))
    (xi_BadColours : PySem.W.excIn K C_BadColours [.type "ValueError", .type "Exception", .type "BaseException", .type "object"] "ValueError.__new__" = true)
    (xk_BadColours : PySem.W.keepIn K (.ref C_BadColours) = true)
    (xb_BadColours : PySem.W.subIn K (.ref C_BadColours) (.type "BaseException") = some true)
    (xt_BadColours : PySem.W.typeIn K (.ref C_BadColours) = some (.type "type"))
    (g_Mismatch : PySem.W.nsIn K mainGlobals "Mismatch" = some (some (.ref C_Mismatch)))
    (xi_Mismatch : PySem.W.excIn K C_Mismatch [.type "ValueError", .type "Exception", .type "BaseException", .type "object"] "ValueError.__new__" = true)
    (xk_Mismatch : PySem.W.keepIn K (.ref C_Mismatch) = true)
    (xb_Mismatch : PySem.W.subIn K (.ref C_Mismatch) (.type "BaseException") = some true)
    (xt_Mismatch : PySem.W.typeIn K (.ref C_Mismatch) = some (.type "type"))
    (g_check_colours : PySem.W.nsIn K mainGlobals "check_colours" = some (some (.ref f_check_colours)))
    (m_range : PySem.W.nsIn K mainGlobals "range" = some none)
    (g_crossing_colours : PySem.W.nsIn K mainGlobals "crossing_colours" = some (some (.ref f_crossing_colours)))
    (c_DIGITS_ : PySem.W.nsIn K mainGlobals "DIGITS" = some (some (.str "012345" t_DIGITS)))
    (m_int : PySem.W.nsIn K mainGlobals "int" = some none)
    (m_abs : PySem.W.nsIn K mainGlobals "abs" = some none)
    (g__law_draw : PySem.W.nsIn K mainGlobals "_law_draw" = some (some (.ref f__law_draw)))
    (m_min : PySem.W.nsIn K mainGlobals "min" = some none)
    (m_bool : PySem.W.nsIn K mainGlobals "bool" = some none)
    (g__law_same : PySem.W.nsIn K mainGlobals "_law_same" = some (some (.ref f__law_same)))
    (g__law_picture : PySem.W.nsIn K mainGlobals "_law_picture" = some (some (.ref f__law_picture)))
    (g__law_turned : PySem.W.nsIn K mainGlobals "_law_turned" = some (some (.ref f__law_turned)))
    (g_face : PySem.W.nsIn K mainGlobals "face" = some (some (.ref f_face)))
    (g_MillError : PySem.W.nsIn K mainGlobals "MillError" = some (some (.ref C_MillError)))
    (xb_MillError : PySem.W.subIn K (.ref C_MillError) (.type "BaseException") = some true)
    (xt_MillError : PySem.W.typeIn K (.ref C_MillError) = some (.type "type"))
    (m_ValueError : PySem.W.nsIn K mainGlobals "ValueError" = some none)
    (g_TooLarge : PySem.W.nsIn K mainGlobals "TooLarge" = some (some (.ref C_TooLarge)))
    (g_back : PySem.W.nsIn K mainGlobals "back" = some (some (.ref f_back)))
    (g_hidden : PySem.W.nsIn K mainGlobals "hidden" = some (some (.ref f_hidden)))
    (g__law_asked_face : PySem.W.nsIn K mainGlobals "_law_asked_face" = some (some (.ref f__law_asked_face)))
    (g__law_asked_back : PySem.W.nsIn K mainGlobals "_law_asked_back" = some (some (.ref f__law_asked_back)))
    (g__law_asked_hidden : PySem.W.nsIn K mainGlobals "_law_asked_hidden" = some (some (.ref f__law_asked_hidden)))
    (g__law_due : PySem.W.nsIn K mainGlobals "_law_due" = some (some (.ref f__law_due)))
    (g__law_handed : PySem.W.nsIn K mainGlobals "_law_handed" = some (some (.ref f__law_handed)))
    (g__law_answers : PySem.W.nsIn K mainGlobals "_law_answers" = some (some (.ref f__law_answers)))
    (g__law_rows_told : PySem.W.nsIn K mainGlobals "_law_rows_told" = some (some (.ref f__law_rows_told)))
    (g__law_answered : PySem.W.nsIn K mainGlobals "_law_answered" = some (some (.ref f__law_answered)))
    (g_turned_over : PySem.W.nsIn K mainGlobals "turned_over" = some (some (.ref f_turned_over)))
    (g__law_word_due : PySem.W.nsIn K mainGlobals "_law_word_due" = some (some (.ref f__law_word_due)))
    (g__law_shows : PySem.W.nsIn K mainGlobals "_law_shows" = some (some (.ref f__law_shows)))
    (g__law_start : PySem.W.nsIn K mainGlobals "_law_start" = some (some (.ref f__law_start)))
    (g__law_side : PySem.W.nsIn K mainGlobals "_law_side" = some (some (.ref f__law_side)))
    (g__law_free_rows : PySem.W.nsIn K mainGlobals "_law_free_rows" = some (some (.ref f__law_free_rows)))
    (g__law_colours : PySem.W.nsIn K mainGlobals "_law_colours" = some (some (.ref f__law_colours)))
    (g__law_exchange : PySem.W.nsIn K mainGlobals "_law_exchange" = some (some (.ref f__law_exchange)))
    (g__law_spoilt : PySem.W.nsIn K mainGlobals "_law_spoilt" = some (some (.ref f__law_spoilt)))
    (g__law_refused : PySem.W.nsIn K mainGlobals "_law_refused" = some (some (.ref f__law_refused)))
    (icl_Cloth : PySem.W.isClsIn K C_Cloth = true)
    (tyc_Cloth : PySem.W.typeIn K (.ref C_Cloth) = some (.type "type"))
    (is_0 : PySem.W.mroIn K C_Cloth (.type "bool") = some false)
    (is_1 : PySem.W.mroIn K C_Cloth (.type "int") = some false)
    (is_2 : PySem.W.mroIn K C_Cloth (.type "str") = some false)
    (is_3 : PySem.W.mroIn K C_Cloth (.type "tuple") = some false)
    (is_4 : PySem.W.mroIn K C_Cloth (.type "list") = some false)
    (is_5 : PySem.W.mroIn K C_Cloth (.type "dict") = some false)
    (in1_Cloth : PySem.W.findIn K (.ref C_Cloth) "__class__" = some (some (.builtin "object.__class__")))
    (in2_Cloth : PySem.W.mroIn K C_Cloth (.type "object") = some true)
    (in3 : PySem.W.specialIn K (.builtin "object.__class__") "__get__" = some (some (.builtin "getset_descriptor.__get__")))
    (in4 : PySem.W.takesIn K (.builtin "object.__class__") = some true)
    (nm_Cloth : K.lookup C_Cloth = some ⟨nc_Cloth, nd_Cloth, .cls ⟨"Cloth", nb_Cloth, nm0_Cloth, nn_Cloth, nq_Cloth, nh_Cloth, ns_Cloth, nu_Cloth, na0_Cloth, nl_Cloth, ne0_Cloth⟩, nz_Cloth⟩)
    (nm_MillError : K.lookup C_MillError = some ⟨nc_MillError, nd_MillError, .cls ⟨"MillError", nb_MillError, nm0_MillError, nn_MillError, nq_MillError, nh_MillError, ns_MillError, nu_MillError, na0_MillError, nl_MillError, ne0_MillError⟩, nz_MillError⟩)
    (nm_BadColours : K.lookup C_BadColours = some ⟨nc_BadColours, nd_BadColours, .cls ⟨"BadColours", nb_BadColours, nm0_BadColours, nn_BadColours, nq_BadColours, nh_BadColours, ns_BadColours, nu_BadColours, na0_BadColours, nl_BadColours, ne0_BadColours⟩, nz_BadColours⟩)
    (nm_TooLarge : K.lookup C_TooLarge = some ⟨nc_TooLarge, nd_TooLarge, .cls ⟨"TooLarge", nb_TooLarge, nm0_TooLarge, nn_TooLarge, nq_TooLarge, nh_TooLarge, ns_TooLarge, nu_TooLarge, na0_TooLarge, nl_TooLarge, ne0_TooLarge⟩, nz_TooLarge⟩)
    (nm_Mismatch : K.lookup C_Mismatch = some ⟨nc_Mismatch, nd_Mismatch, .cls ⟨"Mismatch", nb_Mismatch, nm0_Mismatch, nn_Mismatch, nq_Mismatch, nh_Mismatch, ns_Mismatch, nu_Mismatch, na0_Mismatch, nl_Mismatch, ne0_Mismatch⟩, nz_Mismatch⟩)
    (xm_BadColours_Mismatch : PySem.W.mroIn K C_BadColours (.ref C_Mismatch) = some false)
    (icl_Mismatch : PySem.W.isClsIn K C_Mismatch = true)
    (tyc_Mismatch : PySem.W.typeIn K (.ref C_Mismatch) = some (.type "type"))
    (xm_BadColours_TooLarge : PySem.W.mroIn K C_BadColours (.ref C_TooLarge) = some false)
    (icl_TooLarge : PySem.W.isClsIn K C_TooLarge = true)
    (tyc_TooLarge : PySem.W.typeIn K (.ref C_TooLarge) = some (.type "type"))
    (xm_BadColours_ValueError : PySem.W.mroIn K C_BadColours (.type "ValueError") = some true)
    (xm_Mismatch_TooLarge : PySem.W.mroIn K C_Mismatch (.ref C_TooLarge) = some false)
    (xm_Mismatch_ValueError : PySem.W.mroIn K C_Mismatch (.type "ValueError") = some true)
    (xm_BadColours_MillError : PySem.W.mroIn K C_BadColours (.ref C_MillError) = some true)
    (hdx_MillError : PySem.W.hasDictIn K C_MillError = true)
    (xg1_BadColours : PySem.W.findIn K (.ref C_BadColours) "__getattribute__" = some (some (.builtin "BaseException.__getattribute__")))
    (xg2_BadColours : PySem.W.findIn K (.ref C_BadColours) "__getattr__" = some none)
    (xg3_BadColours : PySem.W.findIn K (.ref C_BadColours) "__class__" = some (some (.builtin "object.__class__")))
    (xg4_BadColours : PySem.W.mroIn K C_BadColours (.type "object") = some true)
    (hdx_BadColours : PySem.W.hasDictIn K C_BadColours = true)
    (xm_BadColours_BadColours : PySem.W.mroIn K C_BadColours (.ref C_BadColours) = some true)
    (hdx_Mismatch : PySem.W.hasDictIn K C_Mismatch = true)
    (xm_Mismatch_MillError : PySem.W.mroIn K C_Mismatch (.ref C_MillError) = some true)
    (xg1_Mismatch : PySem.W.findIn K (.ref C_Mismatch) "__getattribute__" = some (some (.builtin "BaseException.__getattribute__")))
    (xg2_Mismatch : PySem.W.findIn K (.ref C_Mismatch) "__getattr__" = some none)
    (xg3_Mismatch : PySem.W.findIn K (.ref C_Mismatch) "__class__" = some (some (.builtin "object.__class__")))
    (xg4_Mismatch : PySem.W.mroIn K C_Mismatch (.type "object") = some true)
    (xm_Mismatch_BadColours : PySem.W.mroIn K C_Mismatch (.ref C_BadColours) = some false)
    (xm_Mismatch_Mismatch : PySem.W.mroIn K C_Mismatch (.ref C_Mismatch) = some true)
    (glaw : PySem.W.nsIn K mainGlobals "law" = some (some (.ref f_law))) :
    ∃ (a : Ad) (fd : FuncData), (Ne a.C_Cloth a.C_MillError a.C_BadColours a.C_TooLarge a.C_Mismatch) ∧ (∀ (s : Shared) (v : Value), BindsTo s fd ⟨[v], []⟩ [("script", v)]) ∧ ∀ base : Heap, K.In base → base.Ns mainGlobals mg → FnOk l.prog w K mg base CX0 10 fa fd ["script"] (spOf K [.val] (D_law a.C_Cloth a.C_MillError a.C_BadColours a.C_TooLarge a.C_Mismatch)) := by
  have e := hfa.symm.trans (PySem.W.mg_of X G glaw)
  cases e
  have F_in_range := fun_mk (st := s_in_range) l_in_range c_in_range k_in_range
  have b_in_range := F_in_range.binds (ps := ["n", "low", "high"]) fun _ _ _ _ _ _ us hl => match us, hl with | [_, _, _], _ => rfl
  have F_colours_fit := fun_mk (st := s_colours_fit) l_colours_fit c_colours_fit k_colours_fit
  have b_colours_fit := F_colours_fit.binds (ps := ["colours"]) fun _ _ _ _ _ _ us hl => match us, hl with | [_], _ => rfl
  have F_rows_fit := fun_mk (st := s_rows_fit) l_rows_fit c_rows_fit k_rows_fit
  have b_rows_fit := F_rows_fit.binds (ps := ["rows", "signs", "most"]) fun _ _ _ _ _ _ us hl => match us, hl with | [_, _, _], _ => rfl
  have F_Cloth___init__ := fun_mk (st := s_Cloth___init__) l_Cloth___init__ c_Cloth___init__ k_Cloth___init__
  have b_Cloth___init__ := F_Cloth___init__.binds (ps := ["self", "rows"]) fun _ _ _ _ _ _ us hl => match us, hl with | [_, _], _ => rfl
  have F_other := fun_mk (st := s_other) l_other c_other k_other
  have b_other := F_other.binds (ps := ["sign"]) fun _ _ _ _ _ _ us hl => match us, hl with | [_], _ => rfl
  have F_turned_over := fun_mk (st := s_turned_over) l_turned_over c_turned_over k_turned_over
  have b_turned_over := F_turned_over.binds (ps := ["cloth"]) fun _ _ _ _ _ _ us hl => match us, hl with | [_], _ => rfl
  have F_check_colours := fun_mk (st := s_check_colours) l_check_colours c_check_colours k_check_colours
  have b_check_colours := F_check_colours.binds (ps := ["cloth", "warp", "weft"]) fun _ _ _ _ _ _ us hl => match us, hl with | [_, _, _], _ => rfl
  have F_crossing_colours := fun_mk (st := s_crossing_colours) l_crossing_colours c_crossing_colours k_crossing_colours
  have b_crossing_colours := F_crossing_colours.binds (ps := ["cloth", "warp", "weft", "i", "j"]) fun _ _ _ _ _ _ us hl => match us, hl with | [_, _, _, _, _], _ => rfl
  have F_face := fun_mk (st := s_face) l_face c_face k_face
  have b_face := F_face.binds (ps := ["cloth", "warp", "weft"]) fun _ _ _ _ _ _ us hl => match us, hl with | [_, _, _], _ => rfl
  have F_back := fun_mk (st := s_back) l_back c_back k_back
  have b_back := F_back.binds (ps := ["cloth", "warp", "weft"]) fun _ _ _ _ _ _ us hl => match us, hl with | [_, _, _], _ => rfl
  have F_hidden := fun_mk (st := s_hidden) l_hidden c_hidden k_hidden
  have b_hidden := F_hidden.binds (ps := ["cloth", "warp", "weft"]) fun _ _ _ _ _ _ us hl => match us, hl with | [_, _, _], _ => rfl
  have F__law_start := fun_mk (st := s__law_start) l__law_start c__law_start k__law_start
  have b__law_start := F__law_start.binds (ps := ["script"]) fun _ _ _ _ _ _ us hl => match us, hl with | [_], _ => rfl
  have F__law_draw := fun_mk (st := s__law_draw) l__law_draw c__law_draw k__law_draw
  have b__law_draw := F__law_draw.binds (ps := ["state", "span"]) fun _ _ _ _ _ _ us hl => match us, hl with | [_, _], _ => rfl
  have F__law_side := fun_mk (st := s__law_side) l__law_side c__law_side k__law_side
  have b__law_side := F__law_side.binds (ps := ["state", "most"]) fun _ _ _ _ _ _ us hl => match us, hl with | [_, _], _ => rfl
  have F__law_same := fun_mk (st := s__law_same) l__law_same c__law_same k__law_same
  have b__law_same := F__law_same.binds (ps := ["actual", "due"]) fun _ _ _ _ _ _ us hl => match us, hl with | [_, _], _ => rfl
  have F__law_free_rows := fun_mk (st := s__law_free_rows) l__law_free_rows c__law_free_rows k__law_free_rows
  have b__law_free_rows := F__law_free_rows.binds (ps := ["state", "h", "w"]) fun _ _ _ _ _ _ us hl => match us, hl with | [_, _, _], _ => rfl
  have F__law_exchange := fun_mk (st := s__law_exchange) l__law_exchange c__law_exchange k__law_exchange
  have b__law_exchange := F__law_exchange.binds (ps := ["cloth_rows", "i", "j"]) fun _ _ _ _ _ _ us hl => match us, hl with | [_, _, _], _ => rfl
  have F__law_turned := fun_mk (st := s__law_turned) l__law_turned c__law_turned k__law_turned
  have b__law_turned := F__law_turned.binds (ps := ["cloth_rows"]) fun _ _ _ _ _ _ us hl => match us, hl with | [_], _ => rfl
  have F__law_rows_told := fun_mk (st := s__law_rows_told) l__law_rows_told c__law_rows_told k__law_rows_told
  have b__law_rows_told := F__law_rows_told.binds (ps := ["told"]) fun _ _ _ _ _ _ us hl => match us, hl with | [_], _ => rfl
  have F__law_picture := fun_mk (st := s__law_picture) l__law_picture c__law_picture k__law_picture
  have b__law_picture := F__law_picture.binds (ps := ["cloth_rows", "warp", "weft"]) fun _ _ _ _ _ _ us hl => match us, hl with | [_, _, _], _ => rfl
  have F__law_colours := fun_mk (st := s__law_colours) l__law_colours c__law_colours k__law_colours
  have b__law_colours := F__law_colours.binds (ps := ["state", "count", "span"]) fun _ _ _ _ _ _ us hl => match us, hl with | [_, _, _], _ => rfl
  have F__law_due := fun_mk (st := s__law_due) l__law_due c__law_due k__law_due
  have b__law_due := F__law_due.binds (ps := ["cloth_rows", "warp", "weft"]) fun _ _ _ _ _ _ us hl => match us, hl with | [_, _, _], _ => rfl
  have F__law_asked_face := fun_mk (st := s__law_asked_face) l__law_asked_face c__law_asked_face k__law_asked_face
  have b__law_asked_face := F__law_asked_face.binds (ps := ["cloth", "warp", "weft"]) fun _ _ _ _ _ _ us hl => match us, hl with | [_, _, _], _ => rfl
  have F__law_asked_back := fun_mk (st := s__law_asked_back) l__law_asked_back c__law_asked_back k__law_asked_back
  have b__law_asked_back := F__law_asked_back.binds (ps := ["cloth", "warp", "weft"]) fun _ _ _ _ _ _ us hl => match us, hl with | [_, _, _], _ => rfl
  have F__law_asked_hidden := fun_mk (st := s__law_asked_hidden) l__law_asked_hidden c__law_asked_hidden k__law_asked_hidden
  have b__law_asked_hidden := F__law_asked_hidden.binds (ps := ["cloth", "warp", "weft"]) fun _ _ _ _ _ _ us hl => match us, hl with | [_, _, _], _ => rfl
  have F__law_handed := fun_mk (st := s__law_handed) l__law_handed c__law_handed k__law_handed
  have b__law_handed := F__law_handed.binds (ps := ["warp", "weft", "turn"]) fun _ _ _ _ _ _ us hl => match us, hl with | [_, _, _], _ => rfl
  have F__law_answers := fun_mk (st := s__law_answers) l__law_answers c__law_answers k__law_answers
  have b__law_answers := F__law_answers.binds (ps := ["cloth", "warp", "weft", "turn"]) fun _ _ _ _ _ _ us hl => match us, hl with | [_, _, _, _], _ => rfl
  have F__law_answered := fun_mk (st := s__law_answered) l__law_answered c__law_answered k__law_answered
  have b__law_answered := F__law_answered.binds (ps := ["cloth", "cloth_rows", "warp", "weft", "turn"]) fun _ _ _ _ _ _ us hl => match us, hl with | [_, _, _, _, _], _ => rfl
  have F__law_shows := fun_mk (st := s__law_shows) l__law_shows c__law_shows k__law_shows
  have b__law_shows := F__law_shows.binds (ps := ["cloth_rows", "warp", "weft", "turn"]) fun _ _ _ _ _ _ us hl => match us, hl with | [_, _, _, _], _ => rfl
  have F__law_spoilt := fun_mk (st := s__law_spoilt) l__law_spoilt c__law_spoilt k__law_spoilt
  have b__law_spoilt := F__law_spoilt.binds (ps := ["state", "colours"]) fun _ _ _ _ _ _ us hl => match us, hl with | [_, _], _ => rfl
  have F__law_word_due := fun_mk (st := s__law_word_due) l__law_word_due c__law_word_due k__law_word_due
  have b__law_word_due := F__law_word_due.binds (ps := ["h", "w", "warp", "weft"]) fun _ _ _ _ _ _ us hl => match us, hl with | [_, _, _, _], _ => rfl
  have F__law_refused := fun_mk (st := s__law_refused) l__law_refused c__law_refused k__law_refused
  have b__law_refused := F__law_refused.binds (ps := ["cloth_rows", "warp", "weft", "right", "turn"]) fun _ _ _ _ _ _ us hl => match us, hl with | [_, _, _, _, _], _ => rfl
  have F_law := fun_mk (st := s_law) l_law c_law k_law
  have b_law := F_law.binds (ps := ["script"]) fun _ _ _ _ _ _ us hl => match us, hl with | [_], _ => rfl
  have ne : Ne C_Cloth C_MillError C_BadColours C_TooLarge C_Mismatch := { ne_Cloth_MillError := VS.cls_ne nm_Cloth nm_MillError (by decide +kernel), ne_Cloth_BadColours := VS.cls_ne nm_Cloth nm_BadColours (by decide +kernel), ne_Cloth_TooLarge := VS.cls_ne nm_Cloth nm_TooLarge (by decide +kernel), ne_Cloth_Mismatch := VS.cls_ne nm_Cloth nm_Mismatch (by decide +kernel), ne_MillError_Cloth := VS.cls_ne nm_MillError nm_Cloth (by decide +kernel), ne_MillError_BadColours := VS.cls_ne nm_MillError nm_BadColours (by decide +kernel), ne_MillError_TooLarge := VS.cls_ne nm_MillError nm_TooLarge (by decide +kernel), ne_MillError_Mismatch := VS.cls_ne nm_MillError nm_Mismatch (by decide +kernel), ne_BadColours_Cloth := VS.cls_ne nm_BadColours nm_Cloth (by decide +kernel), ne_BadColours_MillError := VS.cls_ne nm_BadColours nm_MillError (by decide +kernel), ne_BadColours_TooLarge := VS.cls_ne nm_BadColours nm_TooLarge (by decide +kernel), ne_BadColours_Mismatch := VS.cls_ne nm_BadColours nm_Mismatch (by decide +kernel), ne_TooLarge_Cloth := VS.cls_ne nm_TooLarge nm_Cloth (by decide +kernel), ne_TooLarge_MillError := VS.cls_ne nm_TooLarge nm_MillError (by decide +kernel), ne_TooLarge_BadColours := VS.cls_ne nm_TooLarge nm_BadColours (by decide +kernel), ne_TooLarge_Mismatch := VS.cls_ne nm_TooLarge nm_Mismatch (by decide +kernel), ne_Mismatch_Cloth := VS.cls_ne nm_Mismatch nm_Cloth (by decide +kernel), ne_Mismatch_MillError := VS.cls_ne nm_Mismatch nm_MillError (by decide +kernel), ne_Mismatch_BadColours := VS.cls_ne nm_Mismatch nm_BadColours (by decide +kernel), ne_Mismatch_TooLarge := VS.cls_ne nm_Mismatch nm_TooLarge (by decide +kernel) }
  have isa_t : ∀ e ∈ isaT C_Cloth, PySem.W.kitOne K e.1.v e.2.1.v = some e.2.2 := by
    intro e m
    simp only [isaT, List.mem_cons, List.not_mem_nil, or_false] at m
    rcases m with rfl | rfl | rfl | rfl | rfl | rfl | rfl | rfl | rfl | rfl | rfl | rfl | rfl | rfl
    · exact VS.kit_co (by decide +kernel) is_0
    · exact VS.kit_co (by decide +kernel) is_1
    · exact VS.kit_co (by decide +kernel) is_2
    · exact VS.kit_co (by decide +kernel) is_3
    · exact VS.kit_co (by decide +kernel) is_4
    · exact VS.kit_co (by decide +kernel) is_5
    · exact VS.kit_bo icl_Cloth tyc_Cloth rfl
    · exact VS.kit_bo icl_Cloth tyc_Cloth rfl
    · exact VS.kit_bo icl_Cloth tyc_Cloth rfl
    · exact VS.kit_bo icl_Cloth tyc_Cloth rfl
    · exact VS.kit_bo icl_Cloth tyc_Cloth rfl
    · exact VS.kit_bo icl_Cloth tyc_Cloth rfl
    · exact VS.kit_bo icl_Cloth tyc_Cloth rfl
    · exact VS.kit_cc
  have isx_t : ∀ e ∈ isxT C_BadColours C_TooLarge C_Mismatch, PySem.W.kitOne K e.1.v e.2.1.v = some e.2.2 := by
    intro e m
    simp only [isxT, List.mem_cons, List.not_mem_nil, or_false] at m
    rcases m with rfl | rfl | rfl | rfl | rfl | rfl
    · exact VS.kit_rr ne.ne_BadColours_Mismatch icl_Mismatch tyc_Mismatch xm_BadColours_Mismatch
    · exact VS.kit_rr ne.ne_BadColours_TooLarge icl_TooLarge tyc_TooLarge xm_BadColours_TooLarge
    · exact VS.kit_co (by decide +kernel) xm_BadColours_ValueError
    · exact VS.kit_cc
    · exact VS.kit_rr ne.ne_Mismatch_TooLarge icl_TooLarge tyc_TooLarge xm_Mismatch_TooLarge
    · exact VS.kit_co (by decide +kernel) xm_Mismatch_ValueError
  have ext_t : ∀ e ∈ exT C_MillError C_BadColours C_Mismatch, PySem.W.exmOne K (.ref e.1) (.ref e.2.1) = some e.2.2 := by
    intro e m
    simp only [exT, List.mem_cons, List.not_mem_nil, or_false] at m
    rcases m with rfl | rfl | rfl | rfl | rfl | rfl
    · exact PySem.W.exm_ref xb_MillError hdx_MillError xt_MillError xm_BadColours_MillError
    · exact PySem.W.exm_ref xb_BadColours hdx_BadColours xt_BadColours xm_BadColours_BadColours
    · exact PySem.W.exm_ref xb_Mismatch hdx_Mismatch xt_Mismatch xm_BadColours_Mismatch
    · exact PySem.W.exm_ref xb_MillError hdx_MillError xt_MillError xm_Mismatch_MillError
    · exact PySem.W.exm_ref xb_BadColours hdx_BadColours xt_BadColours xm_Mismatch_BadColours
    · exact PySem.W.exm_ref xb_Mismatch hdx_Mismatch xt_Mismatch xm_Mismatch_Mismatch
  have ext_c : ∀ e ∈ exT C_MillError C_BadColours C_Mismatch, ExcC K e.1 := by
    intro e m
    simp only [exT, List.mem_cons, List.not_mem_nil, or_false] at m
    rcases m with rfl | rfl | rfl | rfl | rfl | rfl
    · exact ⟨xg1_BadColours, xg2_BadColours, xb_BadColours, hdx_BadColours, xg3_BadColours, in3, in4, xg4_BadColours⟩
    · exact ⟨xg1_BadColours, xg2_BadColours, xb_BadColours, hdx_BadColours, xg3_BadColours, in3, in4, xg4_BadColours⟩
    · exact ⟨xg1_BadColours, xg2_BadColours, xb_BadColours, hdx_BadColours, xg3_BadColours, in3, in4, xg4_BadColours⟩
    · exact ⟨xg1_Mismatch, xg2_Mismatch, xb_Mismatch, hdx_Mismatch, xg3_Mismatch, in3, in4, xg4_Mismatch⟩
    · exact ⟨xg1_Mismatch, xg2_Mismatch, xb_Mismatch, hdx_Mismatch, xg3_Mismatch, in3, in4, xg4_Mismatch⟩
    · exact ⟨xg1_Mismatch, xg2_Mismatch, xb_Mismatch, hdx_Mismatch, xg3_Mismatch, in3, in4, xg4_Mismatch⟩
  have isa_c : ∀ C ∈ [C_Cloth], InsTy K C := by
    intro C m
    simp only [List.mem_cons, List.not_mem_nil, or_false] at m
    rcases m with rfl
    · exact ⟨⟨pg_Cloth, hd_Cloth, po_Cloth, sa_Cloth⟩, in1_Cloth, in3, in4, in2_Cloth⟩
  have o : Ok { f_in_range := f_in_range, fd_in_range := _, f_colours_fit := f_colours_fit, fd_colours_fit := _, f_rows_fit := f_rows_fit, fd_rows_fit := _, f_Cloth___init__ := f_Cloth___init__, fd_Cloth___init__ := _, f_other := f_other, fd_other := _, f_turned_over := f_turned_over, fd_turned_over := _, f_check_colours := f_check_colours, fd_check_colours := _, f_crossing_colours := f_crossing_colours, fd_crossing_colours := _, f_face := f_face, fd_face := _, f_back := f_back, fd_back := _, f_hidden := f_hidden, fd_hidden := _, f__law_start := f__law_start, fd__law_start := _, f__law_draw := f__law_draw, fd__law_draw := _, f__law_side := f__law_side, fd__law_side := _, f__law_same := f__law_same, fd__law_same := _, f__law_free_rows := f__law_free_rows, fd__law_free_rows := _, f__law_exchange := f__law_exchange, fd__law_exchange := _, f__law_turned := f__law_turned, fd__law_turned := _, f__law_rows_told := f__law_rows_told, fd__law_rows_told := _, f__law_picture := f__law_picture, fd__law_picture := _, f__law_colours := f__law_colours, fd__law_colours := _, f__law_due := f__law_due, fd__law_due := _, f__law_asked_face := f__law_asked_face, fd__law_asked_face := _, f__law_asked_back := f__law_asked_back, fd__law_asked_back := _, f__law_asked_hidden := f__law_asked_hidden, fd__law_asked_hidden := _, f__law_handed := f__law_handed, fd__law_handed := _, f__law_answers := f__law_answers, fd__law_answers := _, f__law_answered := f__law_answered, fd__law_answered := _, f__law_shows := f__law_shows, fd__law_shows := _, f__law_spoilt := f__law_spoilt, fd__law_spoilt := _, f__law_word_due := f__law_word_due, fd__law_word_due := _, f__law_refused := f__law_refused, fd__law_refused := _, f_law := fa, fd_law := _, C_Cloth := C_Cloth, C_MillError := C_MillError, C_BadColours := C_BadColours, C_TooLarge := C_TooLarge, C_Mismatch := C_Mismatch } K mg := { m_isinstance := PySem.W.mg_none_of X G m_isinstance, m_list := PySem.W.mg_none_of X G m_list, m_tuple := PySem.W.mg_none_of X G m_tuple, F_in_range := F_in_range, b_in_range := b_in_range, g_in_range := PySem.W.mg_of X G g_in_range, m_len := PySem.W.mg_none_of X G m_len, F_rows_fit := F_rows_fit, b_rows_fit := b_rows_fit, g_rows_fit := PySem.W.mg_of X G g_rows_fit, c_SIGNS := ⟨_, PySem.W.mg_of X G c_SIGNS_, ⟨_, rfl⟩⟩, g_Cloth := PySem.W.mg_of X G g_Cloth, r_Cloth := ⟨rd_Cloth, ga_Cloth⟩, k_Cloth_MOST := ⟨_, ⟨k_Cloth_MOST_, ⟨_, rfl⟩⟩⟩, cl_Cloth := ⟨pg_Cloth, hd_Cloth, po_Cloth, sa_Cloth⟩, na_Cloth_rows := na_Cloth_rows, na_Cloth_picks := na_Cloth_picks, na_Cloth_ends := na_Cloth_ends, m_str := PySem.W.mg_none_of X G m_str, m_sum := PySem.W.mg_none_of X G m_sum, F_Cloth___init__ := F_Cloth___init__, b_Cloth___init__ := b_Cloth___init__, mk_Cloth := ⟨mk1_Cloth, mk2_Cloth, i_Cloth___init__, mk3_Cloth⟩, F_other := F_other, b_other := b_other, g_other := PySem.W.mg_of X G g_other, F_colours_fit := F_colours_fit, b_colours_fit := b_colours_fit, g_colours_fit := PySem.W.mg_of X G g_colours_fit, g_BadColours := PySem.W.mg_of X G g_BadColours, xi_BadColours := xi_BadColours, xk_BadColours := xk_BadColours, xb_BadColours := xb_BadColours, xt_BadColours := xt_BadColours, g_Mismatch := PySem.W.mg_of X G g_Mismatch, xi_Mismatch := xi_Mismatch, xk_Mismatch := xk_Mismatch, xb_Mismatch := xb_Mismatch, xt_Mismatch := xt_Mismatch, F_check_colours := F_check_colours, b_check_colours := b_check_colours, g_check_colours := PySem.W.mg_of X G g_check_colours, m_range := PySem.W.mg_none_of X G m_range, F_crossing_colours := F_crossing_colours, b_crossing_colours := b_crossing_colours, g_crossing_colours := PySem.W.mg_of X G g_crossing_colours, c_DIGITS := ⟨_, PySem.W.mg_of X G c_DIGITS_, ⟨_, rfl⟩⟩, m_int := PySem.W.mg_none_of X G m_int, m_abs := PySem.W.mg_none_of X G m_abs, F__law_draw := F__law_draw, b__law_draw := b__law_draw, g__law_draw := PySem.W.mg_of X G g__law_draw, m_min := PySem.W.mg_none_of X G m_min, m_bool := PySem.W.mg_none_of X G m_bool, F__law_same := F__law_same, b__law_same := b__law_same, g__law_same := PySem.W.mg_of X G g__law_same, F__law_picture := F__law_picture, b__law_picture := b__law_picture, g__law_picture := PySem.W.mg_of X G g__law_picture, F__law_turned := F__law_turned, b__law_turned := b__law_turned, g__law_turned := PySem.W.mg_of X G g__law_turned, F_face := F_face, b_face := b_face, g_face := PySem.W.mg_of X G g_face, g_MillError := PySem.W.mg_of X G g_MillError, xb_MillError := xb_MillError, xt_MillError := xt_MillError, m_ValueError := PySem.W.mg_none_of X G m_ValueError, g_TooLarge := PySem.W.mg_of X G g_TooLarge, F_back := F_back, b_back := b_back, g_back := PySem.W.mg_of X G g_back, F_hidden := F_hidden, b_hidden := b_hidden, g_hidden := PySem.W.mg_of X G g_hidden, F__law_asked_face := F__law_asked_face, b__law_asked_face := b__law_asked_face, g__law_asked_face := PySem.W.mg_of X G g__law_asked_face, F__law_asked_back := F__law_asked_back, b__law_asked_back := b__law_asked_back, g__law_asked_back := PySem.W.mg_of X G g__law_asked_back, F__law_asked_hidden := F__law_asked_hidden, b__law_asked_hidden := b__law_asked_hidden, g__law_asked_hidden := PySem.W.mg_of X G g__law_asked_hidden, F__law_due := F__law_due, b__law_due := b__law_due, g__law_due := PySem.W.mg_of X G g__law_due, F__law_handed := F__law_handed, b__law_handed := b__law_handed, g__law_handed := PySem.W.mg_of X G g__law_handed, F__law_answers := F__law_answers, b__law_answers := b__law_answers, g__law_answers := PySem.W.mg_of X G g__law_answers, F__law_rows_told := F__law_rows_told, b__law_rows_told := b__law_rows_told, g__law_rows_told := PySem.W.mg_of X G g__law_rows_told, F__law_answered := F__law_answered, b__law_answered := b__law_answered, g__law_answered := PySem.W.mg_of X G g__law_answered, F_turned_over := F_turned_over, b_turned_over := b_turned_over, g_turned_over := PySem.W.mg_of X G g_turned_over, F__law_word_due := F__law_word_due, b__law_word_due := b__law_word_due, g__law_word_due := PySem.W.mg_of X G g__law_word_due, F__law_shows := F__law_shows, b__law_shows := b__law_shows, g__law_shows := PySem.W.mg_of X G g__law_shows, F__law_start := F__law_start, b__law_start := b__law_start, g__law_start := PySem.W.mg_of X G g__law_start, F__law_side := F__law_side, b__law_side := b__law_side, g__law_side := PySem.W.mg_of X G g__law_side, F__law_free_rows := F__law_free_rows, b__law_free_rows := b__law_free_rows, g__law_free_rows := PySem.W.mg_of X G g__law_free_rows, F__law_colours := F__law_colours, b__law_colours := b__law_colours, g__law_colours := PySem.W.mg_of X G g__law_colours, F__law_exchange := F__law_exchange, b__law_exchange := b__law_exchange, g__law_exchange := PySem.W.mg_of X G g__law_exchange, F__law_spoilt := F__law_spoilt, b__law_spoilt := b__law_spoilt, g__law_spoilt := PySem.W.mg_of X G g__law_spoilt, F__law_refused := F__law_refused, b__law_refused := b__law_refused, g__law_refused := PySem.W.mg_of X G g__law_refused, F_law := F_law, b_law := b_law, isa_t := isa_t, isa_c := isa_c, isx_t := isx_t, ext_t := ext_t, ext_c := ext_c }
  exact ⟨{ f_in_range := f_in_range, fd_in_range := _, f_colours_fit := f_colours_fit, fd_colours_fit := _, f_rows_fit := f_rows_fit, fd_rows_fit := _, f_Cloth___init__ := f_Cloth___init__, fd_Cloth___init__ := _, f_other := f_other, fd_other := _, f_turned_over := f_turned_over, fd_turned_over := _, f_check_colours := f_check_colours, fd_check_colours := _, f_crossing_colours := f_crossing_colours, fd_crossing_colours := _, f_face := f_face, fd_face := _, f_back := f_back, fd_back := _, f_hidden := f_hidden, fd_hidden := _, f__law_start := f__law_start, fd__law_start := _, f__law_draw := f__law_draw, fd__law_draw := _, f__law_side := f__law_side, fd__law_side := _, f__law_same := f__law_same, fd__law_same := _, f__law_free_rows := f__law_free_rows, fd__law_free_rows := _, f__law_exchange := f__law_exchange, fd__law_exchange := _, f__law_turned := f__law_turned, fd__law_turned := _, f__law_rows_told := f__law_rows_told, fd__law_rows_told := _, f__law_picture := f__law_picture, fd__law_picture := _, f__law_colours := f__law_colours, fd__law_colours := _, f__law_due := f__law_due, fd__law_due := _, f__law_asked_face := f__law_asked_face, fd__law_asked_face := _, f__law_asked_back := f__law_asked_back, fd__law_asked_back := _, f__law_asked_hidden := f__law_asked_hidden, fd__law_asked_hidden := _, f__law_handed := f__law_handed, fd__law_handed := _, f__law_answers := f__law_answers, fd__law_answers := _, f__law_answered := f__law_answered, fd__law_answered := _, f__law_shows := f__law_shows, fd__law_shows := _, f__law_spoilt := f__law_spoilt, fd__law_spoilt := _, f__law_word_due := f__law_word_due, fd__law_word_due := _, f__law_refused := f__law_refused, fd__law_refused := _, f_law := fa, fd_law := _, C_Cloth := C_Cloth, C_MillError := C_MillError, C_BadColours := C_BadColours, C_TooLarge := C_TooLarge, C_Mismatch := C_Mismatch }, _, ne, fun s v => .of_eq rfl, fun base _ _ => ok_law o⟩
end Wk21

namespace Wk21
open PySem PySem.Spec PyProof.Rows L2 VS
def stD (cs : List Int) (p r sd k : Int) : D := .nd (.lst true) [.nd (.lst true) (cs.map D.int), .v (.int p), .v (.int r), .v (.int sd), .v (.int k)]
structure StO (N : Nat) (p r sd k : Int) : Prop where
  p0 : 0 ≤ p
  k0 : 0 ≤ k
  kN : k ≤ N
  s0 : 0 ≤ sd
  s1 : sd < 2147483647
theorem draw_ok {N : Nat} (hN : N < 1000000000000) {cs : List Int} {p r sd k span : Int} (o : StO N p r sd k) (hs : 0 < span) (hs2 : span ≤ 10000000000) :
    ∃ d p' r' k', D__law_draw [stD cs p r sd k, .int span] = .ok (.int d, [stD cs p' r' sd k']) ∧ 0 ≤ d ∧ d < span ∧ StO (N + 1) p' r' sd k' := by
  have hlog : span.natAbs.log2 < 9000 := Nat.lt_trans (log2_lt (by omega)) (by decide)
  obtain ⟨p0, k0, kN, s0, s1⟩ := o
  have hL : lenD (.nd (.lst true) (cs.map D.int)) = some (.v (.int cs.length)) := len_ints
  have hO : D.hass NK.isOwn (cs.map D.int) = false := has_ints _ cs
  have hG : p < (cs.length : Int) → ∃ c0, (cs.map D.int)[p.toNat]? = some (.v (.int c0)) := fun h => ⟨_, by rw [List.getElem?_map, List.getElem?_eq_getElem (show p.toNat < cs.length by omega)]; rfl⟩
  unfold stD
  generalize (cs.length : Int) = m at *
  generalize cs.map D.int = L at *
  by_cases h1 : r > 1
  · refine ⟨r % span, p, r / span, k + 1, ?_, Int.emod_nonneg _ (by omega), Int.emod_lt_of_pos _ hs, ⟨p0, by omega, by omega, s0, s1⟩⟩
    simp [D__law_draw, b__law_draw, if__law_draw_1, if__law_draw_2, if__law_draw_3, ix_lst, ixN_pos, hO, h1, hs, hlog]
  · -- the mixing
    have mix : ∀ base : Int, 0 ≤ base → base < 10 ^ 18 → ∃ m1 m2 m3 : Int, m1 = (base * 48271 + (k + 1) * 69621 + 11) % 2147483647 ∧ m2 = (m1 * m1 + (k + 1) * 7919) % 2147483629 ∧ m3 = (m2 * m2 + 101) % 2147483587 ∧
        oMul (.v (.int base)) (.v (.int 48271)) = some (.v (.int (base * 48271))) ∧ oMul (.v (.int (k + 1))) (.v (.int 69621)) = some (.v (.int ((k + 1) * 69621))) ∧
        oMul (.v (.int m1)) (.v (.int m1)) = some (.v (.int (m1 * m1))) ∧ oMul (.v (.int (k + 1))) (.v (.int 7919)) = some (.v (.int ((k + 1) * 7919))) ∧ oMul (.v (.int m2)) (.v (.int m2)) = some (.v (.int (m2 * m2))) := fun base b0 b1 => by
      refine ⟨_, _, _, rfl, rfl, rfl, oMul_s (by omega) (by omega) (by omega) (by omega), oMul_s (by omega) (by omega) (by omega) (by omega), ?_, oMul_s (by omega) (by omega) (by omega) (by omega), ?_⟩
      · have := Int.emod_nonneg (base * 48271 + (k + 1) * 69621 + 11) (show (2147483647 : Int) ≠ 0 by decide)
        have := Int.emod_lt_of_pos (base * 48271 + (k + 1) * 69621 + 11) (show (0 : Int) < 2147483647 by decide)
        exact oMul_s (by omega) (by omega) (by omega) (by omega)
      · generalize ((base * 48271 + (k + 1) * 69621 + 11) % 2147483647 * ((base * 48271 + (k + 1) * 69621 + 11) % 2147483647) + (k + 1) * 7919) = z
        have := Int.emod_nonneg z (show (2147483629 : Int) ≠ 0 by decide)
        have := Int.emod_lt_of_pos z (show (0 : Int) < 2147483629 by decide)
        exact oMul_s (by omega) (by omega) (by omega) (by omega)
    by_cases h2 : p < m
    · obtain ⟨c0, e0⟩ := hG h2
      have a0 : 0 ≤ (if c0 < 0 then -c0 else c0) := by split <;> omega
      generalize hb : (if c0 < 0 then -c0 else c0) = b at *
      by_cases h3 : 1000000000000000000 ≤ b
      · refine ⟨b % span, p + 1, b / span, k + 1, ?_, Int.emod_nonneg _ (by omega), Int.emod_lt_of_pos _ hs, ⟨by omega, by omega, by omega, s0, s1⟩⟩
        simp [D__law_draw, b__law_draw, if__law_draw_1, if__law_draw_2, if__law_draw_3, ix_lst, ixN_pos, hO, hL, h1, h2, hs, hlog, p0, e0, hb, h3]
      · obtain ⟨m1, m2, m3, e1, e2, e3, f1, f2, f3, f4, f5⟩ := mix b a0 (by omega)
        refine ⟨m3 % span, p + 1, r, k + 1, ?_, Int.emod_nonneg _ (by omega), Int.emod_lt_of_pos _ hs, ⟨by omega, by omega, by omega, s0, s1⟩⟩
        simp [D__law_draw, b__law_draw, if__law_draw_1, if__law_draw_2, if__law_draw_3, ix_lst, ixN_pos, hO, hL, h1, h2, hs, hlog, p0, e0, hb, h3, f1, f2, ← e1, f3, f4, ← e2, f5, ← e3]
    · obtain ⟨m1, m2, m3, e1, e2, e3, f1, f2, f3, f4, f5⟩ := mix sd s0 (by omega)
      refine ⟨m3 % span, p, r, k + 1, ?_, Int.emod_nonneg _ (by omega), Int.emod_lt_of_pos _ hs, ⟨p0, by omega, by omega, s0, s1⟩⟩
      simp [D__law_draw, b__law_draw, if__law_draw_1, if__law_draw_2, if__law_draw_3, ix_lst, ixN_pos, hO, hL, h1, h2, hs, hlog, f1, f2, ← e1, f3, f4, ← e2, f5, ← e3]
/-- a state that draws, at most N times drawn -/
def St (N : Nat) (x : D) : Prop := ∃ cs p r sd k, x = stD cs p r sd k ∧ StO N p r sd k
theorem St.le {N M : Nat} {x : D} (h : St N x) (l : N ≤ M) : St M x := by
  obtain ⟨cs, p, r, sd, k, e, o⟩ := h
  exact ⟨cs, p, r, sd, k, e, ⟨o.p0, o.k0, by have := o.kN; omega, o.s0, o.s1⟩⟩
theorem stD_shr {cs : List Int} {p r sd k : Int} : (stD cs p r sd k).has NK.isShr = false := by
  unfold stD; simp [has_ints]
theorem St.shr {N : Nat} {x : D} (h : St N x) : x.has NK.isShr = false := by
  obtain ⟨cs, p, r, sd, k, rfl, o⟩ := h; exact stD_shr
theorem St.isUn {N : Nat} {x : D} (h : St N x) : x.isUn = false := by
  obtain ⟨cs, p, r, sd, k, rfl, o⟩ := h; rfl
abbrev BIG : Nat := 1000000000000
theorem draw {N : Nat} (hN : N < BIG) {x : D} (h : St N x) {span : Int} (hs : 0 < span) (hs2 : span ≤ 10000000000) :
    ∃ d x', D__law_draw [x, .v (.int span)] = .ok (.v (.int d), [x']) ∧ 0 ≤ d ∧ d < span ∧ St (N + 1) x' := by
  obtain ⟨cs, p, r, sd, k, rfl, o⟩ := h
  obtain ⟨d, p', r', k', e, d0, d1, o'⟩ := draw_ok hN o hs hs2
  exact ⟨d, _, e, d0, d1, ⟨_, _, _, _, _, rfl, o'⟩⟩
/-- what a call of a def with a state and a number gives, where the state stands in slot 0 -/
theorem call_st {F : FD} {N : Nat} {x x' : D} {v : V} {s : List D} {m : Md} {mr : List Nat} {de : E} {i : Int} (hx : St N x) (he : de (x :: s) = .ok (.v (.int i), x :: s)) (h : F [x, .v (.int i)] = .ok (.v v, [x'])) (hx' : x'.has NK.isShr = false) :
    dCall F [.io 0, .val m] (dCslot 0 (dCval m mr de dCnil)) (x :: s) = .ok (.v v, x' :: s) := by
  have hu := hx.isUn
  unfold dCall dCslot dCval dCnil
  have e0 : dn 0 (x :: s) = .ok (x, x :: s) := dn_eq rfl (fun z => by rw [z] at hu; cases hu)
  cases x with
  | un => cases hu
  | v y => simp [e0, he, h, hx']
  | nd k xs => simp [e0, he, h, hx']
/-- a call whose first argument is the state in slot 0, the others values -/
theorem call0 {F : FD} {ks : List AK} {dr : EC} {x x1 x2 r : D} {s s1 : List D} {os : List (Option D)} {as : List D} (hx : x.isUn = false) (hr : dr (x :: s) = .ok (os, x1 :: s1)) (hx1 : x1.isUn = false) (ha : asmD ks os (x1 :: s1) = some as) (hv : valOk [0] ks os = true) (hu : (as.all fun y => !y.isUn) = true)
    (hk : ixs ks = []) (hp : ∀ os' s', putD' ks os' s' = s') (hF : F (x1 :: as) = .ok (r, [x2])) (hz : r.has NK.isShr = false) (hz2 : x2.has NK.isShr = false) : dCall F (.io 0 :: ks) (dCslot 0 dr) (x :: s) = .ok (r, x2 :: s1) := by
  have e0 : dn 0 (x :: s) = .ok (x, x :: s) := dn_eq rfl (fun z => by rw [z] at hx; cases hx)
  unfold dCall dCslot
  rw [e0]
  simp only [R.bind, hr]
  have ea : asmD (.io 0 :: ks) (none :: os) (x1 :: s1) = some (x1 :: as) := by
    rw [asmD]
    cases x1 with
    | un => cases hx1
    | v y => simp [ha]
    | nd k xs => simp [ha]
  rw [ea]
  simp only [ixs, hk, valOk, hv, List.all_cons, hx1, hu, Bool.not_false, Bool.and_self, if_true, hF]
  have : (valFree (.io 0 :: ks) (none :: os) || (!r.hasShr && !D.hass NK.isShr [x2])) = true := by
    show (_ || (!r.has NK.isShr && !(x2.has NK.isShr || false))) = true
    rw [hz, hz2]; simp
  rw [if_pos this]
  simp [putD, ixs, hk, putD', hp]
theorem side {N : Nat} (hN : N + 2 < BIG) {x : D} (h : St N x) {most : Int} (hm : 1 ≤ most) (hm2 : most ≤ 1000) :
    ∃ d x', D__law_side [x, .v (.int most)] = .ok (.v (.int d), [x']) ∧ 1 ≤ d ∧ d ≤ most ∧ St (N + 2) x' := by
  obtain ⟨k, x1, e1, k0, k1, h1⟩ := draw (by omega) h (span := 16) (by decide) (by decide)
  have c1 : dCall D__law_draw [.io 0, .val .tmp] (dCslot 0 (dCval .tmp [] (dc (.int 16)) dCnil)) [x, .v (.int most), .un] = .ok (.v (.int k), [x1, .v (.int most), .un]) := call_st h rfl e1 h1.shr
  by_cases hk : k = 0
  · subst hk
    obtain ⟨d, x2, e2, d0, d1, h2⟩ := draw (by omega) h1 (span := most) (by omega) (by omega)
    have c2 : dCall D__law_draw [.io 0, .val (.vw [1])] (dCslot 0 (dCval (.vw [1]) [] (dn 1) dCnil)) [x1, .v (.int most), .v (.int 0)] = .ok (.v (.int d), [x2, .v (.int most), .v (.int 0)]) := call_st h1 rfl e2 h2.shr
    refine ⟨1 + d, x2, ?_, by omega, by omega, h2⟩
    simp [D__law_side, b__law_side, if__law_side_1, if__law_side_2, -u_dCall_1, -u_dCslot_1, -u_dCval_1, c1, c2]
  · have go : ∀ z : Int, 1 ≤ z → ∃ d x', D__law_draw [x1, .v (.int (minI most z))] = .ok (.v (.int d), [x']) ∧ 1 ≤ 1 + d ∧ 1 + d ≤ most ∧ St (N + 2) x' := fun z hz => by
      have hmn : 1 ≤ minI most z ∧ minI most z ≤ most := by
        show 1 ≤ (if z < most then z else most) ∧ (if z < most then z else most) ≤ most
        split <;> omega
      obtain ⟨d, x2, e2, d0, d1, h2⟩ := draw (by omega) h1 (span := minI most z) (by omega) (by omega)
      exact ⟨d, x2, e2, by omega, by omega, h2⟩
    by_cases hk4 : k < 4
    · obtain ⟨d, x2, e2, d0, d1, h2⟩ := go 12 (by decide)
      have c2 : dCall D__law_draw [.io 0, .val .tmp] (dCslot 0 (dCval .tmp [] (dOp (i2D minI) (dAcons (.vw [1]) [] (dn 1) (dAcons .tmp [] (dc (.int 12)) dAnil))) dCnil)) [x1, .v (.int most), .v (.int k)] = .ok (.v (.int d), [x2, .v (.int most), .v (.int k)]) := call_st h1 rfl e2 h2.shr
      refine ⟨1 + d, x2, ?_, by omega, by omega, h2⟩
      simp [D__law_side, b__law_side, if__law_side_1, if__law_side_2, -u_dCall_1, -u_dCslot_1, -u_dCval_1, c1, c2, hk, hk4]
    · obtain ⟨d, x2, e2, d0, d1, h2⟩ := go 5 (by decide)
      have c2 : dCall D__law_draw [.io 0, .val .tmp] (dCslot 0 (dCval .tmp [] (dOp (i2D minI) (dAcons (.vw [1]) [] (dn 1) (dAcons .tmp [] (dc (.int 5)) dAnil))) dCnil)) [x1, .v (.int most), .v (.int k)] = .ok (.v (.int d), [x2, .v (.int most), .v (.int k)]) := call_st h1 rfl e2 h2.shr
      refine ⟨1 + d, x2, ?_, by omega, by omega, h2⟩
      simp [D__law_side, b__law_side, if__law_side_1, if__law_side_2, -u_dCall_1, -u_dCslot_1, -u_dCval_1, c1, c2, hk, hk4]
end Wk21

namespace Wk21
open PySem PySem.Spec PyProof.Rows L2 VS
/-- w drawn signs -/
theorem row_lc {N : Nat} {x h told i j : D} {w : Int} (hw : 0 ≤ w) (hw2 : w ≤ 1000) (hN : N + w.toNat < BIG) (hx : St N x) :
    ∃ (zs : List Str) (x' : D), co__law_free_rows_1 [x, h, .v (.int w), told, i, j] = .ok (.nd (.lst true) (zs.map D.str), [x', h, .v (.int w), told, i, .un]) ∧ (∀ z ∈ zs, z.length = 1) ∧ (∀ z ∈ zs, Bits z) ∧ (zs.length : Int) = w ∧ St (N + w.toNat) x' := by
  have inv := lcL_inv (vs := [5]) (g := gdN 5) (c := bYes) (m := .tmp) (e := ce__law_free_rows_1)
    (fun xs s acc => ∃ (x' : D) (zs : List Str), s = [x', h, .v (.int w), told, i, .un] ∧ acc = zs.map D.str ∧ (∀ z ∈ zs, z.length = 1) ∧ (∀ z ∈ zs, Bits z) ∧ zs.length + xs.length = w.toNat ∧ St (N + zs.length) x') ?_
    (rangeD w.toNat) [x, h, .v (.int w), told, i, .un] [] ⟨x, [], rfl, rfl, fun _ m => (nomatch m), fun _ m => (nomatch m), by rw [rangeD_len]; simp, hx⟩
  · obtain ⟨z, e, x', zs, e1, e2, e3, e4, e5, e6⟩ := inv
    rw [List.nil_append] at e2
    refine ⟨zs, x', ?_, e3, e4, by simp at e5; omega, by simp at e5; rw [e5] at e6; exact e6⟩
    unfold co__law_free_rows_1
    rw [lc_rg (rg1_ok (s' := [x, h, .v (.int w), told, i, j]) (w := w) (by simp) (by omega) (by omega)) (by omega)]
    show R.bind (lcL [5] _ _ _ _ _ [x, h, .v (.int w), told, i, .un]) _ = _
    rw [e]
    simp [e1, e2]
  · rintro y r s acc ⟨x', zs, rfl, rfl, h1, h2, h3, h4⟩
    rw [List.length_cons] at h3
    obtain ⟨d, x2, ed, d0, d1, hx2⟩ := draw (by omega) h4 (span := 2) (by decide) (by decide)
    have c1 : dCall D__law_draw [.io 0, .val .tmp] (dCslot 0 (dCval .tmp [] (dc (.int 2)) dCnil)) [x', h, .v (.int w), told, i, y] = .ok (.v (.int d), [x2, h, .v (.int w), told, i, y]) := call_st h4 rfl ed hx2.shr
    refine ⟨_, rfl, .inl ⟨_, rfl, (.v (.str (bit (decide (d = 1)))), [x2, h, .v (.int w), told, i, y]), ?_, rfl, x2, zs ++ [bit (decide (d = 1))], rfl, by simp, fun z m => ?_, fun z m => ?_, by simp; omega, ?_⟩⟩
    · simp [ce__law_free_rows_1, -u_dCall_1, -u_dCslot_1, -u_dCval_1, c1, ix01 d0 d1]
    · rcases List.mem_append.mp m with m | m
      · exact h1 z m
      · rw [List.mem_singleton.mp m]; exact bit_len _
    · rcases List.mem_append.mp m with m | m
      · exact h2 z m
      · rw [List.mem_singleton.mp m]; exact bit_bits _
    · rw [List.length_append]; exact hx2
theorem free_rows {N : Nat} {x : D} {h w : Int} (h0 : 0 ≤ h) (h1 : h ≤ 1000) (w0 : 0 ≤ w) (w1 : w ≤ 1000) (hN : N + 1000000 < BIG) (hx : St N x) :
    ∃ (rows : List Str) (x' : D), D__law_free_rows [x, .v (.int h), .v (.int w)] = .ok (.nd (.lst true) (rows.map D.str), [x']) ∧ (rows.length : Int) = h ∧ (∀ z ∈ rows, (z.length : Int) = w ∧ Bits z) ∧ St (N + 1000000) x' := by
  have inv := forL_inv (g := gdN 4) (body := fb__law_free_rows_1)
    (fun xs s => ∃ (x' : D) (rows : List Str) (i j : D), s = [x', .v (.int h), .v (.int w), .nd (.lst true) (rows.map D.str), i, j] ∧ (∀ z ∈ rows, (z.length : Int) = w ∧ Bits z) ∧ rows.length + xs.length = h.toNat ∧ St (N + rows.length * w.toNat) x') ?_
    (rangeD h.toNat) [x, .v (.int h), .v (.int w), .nd (.lst true) [], .un, .un] ⟨x, [], .un, .un, rfl, fun _ m => (nomatch m), by rw [rangeD_len]; simp, by simpa using hx⟩
  · obtain ⟨s', e, x', rows, i, j, rfl, e2, e3, e4⟩ := inv
    simp at e3
    refine ⟨rows, x', ?_, by omega, e2, e4.le ?_⟩
    · have ef : fo__law_free_rows_1 [x, .v (.int h), .v (.int w), .nd (.lst true) [], .un, .un] = .nx [x', .v (.int h), .v (.int w), .nd (.lst true) (rows.map D.str), i, j] := by
        unfold fo__law_free_rows_1
        rw [for_rg (rg1_ok (s' := [x, .v (.int h), .v (.int w), .nd (.lst true) [], .un, .un]) (w := h) (by simp) (by omega) (by omega)), e]
      simp [D__law_free_rows, b__law_free_rows, ef]
    · rw [e3]
      have : h.toNat * w.toNat ≤ 1000 * 1000 := Nat.mul_le_mul (by omega) (by omega)
      omega
  · rintro y r s ⟨x', rows, i, j, rfl, h2, h3, h4⟩
    rw [List.length_cons] at h3
    have hb : rows.length * w.toNat + w.toNat ≤ 1000000 := by
      have : (rows.length + 1) * w.toNat ≤ 1000 * 1000 := Nat.mul_le_mul (by omega) (by omega)
      rw [Nat.add_mul] at this; omega
    obtain ⟨zs, x2, e1, e2, e3, e4, e5⟩ := row_lc (h := .v (.int h)) (told := .nd (.lst true) (rows.map D.str)) (i := y) (j := j) w0 w1 (by omega) h4
    have hl : zs.length ≤ 1000 := by omega
    have hr : rows.length < sizeLine := by rw [sizeLine_eq]; omega
    obtain ⟨j1, j2⟩ := join_ok1 e2 e3
    refine ⟨_, [x2, .v (.int h), .v (.int w), .nd (.lst true) ((rows ++ [Txt.join "" zs]).map D.str), y, .un], rfl, .inl ?_, x2, rows ++ [Txt.join "" zs], y, .un, rfl, fun z m => ?_, by simp; omega, ?_⟩
    · simp [fb__law_free_rows_1, dMeth, mAppend, D.isStr, e1, join_d e2 hl, hr]
    · rcases List.mem_append.mp m with m | m
      · exact h2 z m
      · rw [List.mem_singleton.mp m]; exact ⟨by omega, j2⟩
    · rw [List.length_append, List.length_singleton, Nat.add_mul, Nat.one_mul, ← Nat.add_assoc]; exact e5
end Wk21

namespace Wk21
open PySem PySem.Spec PyProof.Rows L2 VS
theorem sE_len : ("" : Str).length = 0 := by rw [sE]; rfl
theorem sE_bits : Bits "" := by rw [sE]; intro c hc; cases hc
theorem str_len_app (a b : Str) : (a ++ b).length = a.length + b.length := by rw [← cs_len, cs_append, List.length_append, cs_len, cs_len]
theorem cutS_cs (z : Str) (lo hi : Option Int) : Str.cs (cutS z lo hi) = (Str.cs z |>.drop (HT.sIx z.length 0 lo)).take (HT.sIx z.length z.length hi - HT.sIx z.length 0 lo) := by
  unfold cutS Str.cs; simp
theorem cutS_bits {z : Str} {lo hi : Option Int} (h : Bits z) : Bits (cutS z lo hi) := by
  intro c hc
  rw [cutS_cs] at hc
  exact h c (List.mem_of_mem_drop (List.mem_of_mem_take hc))
theorem cutS_lo {z : Str} {j : Nat} (h : j ≤ z.length) : (cutS z none (some (j : Int))).length = j := by
  rw [← cs_len, cutS_cs, List.length_take, List.length_drop, cs_len, HT.sIx_nat, show HT.sIx z.length 0 none = 0 from rfl]
  omega
theorem cutS_hi {z : Str} {j : Nat} (h : j ≤ z.length) : (cutS z (some (j : Int)) none).length = z.length - j := by
  rw [← cs_len, cutS_cs, List.length_take, List.length_drop, cs_len, HT.sIx_nat, show HT.sIx z.length z.length none = z.length from rfl]
  omega
theorem get_strs {rows : List Str} {i : Nat} (h : i < rows.length) : (rows.map D.str)[i]? = some (.v (.str rows[i])) := by
  rw [List.getElem?_map, List.getElem?_eq_getElem h]; rfl
theorem ix_bit {z : Str} {j : Nat} (hz : z.length ≤ 1000) (hj : j < z.length) (hb : Bits z) : ∃ b, ixD (.v (.str z)) (.v (.int j)) = some (.v (.str (bit b))) := by
  rw [ix_s (by omega)]
  have hl : j < (Str.cs z).length := by rw [cs_len]; exact hj
  have e : atI z.cps.toList (j : Int) = some (Str.cs z)[j] := by
    unfold atI
    rw [ixN_pos (by omega) (by show (j : Int) < ((Str.cs z).length : Nat); omega)]
    show (Str.cs z)[(j : Int).toNat]? = _
    rw [Int.toNat_natCast, List.getElem?_eq_getElem hl]
  rw [e]
  rcases hb _ (List.getElem_mem hl) with q | q
  · exact ⟨false, by rw [q]; rfl⟩
  · exact ⟨true, by rw [q]; rfl⟩
/-- one sign exchanged -/
theorem exchange {rows : List Str} {h w i j : Nat} (hr : rows.length = h) (hw : ∀ z ∈ rows, z.length = w ∧ Bits z) (hi : i < h) (hj : j < w) (h1 : h ≤ 1000) (w1 : w ≤ 1000) :
    ∃ rows' : List Str, D__law_exchange [.nd (.lst false) (rows.map D.str), .v (.int i), .v (.int j)] = .ok (.nd (.lst true) (rows'.map D.str), []) ∧ rows'.length = h ∧ ∀ z ∈ rows', z.length = w ∧ Bits z := by
  have hi2 : i < rows.length := by omega
  have bi : (0 : Int) ≤ i := by omega
  have ti : (i : Int).toNat = i := by omega
  have g := get_strs hi2
  obtain ⟨q1, q2⟩ := hw _ (List.getElem_mem hi2)
  have hN : ixN rows.length (i : Int) = some i := by rw [ixN_pos bi (by omega), ti]
  generalize hz : rows[i] = z at *
  obtain ⟨b, eb⟩ := ix_bit (by omega) (by omega) q2 (j := j)
  have hzl : z.length ≤ sizeLine := by rw [sizeLine_eq]; omega
  have k1 : (cutS z none (some (j : Int))).length + (bit (!b)).length ≤ sizeLine := by rw [cutS_lo (by omega), bit_len, sizeLine_eq]; omega
  have k2 : (cutS z none (some (j : Int)) ++ bit (!b)).length + (cutS z (some ((j : Int) + 1)) none).length ≤ sizeLine := by
    rw [str_len_app, cutS_lo (by omega), bit_len, show ((j : Int) + 1) = ((j + 1 : Nat) : Int) from rfl, cutS_hi (by omega), sizeLine_eq]; omega
  have e10 : ixD (.v (.str "10")) (.v (.int (if bit b = "1" then 1 else 0))) = some (.v (.str (bit (!b)))) := by
    rw [s1]
    cases b
    · exact ix10 (d := 0) (by decide) (by decide)
    · exact ix10 (d := 1) (by decide) (by decide)
  refine ⟨rows.set i (cutS z none (some (j : Int)) ++ bit (!b) ++ cutS z (some ((j : Int) + 1)) none), ?_, by rw [List.length_set]; exact hr, fun y m => ?_⟩
  · simp [D__law_exchange, b__law_exchange, listD, has_strs, ix_lst bi, ti, g, eb, e10, fS01, fS10, slD, hzl, k1, k2, hN, -List.getElem?_map]
  · rcases List.mem_or_eq_of_mem_set m with m | rfl
    · exact hw y m
    · refine ⟨?_, bits_append (bits_append (cutS_bits q2) (bit_bits _)) (cutS_bits q2)⟩
      rw [str_len_app, str_len_app, cutS_lo (by omega), bit_len, show ((j : Int) + 1) = ((j + 1 : Nat) : Int) from rfl, cutS_hi (by omega)]; omega
theorem rg1_nat {d : EA} {s s' : List D} {n : Nat} (h : d s = .ok ([.v (.int n)], s')) (h1 : n ≤ 1000000) : dRg1 d s = .ok ((.v .non, rangeD n), s') := by
  have := rg1_ok h (by omega) (by omega)
  rw [Int.toNat_natCast] at this
  exact this
end Wk21

namespace Wk21
open PySem PySem.Spec PyProof.Rows L2 VS
theorem in_range {n l h : Int} : D_in_range [.v (.int n), .v (.int l), .v (.int h)] = .ok (.v (.bl (decide (l ≤ n) && decide (n ≤ h))), []) := by
  by_cases a : l ≤ n
  · simp [D_in_range, b_in_range, dChn, a]
  · simp [D_in_range, b_in_range, dChn, a]
abbrev stN (L : List D) : D := .nd (.lst true) L
theorem St.nd {N : Nat} {x : D} (h : St N x) : ∃ L, x = stN L ∧ D.hass NK.isShr L = false := by
  obtain ⟨cs, p, r, sd, k, rfl, o⟩ := h
  exact ⟨_, rfl, by simp [has_ints]⟩
theorem drawL {N : Nat} (hN : N < BIG) {L : List D} (h : St N (stN L)) {n : Int} (h0 : 0 < n) (h1 : n ≤ 10000000000) :
    ∃ d L', D__law_draw [stN L, .v (.int n)] = .ok (.v (.int d), [stN L']) ∧ 0 ≤ d ∧ d < n ∧ St (N + 1) (stN L') ∧ D.hass NK.isShr L' = false := by
  obtain ⟨d, x2, e, d0, d1, h2⟩ := draw hN h h0 h1
  obtain ⟨L', rfl, hL⟩ := h2.nd
  exact ⟨d, L', e, d0, d1, h2, hL⟩
abbrev oddF : Nat → Nat → Bool := fun i j => (i + j) % 2 == 1
theorem pick01 {k : Nat} : ixD (.v (.str "01")) (.v (.int ((k : Int) % 2))) = some (.v (.str (bit (k % 2 == 1)))) := by
  rw [ix01 (by omega) (by omega)]
  by_cases h : k % 2 = 1
  · have : (k : Int) % 2 = 1 := by omega
    simp [h, this]
  · have : (k : Int) % 2 = 0 := by omega
    have h2 : k % 2 = 0 := by omega
    simp [h2, this]
theorem map_strs {α : Type} (l : List α) (f : α → Str) : (l.map fun a => D.str (f a)) = (l.map f).map D.str := by rw [List.map_map]; rfl
theorem join_range {o : Bool} {n : Nat} {f : Nat → Bool} (hn : n ≤ 1000) : joinD [.v (.str ""), .nd (.lst o) ((List.range n).map fun j => D.str (bit (f j)))] = some (.v (.str (mkRow n f))) := by
  rw [map_strs, join_d (fun z m => by obtain ⟨j, _, rfl⟩ := List.mem_map.mp m; exact bit_len _) (by simpa using hn), join_mkRow]
theorem isi_b {C : Addr} {x : D} {a t : String} {r : Bool} (h : x.ty = some (.b a)) (hr : isaB a t = some r) : isiD (isaT C) [C] [x, .v (.ty t)] = some (.v (.bl r)) := by
  unfold isiD
  simp only [h]
  show (if tkIn [C] (.b a) = true then Option.map D.bl (isaB a t) else none) = _
  rw [hr]; rfl
theorem isi_str {C : Addr} {z : Str} : isiD (isaT C) [C] [.v (.str z), .v (.ty "str")] = some (.v (.bl true)) := isi_b rfl (by decide +kernel)
theorem isi_int {C : Addr} {z : Int} : isiD (isaT C) [C] [.v (.int z), .v (.ty "int")] = some (.v (.bl true)) := isi_b rfl (by decide +kernel)
theorem isi_intb {C : Addr} {z : Int} : isiD (isaT C) [C] [.v (.int z), .v (.ty "bool")] = some (.v (.bl false)) := isi_b rfl (by decide +kernel)
theorem isi_bb {C : Addr} {z : Bool} : isiD (isaT C) [C] [.v (.bl z), .v (.ty "bool")] = some (.v (.bl true)) := isi_b rfl (by decide +kernel)
theorem isi_tup {C : Addr} {xs : List D} : isiD (isaT C) [C] [.nd .tup xs, .v (.ty "tuple")] = some (.v (.bl true)) := isi_b rfl (by decide +kernel)
theorem isi_seqT {C : Addr} {xs : List D} : isiD (isaT C) [C] [.nd .tup xs, .nd .tup [.v (.ty "list"), .v (.ty "tuple")]] = some (.v (.bl true)) := by
  rfl
theorem isi_seqL {C : Addr} {o : Bool} {xs : List D} : isiD (isaT C) [C] [.nd (.lst o) xs, .nd .tup [.v (.ty "list"), .v (.ty "tuple")]] = some (.v (.bl true)) := by
  rfl
theorem isi_own {C : Addr} {fs : List Str} {xs : List D} : isiD (isaT C) [C] [.nd (.ins C fs) xs, .v (.ref C)] = some (.v (.bl true)) := by
  simp [isiD, D.ty, V.tk, tkIn, isaD, isaT]
theorem sz60 : 60 ≤ sizeLine := by rw [sizeLine_eq]; decide
theorem signs_co {C : Addr} {w : Nat} {f : Nat → Bool} {a b c : D} (hw : w ≤ 60) : co_rows_fit_1 C [a, .v (.str "01"), b, .v (.str (mkRow w f)), c] = .ok (.nd (.lst true) [.v (.int (Txt.count (mkRow w f) (bit false))), .v (.int (Txt.count (mkRow w f) (bit true)))], [a, .v (.str "01"), b, .v (.str (mkRow w f)), .un]) := by
  have hi : dIt (dn 1) [a, .v (.str "01"), b, .v (.str (mkRow w f)), c] = .ok ((.v (.str "01"), [false, true].map fun x => D.str (bit x)), [a, .v (.str "01"), b, .v (.str (mkRow w f)), c]) := by
    simp [dIt, D.items, s01, bit]
  unfold co_rows_fit_1
  refine lc_it (F := fun x => D.int (Txt.count (mkRow w f) (bit x))) hi (by rfl) (by rfl) (by decide) rfl (fun k _ => ⟨[a, .v (.str "01"), b, .v (.str (mkRow w f)), .v (.str (bit k))], [a, .v (.str "01"), b, .v (.str (mkRow w f)), .v (.str (bit k))], rfl, rfl, ?_, rfl, rfl⟩)
  simp [ce_rows_fit_1, scountD]
theorem rows_fit {C : Addr} {k : NK} {h w : Nat} {f : Nat → Nat → Bool} (hk : k = .tup ∨ k = .lst false) (h0 : 1 ≤ h) (h1 : h ≤ 60) (w0 : 1 ≤ w) (w1 : w ≤ 60) :
    D_rows_fit C [.nd k (rowsD h w f), .v (.str "01"), .v (.int 60)] = .ok (.v (.bl true), []) := by
  have inv := forL_inv (g := gdN 3) (body := fb_rows_fit_1 C)
    (fun ys s => ∃ a b, s = [.nd k (rowsD h w f), .v (.str "01"), .v (.int 60), a, b] ∧ ∀ y ∈ ys, ∃ i, y = .v (.str (mkRow w (f i)))) ?_
    (rowsD h w f) [.nd k (rowsD h w f), .v (.str "01"), .v (.int 60), .un, .un] ⟨.un, .un, rfl, fun y m => by
      simp only [rowsD_map, List.mem_map, List.mem_range] at m
      obtain ⟨i, _, rfl⟩ := m; exact ⟨i, rfl⟩⟩
  · obtain ⟨s', e, a, b, rfl, _⟩ := inv
    have hO : D.hass NK.isOwn (rowsD h w f) = false := rowsHas
    have hlen : lenD (.nd k (rowsD h w f)) = some (.v (.int h)) := by rcases hk with rfl | rfl; exact len_rowsT; exact len_rows
    have hisi : isiD (isaT C) [C] [.nd k (rowsD h w f), .nd .tup [.v (.ty "list"), .v (.ty "tuple")]] = some (.v (.bl true)) := by
      rcases hk with rfl | rfl; exact isi_seqT; exact isi_seqL
    have hit : (D.nd k (rowsD h w f)).items = some (rowsD h w f) := by rcases hk with rfl | rfl <;> rfl
    have hko : k.isOwn = false := by rcases hk with rfl | rfl <;> rfl
    have ef : fo_rows_fit_1 C [.nd k (rowsD h w f), .v (.str "01"), .v (.int 60), .un, .un] = .nx [.nd k (rowsD h w f), .v (.str "01"), .v (.int 60), a, b] := by
      unfold fo_rows_fit_1 sFor
      simp [dIt, hit, hO, hko, e]
    have h0' : (1 : Int) ≤ h := by omega
    have h1' : (h : Int) ≤ 60 := by omega
    have z2 : 2 ≤ sizeLine := by rw [sizeLine_eq]; decide
    simp [D_rows_fit, b_rows_fit, if_rows_fit_1, ef, hisi, hlen, in_range, h0', h1', hko, hO, z2]
  · rintro y r s ⟨a, b, rfl, h2⟩
    obtain ⟨i, rfl⟩ := h2 y List.mem_cons_self
    have hlen := len_row (w := w) (f := f i) (by omega)
    have w0' : (1 : Int) ≤ w := by omega
    have w1' : (w : Int) ≤ 60 := by omega
    refine ⟨_, [.nd k (rowsD h w f), .v (.str "01"), .v (.int 60), .v (.str (mkRow w (f i))), .un], rfl, .inl ?_, _, _, rfl, fun y m => h2 y (List.mem_cons_of_mem _ m)⟩
    have g0 : ixD (.nd k (rowsD h w f)) (.v (.int 0)) = some (.v (.str (mkRow w (f 0)))) := by
      rcases hk with rfl | rfl
      · rw [VS.ix_tup (by decide)]; exact rowsD_get h0
      · rw [ix_lst (by decide)]; exact rowsD_get h0
    have hlen0 := len_row (w := w) (f := f 0) (by omega)
    have cs := count_sum (mkRow_bits w (f i))
    rw [mkRow_len] at cs
    have sm : sumD (.nd (.lst true) [.v (.int (Txt.count (mkRow w (f i)) (bit false))), .v (.int (Txt.count (mkRow w (f i)) (bit true)))]) = some (.v (.int w)) := by
      have : [D.v (.int (Txt.count (mkRow w (f i)) (bit false))), D.v (.int (Txt.count (mkRow w (f i)) (bit true)))] = [Txt.count (mkRow w (f i)) (bit false), Txt.count (mkRow w (f i)) (bit true)].map D.int := rfl
      simp only [sumD, D.lstI, this, VS.ints_map]
      simp [cs]
    have hko : k.isOwn = false := by rcases hk with rfl | rfl <;> rfl
    have hO : D.hass NK.isOwn (rowsD h w f) = false := rowsHas
    simp [fb_rows_fit_1, if_rows_fit_2, if_rows_fit_3, isi_str, hlen, in_range, w0', w1', g0, hlen0, signs_co w1, -u_sumD_1, sm, hko, hO]
@[simp] theorem nm_rows_picks : (Str.ofString "rows" = Str.ofString "picks") = False := by decide +kernel
@[simp] theorem nm_rows_ends : (Str.ofString "rows" = Str.ofString "ends") = False := by decide +kernel
@[simp] theorem nm_picks_rows : (Str.ofString "picks" = Str.ofString "rows") = False := by decide +kernel
@[simp] theorem nm_picks_ends : (Str.ofString "picks" = Str.ofString "ends") = False := by decide +kernel
@[simp] theorem nm_ends_rows : (Str.ofString "ends" = Str.ofString "rows") = False := by decide +kernel
@[simp] theorem nm_ends_picks : (Str.ofString "ends" = Str.ofString "picks") = False := by decide +kernel
/-- a cloth -/
abbrev clothD (C : Addr) (h w : Nat) (f : Nat → Nat → Bool) : D := .nd (.ins C ["rows", "picks", "ends"]) [.nd .tup (rowsD h w f), .v (.int h), .v (.int w)]
theorem clothHas {q : NK → Bool} {C : Addr} {h w : Nat} {f : Nat → Nat → Bool} (h1 : q (.ins C ["rows", "picks", "ends"]) = false) (h2 : q .tup = false) : (clothD C h w f).has q = false := by
  simp [rowsHas, h1, h2]
structure Dim (h w : Nat) : Prop where
  h0 : 1 ≤ h
  h1 : h ≤ 60
  w0 : 1 ≤ w
  w1 : w ≤ 60
theorem init {C : Addr} {k : NK} {h w : Nat} {f : Nat → Nat → Bool} (hk : k = .tup ∨ k = .lst false) (d : Dim h w) :
    D_Cloth___init__ C [.nd (.obj true C []) [], .nd k (rowsD h w f)] = .ok (.v .non, [.nd (.obj true C ["rows", "picks", "ends"]) [.nd .tup (rowsD h w f), .v (.int h), .v (.int w)]]) := by
  obtain ⟨h0, h1, w0, w1⟩ := d
  have rf := rows_fit (C := C) (f := f) hk h0 h1 w0 w1
  have tp : tupD (.nd k (rowsD h w f)) = some (.nd .tup (rowsD h w f)) := by rcases hk with rfl | rfl <;> simp [tupD, rowsHas]
  have hko : k.isOwn = false := by rcases hk with rfl | rfl <;> rfl
  have hkf : k.fz = k := by rcases hk with rfl | rfl <;> rfl
  have lt := len_rowsT (h := h) (w := w) (f := f)
  have lr := len_row (w := w) (f := f 0) (by omega)
  have g0 : ixD (.nd .tup (rowsD h w f)) (.v (.int 0)) = some (.v (.str (mkRow w (f 0)))) := by rw [VS.ix_tup (by decide)]; exact rowsD_get h0
  have O := rowsHas (q := NK.isOwn) (h := h) (w := w) (f := f)
  have F := rowsFz (h := h) (w := w) (f := f)
  rcases hk with rfl | rfl <;> simp [D_Cloth___init__, b_Cloth___init__, if_Cloth___init___1, rf, hko, O, F, hkf, sFldD, tp, objAt, putFD, dFld, fldD, D.inst, fIx, lt, g0, lr]
theorem make {C : Addr} {k : NK} {h w : Nat} {f : Nat → Nat → Bool} {m : Md} {de : E} {s s' : List D} (hk : k = .tup ∨ k = .lst false) (d : Dim h w) (e : de s = .ok (.nd k (rowsD h w f), s')) :
    dMake true C (D_Cloth___init__ C) [.val m] (dCval m [] de dCnil) s = .ok (clothD C h w f, s') := by
  have hko : k.isOwn = false := by rcases hk with rfl | rfl <;> rfl
  have hks : k.isShr = false ∨ k.isShr = true := by cases k.isShr <;> simp
  have hkf : k.fz = k := by rcases hk with rfl | rfl <;> rfl
  have O := rowsHas (q := NK.isOwn) (h := h) (w := w) (f := f)
  have Sh := rowsHas (q := NK.isShr) (h := h) (w := w) (f := f)
  have F := rowsFz (h := h) (w := w) (f := f)
  have i := init (C := C) (f := f) hk d
  rcases hk with rfl | rfl <;> cases m <;> simp [dMake, e, O, F, i, convD, valFree, Sh]
theorem makeO {C : Addr} {m : Md} {h w : Nat} {f : Nat → Nat → Bool} {de : E} {s s' : List D} (d : Dim h w) (e : de s = .ok (.nd (.lst true) (rowsD h w f), s')) :
    dMake true C (D_Cloth___init__ C) [.val m] (dCval m [] de dCnil) s = .ok (clothD C h w f, s') := by
  have i := init (C := C) (f := f) (.inr rfl) d
  cases m <;> simp [dMake, e, i, convD, valFree]
theorem emod_rng {i : Int} {n : Nat} (h : 1 ≤ n) : 0 ≤ i % (n : Int) ∧ i % (n : Int) < n := ⟨Int.emod_nonneg _ (by omega), Int.emod_lt_of_pos _ (by omega)⟩
theorem bit_eq1 (b : Bool) : decide (bit b = "1") = b := by rw [s1]; cases b <;> decide
theorem start {ns : List Int} (hn : ns.length ≤ 63) : ∃ L, D__law_start [.nd .scr (ns.map D.int)] = .ok (stN L, []) ∧ St 0 (stN L) ∧ D.hass NK.isShr L = false := by
  have sl : slD (.nd .scr (ns.map D.int)) none (some 63) = some (.nd (.lst true) (ns.map D.int)) := by
    unfold slD
    simp only [has_ints, if_true]
    rw [show (63 : Int) = ((63 : Nat) : Int) from rfl, cutL_to, List.take_of_length_le (by simpa using hn)]
  have inv := forL_inv (g := gdN 2) (body := fb__law_start_1)
    (fun ys s => ∃ (sd : Int) (a : D), s = [.nd .scr (ns.map D.int), .v (.int sd), a] ∧ 0 ≤ sd ∧ sd < 2147483647 ∧ ∀ y ∈ ys, ∃ k : Int, y = .v (.int k)) ?_
    (ns.map D.int) [.nd .scr (ns.map D.int), .v (.int 7), .un] ⟨7, .un, rfl, by decide, by decide, fun y m => by obtain ⟨k, _, rfl⟩ := List.mem_map.mp m; exact ⟨k, rfl⟩⟩
  · obtain ⟨s', e, sd, a, rfl, s0, s1, _⟩ := inv
    have ef : fo__law_start_1 [.nd .scr (ns.map D.int), .v (.int 7), .un] = .nx [.nd .scr (ns.map D.int), .v (.int sd), a] := by
      unfold fo__law_start_1
      rw [for_it (x := .nd (.lst true) (ns.map D.int)) (xs := ns.map D.int) (s1 := [.nd .scr (ns.map D.int), .v (.int 7), .un]) (by simp [dIt, fS01, sl, D.items]) rfl (has_ints _ _), e]
    have z5 : 5 ≤ sizeLine := by rw [sizeLine_eq]; decide
    refine ⟨_, ?_, ⟨ns, 0, 1, sd, 0, rfl, ⟨by decide, by decide, by decide, s0, s1⟩⟩, by simp [has_ints]⟩
    simp [D__law_start, b__law_start, ef, fS01, sl, listD, has_ints, chkT, z5]
  · rintro y r s ⟨sd, a, rfl, s0, s1, h2⟩
    obtain ⟨k, rfl⟩ := h2 y List.mem_cons_self
    have m1 := oMul_s (i := sd) (j := 31) (by omega) (by omega) (by omega) (by omega)
    have q1 := oMod_s (i := k) (j := 1000003) (by decide)
    have q2 := oMod_s (i := sd * 31 + k % 1000003 + 5) (j := 2147483647) (by decide)
    refine ⟨_, [.nd .scr (ns.map D.int), .v (.int ((sd * 31 + k % 1000003 + 5) % 2147483647)), .v (.int k)], rfl, .inl ?_, _, _, rfl, Int.emod_nonneg _ (by decide), Int.emod_lt_of_pos _ (by decide), fun y m => h2 y (List.mem_cons_of_mem _ m)⟩
    unfold fb__law_start_1
    generalize oMul = OM at *
    generalize oMod = OO at *
    simp [m1, q1, q2]
structure Cl where
  h : Nat
  w : Nat
  f : Nat → Nat → Bool
  d : Dim h w
def dueD (o : Bool) (c : Cl) : D := .nd (.lst o) (rowsD c.h c.w c.f)
def cloD (C : Addr) (c : Cl) : D := clothD C c.h c.w c.f
theorem dues_has {q : NK → Bool} (hq : q (.lst true) = false) : ∀ l : List Cl, D.hass q (l.map (dueD true)) = false
  | [] => rfl
  | c :: r => by rw [List.map_cons, D.hass, dues_has hq r]; simp [dueD, hq]
theorem clos_has {q : NK → Bool} {C : Addr} (h1 : q (.ins C ["rows", "picks", "ends"]) = false) (h2 : q .tup = false) : ∀ l : List Cl, D.hass q (l.map (cloD C)) = false
  | [] => rfl
  | c :: r => by rw [List.map_cons, D.hass, clos_has h1 h2 r]; unfold cloD; rw [clothHas h1 h2]; rfl
theorem get_map {α : Type} {f : α → D} {l : List α} {k : Nat} {a : α} (h : l[k]? = some a) : (l.map f)[k]? = some (f a) := by rw [List.getElem?_map, h]; rfl
theorem sideR {N : Nat} {L : List D} {most : Int} (hN : N + 2 < BIG) (hx : St N (stN L)) (m0 : 1 ≤ most) (m1 : most ≤ 60) :
    ∃ (d : Nat) (L' : List D), D__law_side [stN L, .v (.int most)] = .ok (.v (.int d), [stN L']) ∧ 1 ≤ d ∧ d ≤ 60 ∧ St (N + 2) (stN L') ∧ D.hass NK.isShr L' = false := by
  obtain ⟨d, x', e, d0, d1, hx'⟩ := side hN hx m0 (by omega)
  obtain ⟨L', rfl, hL⟩ := hx'.nd
  exact ⟨d.toNat, L', by rw [e, show ((d.toNat : Nat) : Int) = d by omega], by omega, by omega, hx', hL⟩
theorem due_shr {c : Cl} : (dueD true c).has NK.isShr = false := by simp [dueD]
end Wk21

namespace Wk21
open PySem PySem.Spec PyProof.Rows L2 VS
def colB (i : Int) : Bool := decide (0 ≤ i) && decide (i ≤ 5)
def fitB (ws : List Int) : Bool := (decide ((1 : Int) ≤ ws.length) && decide ((ws.length : Int) ≤ 60)) && ws.all colB
theorem intsHas {q : NK → Bool} (ws : List Int) : D.hass q (ws.map D.int) = false := has_ints q ws
theorem len_intsT {ws : List Int} : lenD (.nd .tup (ws.map D.int)) = some (.v (.int ws.length)) := by simp [lenD]
theorem len_intsL {o : Bool} {ws : List Int} : lenD (.nd (.lst o) (ws.map D.int)) = some (.v (.int ws.length)) := by simp [lenD]
theorem colours_fit {C : Addr} {k : NK} {ws : List Int} (hk : k = .tup ∨ k = .lst false) : D_colours_fit C [.nd k (ws.map D.int)] = .ok (.v (.bl (fitB ws)), []) := by
  have hlen : lenD (.nd k (ws.map D.int)) = some (.v (.int ws.length)) := by rcases hk with rfl | rfl; exact len_intsT; exact len_intsL
  have hisi : isiD (isaT C) [C] [.nd k (ws.map D.int), .nd .tup [.v (.ty "list"), .v (.ty "tuple")]] = some (.v (.bl true)) := by
    rcases hk with rfl | rfl; exact isi_seqT; exact isi_seqL
  have hit : (D.nd k (ws.map D.int)).items = some (ws.map D.int) := by rcases hk with rfl | rfl <;> rfl
  have hko : k.isOwn = false := by rcases hk with rfl | rfl <;> rfl
  have hO := intsHas (q := NK.isOwn) ws
  have z2 : 2 ≤ sizeLine := by rw [sizeLine_eq]; decide
  have ir := in_range (n := (ws.length : Int)) (l := 1) (h := 60)
  unfold fitB
  cases hb : (decide ((1 : Int) ≤ ws.length) && decide ((ws.length : Int) ≤ 60)) with
  | false =>
    rw [hb] at ir
    simp [D_colours_fit, b_colours_fit, if_colours_fit_1, hisi, hlen, ir, hko, hO, z2]
  | true =>
    rw [hb] at ir
    have st : ∀ i ∈ ws, ∀ s, (∃ a, s = [.nd k (ws.map D.int), a]) → ∃ s1, gdN 1 (D.int i) s = some s1 ∧
        (((!colB i) = true ∧ ∃ s2, fb_colours_fit_1 C s1 = .rt (.v (.bl false)) s2 ∧ True) ∨ ((!colB i) = false ∧ ∃ s2, fb_colours_fit_1 C s1 = .nx s2 ∧ ∃ a, s2 = [.nd k (ws.map D.int), a])) := by
      rintro i _ s ⟨a, rfl⟩
      refine ⟨_, rfl, ?_⟩
      have ir2 := in_range (n := i) (l := 0) (h := 5)
      cases hc : colB i with
      | false =>
        unfold colB at hc
        rw [hc] at ir2
        refine .inl ⟨rfl, ?_⟩
        simp [fb_colours_fit_1, if_colours_fit_2, ir2]
      | true =>
        unfold colB at hc
        rw [hc] at ir2
        refine .inr ⟨rfl, ?_⟩
        simp [fb_colours_fit_1, if_colours_fit_2, ir2]
    rcases forL_find (g := gdN 1) (body := fb_colours_fit_1 C) (enc := D.int) (fun i => !colB i) (fun _ => D.v (.bl false)) (fun s => ∃ a, s = [.nd k (ws.map D.int), a]) (fun _ _ => True) ws
      [.nd k (ws.map D.int), .un] ⟨_, rfl⟩ st with ⟨pre, i, post, s2, e1, _, e2, e3, _⟩ | ⟨e1, s2, e3, a, rfl⟩
    · have ef : fo_colours_fit_1 C [.nd k (ws.map D.int), .un] = .rt (.v (.bl false)) s2 := by
        unfold fo_colours_fit_1 sFor
        simp [dIt, hit, hO, hko, e3]
      have ea : ws.all colB = false := by rw [e1]; simp at e2 ⊢; simp [e2]
      rw [ea]
      simp [D_colours_fit, b_colours_fit, if_colours_fit_1, ef, hisi, hlen, ir, hko, hO, z2]
    · have ef : fo_colours_fit_1 C [.nd k (ws.map D.int), .un] = .nx [.nd k (ws.map D.int), a] := by
        unfold fo_colours_fit_1 sFor
        simp [dIt, hit, hO, hko, e3]
      have ea : ws.all colB = true := List.all_eq_true.mpr fun i m => by simpa using e1 i m
      rw [ea]
      simp [D_colours_fit, b_colours_fit, if_colours_fit_1, ef, hisi, hlen, ir, hko, hO, z2]
theorem fz_ints' (ws : List Int) : D.fzs (ws.map D.int) = ws.map D.int := fzs_ints ws
/-- the answer of check_colours -/
theorem check_ok {C B M : Addr} {k k' : NK} {h w : Nat} {f : Nat → Nat → Bool} {wp wf : List Int} (hk : k = .tup ∨ k = .lst false) (hk' : k' = .tup ∨ k' = .lst false) (h1 : fitB wp = true) (h2 : fitB wf = true) (h3 : wp.length = w) (h4 : wf.length = h) :
    D_check_colours C B M [clothD C h w f, .nd k (wp.map D.int), .nd k' (wf.map D.int)] = .ok (.v .non, []) := by
  have c1 := colours_fit (C := C) (ws := wp) hk
  have c2 := colours_fit (C := C) (ws := wf) hk'
  have l1 : lenD (.nd k (wp.map D.int)) = some (.v (.int wp.length)) := by rcases hk with rfl | rfl; exact len_intsT; exact len_intsL
  have l2 : lenD (.nd k' (wf.map D.int)) = some (.v (.int wf.length)) := by rcases hk' with rfl | rfl; exact len_intsT; exact len_intsL
  have k1 : k.fz = k := by rcases hk with rfl | rfl <;> rfl
  have k2 : k'.fz = k' := by rcases hk' with rfl | rfl <;> rfl
  have k3 : k.isOwn = false := by rcases hk with rfl | rfl <;> rfl
  have k4 : k'.isOwn = false := by rcases hk' with rfl | rfl <;> rfl
  have f1 := fz_ints' wp
  have f2 := fz_ints' wf
  have O1 := fun q => intsHas (q := q) wp
  have O2 := fun q => intsHas (q := q) wf
  rw [h1] at c1; rw [h2] at c2
  have h3i : (wp.length : Int) = w := by omega
  have h4i : (wf.length : Int) = h := by omega
  simp [D_check_colours, b_check_colours, if_check_colours_1, if_check_colours_2, fnD, c1, c2, l1, l2, k1, k2, k3, k4, f1, f2, O1, O2, dFld, fldD, D.inst, fIx, h3i, h4i]
end Wk21

namespace Wk21
open PySem PySem.Spec PyProof.Rows L2 VS
/-! ### rows of digits -/
def dig (c : Int) : Str := ⟨#[48 + c.toNat]⟩
theorem dig_len (c : Int) : (dig c).length = 1 := rfl
theorem ix_dig {c : Int} (h : colB c = true) : ixD (.v (.str "012345")) (.v (.int c)) = some (.v (.str (dig c))) := by
  unfold colB at h
  have h : 0 ≤ c ∧ c ≤ 5 := by simpa using h
  rw [show ("012345" : Str) = ⟨#[48, 49, 50, 51, 52, 53]⟩ by decide +kernel, ix_s (by decide)]
  have : c = 0 ∨ c = 1 ∨ c = 2 ∨ c = 3 ∨ c = 4 ∨ c = 5 := by omega
  rcases this with rfl | rfl | rfl | rfl | rfl | rfl <;> rfl
def dRow (n : Nat) (g : Nat → Int) : Str := ⟨((List.range n).map fun j => 48 + (g j).toNat).toArray⟩
theorem dRow_cs (n : Nat) (g : Nat → Int) : Str.cs (dRow n g) = (List.range n).map fun j => 48 + (g j).toNat := rfl
theorem dRow_len (n : Nat) (g : Nat → Int) : (dRow n g).length = n := by rw [← cs_len, dRow_cs]; simp
theorem join_dRow (n : Nat) (g : Nat → Int) : Txt.join "" ((List.range n).map fun j => dig (g j)) = dRow n g := by
  refine str_ext ?_
  rw [join_cs, dRow_cs, List.map_map]
  have : (Str.cs ∘ fun j => dig (g j)) = fun j => [48 + (g j).toNat] := rfl
  rw [this]
  induction List.range n with
  | nil => rfl
  | cons a r ih => rw [List.map_cons, List.map_cons, List.flatten_cons, ih]; rfl
theorem join_dig {o : Bool} {n : Nat} {g : Nat → Int} (hn : n ≤ 1000) : joinD [.v (.str ""), .nd (.lst o) ((List.range n).map fun j => D.str (dig (g j)))] = some (.v (.str (dRow n g))) := by
  have e : ((List.range n).map fun j => D.str (dig (g j))) = ((List.range n).map fun j => dig (g j)).map D.str := by rw [List.map_map]; rfl
  rw [e, join_d (fun z m => by obtain ⟨j, _, rfl⟩ := List.mem_map.mp m; exact dig_len _) (by simp; exact hn), join_dRow]
abbrev pic (h w : Nat) (p : Nat → Nat → Int) : List D := (List.range h).map fun i => D.str (dRow w (p i))
def at0 (ws : List Int) (i : Nat) : Int := ws.getD i 0
theorem get_int {ws : List Int} {i : Nat} (h : i < ws.length) : (ws.map D.int)[i]? = some (.v (.int (at0 ws i))) := by
  rw [List.getElem?_map, List.getElem?_eq_getElem h]
  unfold at0
  rw [List.getD_eq_getElem?_getD, List.getElem?_eq_getElem h]; rfl
theorem at_col {ws : List Int} (h : fitB ws = true) {i : Nat} (hi : i < ws.length) : colB (at0 ws i) = true := by
  unfold fitB at h
  rw [Bool.and_eq_true] at h
  unfold at0
  rw [List.getD_eq_getElem?_getD, List.getElem?_eq_getElem hi]
  exact List.all_eq_true.mp h.2 _ (List.getElem_mem hi)
def faceF (f : Nat → Nat → Bool) (wp wf : List Int) : Nat → Nat → Int := fun i j => if f i j = true then at0 wp j else at0 wf i
def backF (f : Nat → Nat → Bool) (wp wf : List Int) : Nat → Nat → Int := fun i j => if f i j = true then at0 wf i else at0 wp j
theorem ix_ints {k : NK} {ws : List Int} {i : Nat} (hk : k = .tup ∨ k = .lst false) (h : i < ws.length) : ixD (.nd k (ws.map D.int)) (.v (.int i)) = some (.v (.int (at0 ws i))) := by
  rcases hk with rfl | rfl
  · rw [VS.ix_tup (by omega), Int.toNat_natCast]; exact get_int h
  · rw [VS.ix_lst (by omega), Int.toNat_natCast]; exact get_int h
theorem crossing {C : Addr} {k k' : NK} {h w i j : Nat} {f : Nat → Nat → Bool} {wp wf : List Int} (hk : k = .tup ∨ k = .lst false) (hk' : k' = .tup ∨ k' = .lst false) (h3 : wp.length = w) (h4 : wf.length = h) (hw : w ≤ 60) (hi : i < h) (hj : j < w) :
    D_crossing_colours C [clothD C h w f, .nd k (wp.map D.int), .nd k' (wf.map D.int), .v (.int i), .v (.int j)] = .ok (.nd .tup [.v (.int (faceF f wp wf i j)), .v (.int (backF f wp wf i j))], []) := by
  have g := rowsD_get (w := w) (f := f) hi
  have i0 : (0 : Int) ≤ i := by omega
  have x1 : ixD (.nd .tup (rowsD h w f)) (.v (.int i)) = some (.v (.str (mkRow w (f i)))) := by rw [VS.ix_tup i0]; exact g
  have x2 := ix_row (w := w) (f := f i) (j := (j : Int)) (by omega) (by omega) (by omega)
  rw [Int.toNat_natCast] at x2
  have y1 := ix_ints (k := k) (ws := wp) (i := j) hk (by omega)
  have y2 := ix_ints (k := k') (ws := wf) (i := i) hk' (by omega)
  have b := bit_eq1 (f i j)
  have z2 : 2 ≤ sizeLine := by rw [sizeLine_eq]; decide
  have k1 : k.isOwn = false := by rcases hk with rfl | rfl <;> rfl
  have k2 : k'.isOwn = false := by rcases hk' with rfl | rfl <;> rfl
  unfold faceF backF
  cases hf : f i j with
  | true =>
    rw [hf] at b x2
    have b2 : bit true = "1" := of_decide_eq_true b
    simp [D_crossing_colours, b_crossing_colours, if_crossing_colours_1, dFld, fldD, D.inst, fIx, x1, x2, y1, y2, b2, chkT, z2]
  | false =>
    rw [hf] at b x2
    have b2 : ¬ bit false = "1" := of_decide_eq_false b
    simp [D_crossing_colours, b_crossing_colours, if_crossing_colours_1, dFld, fldD, D.inst, fIx, x1, x2, y1, y2, b2, chkT, z2]
end Wk21

namespace Wk21
open PySem PySem.Spec PyProof.Rows L2 VS
structure Hy (k k' : NK) (h w : Nat) (wp wf : List Int) : Prop where
  k1 : k = .tup ∨ k = .lst false
  k2 : k' = .tup ∨ k' = .lst false
  f1 : fitB wp = true
  f2 : fitB wf = true
  l1 : wp.length = w
  l2 : wf.length = h
  d : Dim h w
theorem face_col {k k' : NK} {h w i j : Nat} {f : Nat → Nat → Bool} {wp wf : List Int} (y : Hy k k' h w wp wf) (hi : i < h) (hj : j < w) : colB (faceF f wp wf i j) = true ∧ colB (backF f wp wf i j) = true := by
  have a := at_col y.f1 (i := j) (by rw [y.l1]; exact hj)
  have b := at_col y.f2 (i := i) (by rw [y.l2]; exact hi)
  unfold faceF backF
  cases f i j
  · exact ⟨b, a⟩
  · exact ⟨a, b⟩
theorem face {C B M : Addr} {k k' : NK} {h w : Nat} {f : Nat → Nat → Bool} {wp wf : List Int} (y : Hy k k' h w wp wf) :
    D_face C B M [clothD C h w f, .nd k (wp.map D.int), .nd k' (wf.map D.int)] = .ok (.nd .tup (pic h w (faceF f wp wf)), []) := by
  obtain ⟨hk, hk', h1, h2, h3, h4, d⟩ := id y
  have ck := check_ok (C := C) (B := B) (M := M) (f := f) hk hk' h1 h2 h3 h4
  have k1 : k.isOwn = false := by rcases hk with rfl | rfl <;> rfl
  have k2 : k'.isOwn = false := by rcases hk' with rfl | rfl <;> rfl
  have k3 : k.fz = k := by rcases hk with rfl | rfl <;> rfl
  have k4 : k'.fz = k' := by rcases hk' with rfl | rfl <;> rfl
  have f1 := fz_ints' wp
  have f2 := fz_ints' wf
  have O1 := fun q => intsHas (q := q) wp
  have O2 := fun q => intsHas (q := q) wf
  have O := fun q => rowsHas (q := q) (h := h) (w := w) (f := f)
  have F := rowsFz (h := h) (w := w) (f := f)
  have w1 := d.w1
  have hh1 := d.h1
  generalize hW : D.nd k (wp.map D.int) = W at *
  generalize hV : D.nd k' (wf.map D.int) = V' at *
  have Wf : W.fz = W := by rw [← hW]; simp [k3, f1]
  have Vf : V'.fz = V' := by rw [← hV]; simp [k4, f2]
  have Wu : W.isUn = false := by rw [← hW]; rfl
  have Vu : V'.isUn = false := by rw [← hV]; rfl
  have Wo : W.hasOwn = false := by rw [← hW]; simp [k1, O1]
  have Vo : V'.hasOwn = false := by rw [← hV]; simp [k2, O2]
  have c1 : ∀ i (P u5 u7 : D), i < h → co_face_1 C B M [clothD C h w f, W, V', P, .v (.int i), u5, .un, u7] = .ok (.nd (.lst true) ((List.range w).map fun j => D.int (faceF f wp wf i j)), [clothD C h w f, W, V', P, .v (.int i), u5, .un, u7]) := fun i P u5 u7 hi => by
    unfold co_face_1
    refine lc_range (F := fun j => D.int (faceF f wp wf i j)) (n := w) (s1 := [clothD C h w f, W, V', P, .v (.int i), u5, .un, u7]) (rg1_nat (by simp [dFld, fldD, D.inst, fIx]) (by omega)) (by omega) rfl fun j hj => ⟨[clothD C h w f, W, V', P, .v (.int i), u5, .v (.int j), u7], [clothD C h w f, W, V', P, .v (.int i), u5, .v (.int j), u7], rfl, rfl, ?_, rfl, rfl⟩
    have cr := crossing (C := C) (f := f) hk hk' h3 h4 (by omega) hi hj
    rw [hW, hV] at cr
    have x0 : ixD (.nd .tup [.v (.int (faceF f wp wf i j)), .v (.int (backF f wp wf i j))]) (.v (.int 0)) = some (.v (.int (faceF f wp wf i j))) := by rfl
    simp [ce_face_1, Wf, Vf, Wu, Vu, Wo, Vo, O, F, cr, x0]
  have c2 : ∀ i (P : D), i < h → co_face_2 C B M [clothD C h w f, W, V', P, .v (.int i), .nd (.lst true) ((List.range w).map fun j => D.int (faceF f wp wf i j)), .un, .un] = .ok (.nd (.lst true) ((List.range w).map fun j => D.str (dig (faceF f wp wf i j))), [clothD C h w f, W, V', P, .v (.int i), .nd (.lst true) ((List.range w).map fun j => D.int (faceF f wp wf i j)), .un, .un]) := fun i P hi => by
    have hO : ∀ q, D.hass q ((List.range w).map fun j => D.int (faceF f wp wf i j)) = false := fun q => by
      have := intsHas (q := q) ((List.range w).map fun j => faceF f wp wf i j)
      rwa [List.map_map] at this
    unfold co_face_2
    refine lc_it (l := List.range w) (enc := fun j => D.int (faceF f wp wf i j)) (F := fun j => D.str (dig (faceF f wp wf i j))) (x := .nd (.lst true) ((List.range w).map fun j => D.int (faceF f wp wf i j))) (s1 := [clothD C h w f, W, V', P, .v (.int i), .nd (.lst true) ((List.range w).map fun j => D.int (faceF f wp wf i j)), .un, .un]) (by simp [dIt, D.items]) (by rfl) (hO _) (by simp; omega) rfl fun j mj => ?_
    generalize hL : D.nd (.lst true) ((List.range w).map fun j => D.int (faceF f wp wf i j)) = LL at *
    have hj := List.mem_range.mp mj
    refine ⟨[clothD C h w f, W, V', P, .v (.int i), LL, .un, .v (.int (faceF f wp wf i j))], [clothD C h w f, W, V', P, .v (.int i), LL, .un, .v (.int (faceF f wp wf i j))], rfl, rfl, ?_, rfl, rfl⟩
    have := ix_dig (face_col (f := f) y hi hj).1
    simp [ce_face_2, this]
  obtain ⟨s', ef, a, b, rfl⟩ := for_range (g := gdN 4) (body := fb_face_1 C B M) (n := h) (s := [clothD C h w f, W, V', .nd (.lst true) [], .un, .un, .un, .un])
    (fun i s => ∃ a b, s = [clothD C h w f, W, V', .nd (.lst true) (pic i w (faceF f wp wf)), a, b, .un, .un]) ⟨.un, .un, rfl⟩ (by
      rintro i s hi ⟨a, b, rfl⟩
      have e1 := c1 i (.nd (.lst true) (pic i w (faceF f wp wf))) b .un hi
      have e2 := c2 i (.nd (.lst true) (pic i w (faceF f wp wf))) hi
      have j1 := join_dig (o := true) (n := w) (g := faceF f wp wf i) (by omega)
      have sl : (pic i w (faceF f wp wf)).length < sizeLine := by rw [sizeLine_eq]; simp; omega
      have ps : pic (i + 1) w (faceF f wp wf) = pic i w (faceF f wp wf) ++ [.v (.str (dRow w (faceF f wp wf i)))] := by
        show (List.range (i + 1)).map _ = _
        rw [List.range_succ, List.map_append]; rfl
      refine ⟨_, [clothD C h w f, W, V', .nd (.lst true) (pic (i + 1) w (faceF f wp wf)), .v (.int i), .nd (.lst true) ((List.range w).map fun j => D.int (faceF f wp wf i j)), .un, .un], rfl, .inl ?_, _, _, rfl⟩
      rw [ps]
      generalize hL : pic i w (faceF f wp wf) = PL at *
      simp [fb_face_1, e1, e2, D.isStr, j1, dMeth, mAppend, sl])
  have efo : fo_face_1 C B M [clothD C h w f, W, V', .nd (.lst true) [], .un, .un, .un, .un] = .nx [clothD C h w f, W, V', .nd (.lst true) (pic h w (faceF f wp wf)), a, b, .un, .un] := by
    unfold fo_face_1
    rw [for_rg (rg1_nat (n := h) (s' := [clothD C h w f, W, V', .nd (.lst true) [], .un, .un, .un, .un]) (by simp [dFld, fldD, D.inst, fIx]) (by omega)), ef]
  have hp : ∀ q, D.hass q (pic h w (faceF f wp wf)) = false := fun q => by
    have := has_strs q ((List.range h).map fun i => dRow w (faceF f wp wf i))
    rwa [List.map_map] at this
  generalize hL : pic h w (faceF f wp wf) = PL at *
  simp [D_face, b_face, fnD, ck, Wf, Vf, Wu, Vu, Wo, Vo, O, F, efo, tupD, hp]
end Wk21

namespace Wk21
open PySem PySem.Spec PyProof.Rows L2 VS
abbrev bkF (w : Nat) (f : Nat → Nat → Bool) (wp wf : List Int) : Nat → Nat → Int := fun i j => backF f wp wf i (w - 1 - j)
theorem back {C B M : Addr} {k k' : NK} {h w : Nat} {f : Nat → Nat → Bool} {wp wf : List Int} (y : Hy k k' h w wp wf) :
    D_back C B M [clothD C h w f, .nd k (wp.map D.int), .nd k' (wf.map D.int)] = .ok (.nd .tup (pic h w (bkF w f wp wf)), []) := by
  obtain ⟨hk, hk', h1, h2, h3, h4, d⟩ := id y
  have ck := check_ok (C := C) (B := B) (M := M) (f := f) hk hk' h1 h2 h3 h4
  have k1 : k.isOwn = false := by rcases hk with rfl | rfl <;> rfl
  have k2 : k'.isOwn = false := by rcases hk' with rfl | rfl <;> rfl
  have k3 : k.fz = k := by rcases hk with rfl | rfl <;> rfl
  have k4 : k'.fz = k' := by rcases hk' with rfl | rfl <;> rfl
  have f1 := fz_ints' wp
  have f2 := fz_ints' wf
  have O1 := fun q => intsHas (q := q) wp
  have O2 := fun q => intsHas (q := q) wf
  have O := fun q => rowsHas (q := q) (h := h) (w := w) (f := f)
  have F := rowsFz (h := h) (w := w) (f := f)
  have w1 := d.w1
  have hh1 := d.h1
  generalize hW : D.nd k (wp.map D.int) = W at *
  generalize hV : D.nd k' (wf.map D.int) = V' at *
  have Wf : W.fz = W := by rw [← hW]; simp [k3, f1]
  have Vf : V'.fz = V' := by rw [← hV]; simp [k4, f2]
  have Wu : W.isUn = false := by rw [← hW]; rfl
  have Vu : V'.isUn = false := by rw [← hV]; rfl
  have Wo : W.hasOwn = false := by rw [← hW]; simp [k1, O1]
  have Vo : V'.hasOwn = false := by rw [← hV]; simp [k2, O2]
  have c1 : ∀ i (P u5 u7 : D), i < h → co_back_1 C B M [clothD C h w f, W, V', P, .v (.int i), u5, .un, u7] = .ok (.nd (.lst true) ((List.range w).map fun j => D.int (backF f wp wf i j)), [clothD C h w f, W, V', P, .v (.int i), u5, .un, u7]) := fun i P u5 u7 hi => by
    unfold co_back_1
    refine lc_range (F := fun j => D.int (backF f wp wf i j)) (n := w) (s1 := [clothD C h w f, W, V', P, .v (.int i), u5, .un, u7]) (rg1_nat (by simp [dFld, fldD, D.inst, fIx]) (by omega)) (by omega) rfl fun j hj => ⟨[clothD C h w f, W, V', P, .v (.int i), u5, .v (.int j), u7], [clothD C h w f, W, V', P, .v (.int i), u5, .v (.int j), u7], rfl, rfl, ?_, rfl, rfl⟩
    have cr := crossing (C := C) (f := f) hk hk' h3 h4 (by omega) hi hj
    rw [hW, hV] at cr
    have x0 : ixD (.nd .tup [.v (.int (faceF f wp wf i j)), .v (.int (backF f wp wf i j))]) (.v (.int 1)) = some (.v (.int (backF f wp wf i j))) := by rfl
    simp [ce_back_1, Wf, Vf, Wu, Vu, Wo, Vo, O, F, cr, x0]
  have c2 : ∀ i (P : D), i < h → co_back_2 C B M [clothD C h w f, W, V', P, .v (.int i), .nd (.lst true) ((List.range w).map fun j => D.int (backF f wp wf i j)), .un, .un] = .ok (.nd (.lst true) ((List.range w).map fun j => D.str (dig (backF f wp wf i (w - 1 - j)))), [clothD C h w f, W, V', P, .v (.int i), .nd (.lst true) ((List.range w).map fun j => D.int (backF f wp wf i j)), .un, .un]) := fun i P hi => by
    have hO : ∀ q, D.hass q ((List.range w).map fun j => D.int (backF f wp wf i j)) = false := fun q => by
      have := intsHas (q := q) ((List.range w).map fun j => backF f wp wf i j)
      rwa [List.map_map] at this
    have hO2 : ∀ q, D.hass q ((List.range w).map fun j => D.int (backF f wp wf i (w - 1 - j))) = false := fun q => by
      have := intsHas (q := q) ((List.range w).map fun j => backF f wp wf i (w - 1 - j))
      rwa [List.map_map] at this
    have rv : revA (.nd (.lst true) ((List.range w).map fun j => D.int (backF f wp wf i j))) = some (.nd (.lst true) ((List.range w).map fun j => D.int (backF f wp wf i (w - 1 - j)))) := by
      unfold revA
      simp only [revD, hO, if_true]
      rw [gen_rev]
    unfold co_back_2
    refine lc_it (l := List.range w) (enc := fun j => D.int (backF f wp wf i (w - 1 - j))) (F := fun j => D.str (dig (backF f wp wf i (w - 1 - j)))) (x := .nd (.lst true) ((List.range w).map fun j => D.int (backF f wp wf i (w - 1 - j)))) (s1 := [clothD C h w f, W, V', P, .v (.int i), .nd (.lst true) ((List.range w).map fun j => D.int (backF f wp wf i j)), .un, .un]) (by simp [dIt, D.items, rv]) (by rfl) (hO2 _) (by simp; omega) rfl fun j mj => ?_
    generalize hL : D.nd (.lst true) ((List.range w).map fun j => D.int (backF f wp wf i j)) = LL at *
    have hj := List.mem_range.mp mj
    refine ⟨[clothD C h w f, W, V', P, .v (.int i), LL, .un, .v (.int (backF f wp wf i (w - 1 - j)))], [clothD C h w f, W, V', P, .v (.int i), LL, .un, .v (.int (backF f wp wf i (w - 1 - j)))], rfl, rfl, ?_, rfl, rfl⟩
    have := ix_dig (face_col (f := f) y hi (show w - 1 - j < w by omega)).2
    simp [ce_back_2, this]
  obtain ⟨s', ef, a, b, rfl⟩ := for_range (g := gdN 4) (body := fb_back_1 C B M) (n := h) (s := [clothD C h w f, W, V', .nd (.lst true) [], .un, .un, .un, .un])
    (fun i s => ∃ a b, s = [clothD C h w f, W, V', .nd (.lst true) (pic i w (bkF w f wp wf)), a, b, .un, .un]) ⟨.un, .un, rfl⟩ (by
      rintro i s hi ⟨a, b, rfl⟩
      have e1 := c1 i (.nd (.lst true) (pic i w (bkF w f wp wf))) b .un hi
      have e2 := c2 i (.nd (.lst true) (pic i w (bkF w f wp wf))) hi
      have j1 := join_dig (o := true) (n := w) (g := bkF w f wp wf i) (by omega)
      have sl : (pic i w (bkF w f wp wf)).length < sizeLine := by rw [sizeLine_eq]; simp; omega
      have ps : pic (i + 1) w (bkF w f wp wf) = pic i w (bkF w f wp wf) ++ [.v (.str (dRow w (bkF w f wp wf i)))] := by
        show (List.range (i + 1)).map _ = _
        rw [List.range_succ, List.map_append]; rfl
      refine ⟨_, [clothD C h w f, W, V', .nd (.lst true) (pic (i + 1) w (bkF w f wp wf)), .v (.int i), .nd (.lst true) ((List.range w).map fun j => D.int (backF f wp wf i j)), .un, .un], rfl, .inl ?_, _, _, rfl⟩
      rw [ps]
      generalize hL : pic i w (bkF w f wp wf) = PL at *
      simp [fb_back_1, e1, e2, D.isStr, j1, dMeth, mAppend, sl])
  have efo : fo_back_1 C B M [clothD C h w f, W, V', .nd (.lst true) [], .un, .un, .un, .un] = .nx [clothD C h w f, W, V', .nd (.lst true) (pic h w (bkF w f wp wf)), a, b, .un, .un] := by
    unfold fo_back_1
    rw [for_rg (rg1_nat (n := h) (s' := [clothD C h w f, W, V', .nd (.lst true) [], .un, .un, .un, .un]) (by simp [dFld, fldD, D.inst, fIx]) (by omega)), ef]
  have hp : ∀ q, D.hass q (pic h w (bkF w f wp wf)) = false := fun q => by
    have := has_strs q ((List.range h).map fun i => dRow w (bkF w f wp wf i))
    rwa [List.map_map] at this
  generalize hL : pic h w (bkF w f wp wf) = PL at *
  simp [D_back, b_back, fnD, ck, Wf, Vf, Wu, Vu, Wo, Vo, O, F, efo, tupD, hp]
end Wk21

namespace Wk21
open PySem PySem.Spec PyProof.Rows L2 VS
theorem lc_rangeF {vs mb : List Nat} {it : I} {c : B} {g : Gd} {m : Md} {e : E} {s s1 s2 : List D} {n : Nat} {F : Nat → D} {p : Nat → Bool} (h : it s = .ok ((.v .non, rangeD n), s1)) (hn : n ≤ 1000000) (hs : wipeD vs s1 = s2)
    (he : ∀ a ∈ List.range n, ∃ s1, g (.int (a : Int)) s2 = some s1 ∧ ((p a = true ∧ ∃ s3 s4, c s1 = .ok (true, s3) ∧ e s3 = .ok (F a, s4) ∧ (m.isTmp || !(F a).hasOwn) = true ∧ wipeD vs s4 = s2) ∨ (p a = false ∧ ∃ s3, c s1 = .ok (false, s3) ∧ wipeD vs s3 = s2))) :
    dLc .tmp mb vs it g c m e s = .ok (.nd (.lst true) (((List.range n).filter p).map F), s2) := by
  rw [lc_rg h hn, hs, rangeD_map, lcL_filter (F := F) (p := p) (List.range n) he]
  rfl
end Wk21

namespace Wk21
open PySem PySem.Spec PyProof.Rows L2 VS
abbrev prD (i j : Nat) : D := .nd .tup [.v (.int i), .v (.int j)]
def hidR (w : Nat) (wp wf : List Int) (i : Nat) : List D := ((List.range w).filter fun j => decide (at0 wp j = at0 wf i)).map fun j => prD i j
def hid (h w : Nat) (wp wf : List Int) : List D := ((List.range h).map fun i => hidR w wp wf i).flatten
theorem hid_succ (h w : Nat) (wp wf : List Int) : hid (h + 1) w wp wf = hid h w wp wf ++ hidR w wp wf h := by
  unfold hid
  rw [List.range_succ, List.map_append, List.flatten_append]
  simp
theorem hidR_len (w : Nat) (wp wf : List Int) (i : Nat) : (hidR w wp wf i).length ≤ w := by
  unfold hidR
  rw [List.length_map]
  exact Nat.le_trans (List.length_filter_le _ _) (by simp)
theorem hid_len (w : Nat) (wp wf : List Int) : ∀ h, (hid h w wp wf).length ≤ h * w
  | 0 => by simp [hid]
  | h + 1 => by
    rw [hid_succ, List.length_append, Nat.add_mul]
    have := hid_len w wp wf h
    have := hidR_len w wp wf h
    omega
theorem pairs_has {q : NK → Bool} (h2 : q .tup = false) (i : Nat) : ∀ l : List Nat, D.hass q (l.map fun j => prD i j) = false
  | [] => rfl
  | j :: l => by simp [pairs_has h2 i l, h2]
theorem hid_has {q : NK → Bool} (h2 : q .tup = false) (w : Nat) (wp wf : List Int) : ∀ h, D.hass q (hid h w wp wf) = false
  | 0 => rfl
  | h + 1 => by
    rw [hid_succ, D.hass_any, List.any_append, ← D.hass_any, ← D.hass_any, hid_has h2 w wp wf h]
    exact pairs_has h2 h _
end Wk21

namespace Wk21
open PySem PySem.Spec PyProof.Rows L2 VS
theorem hidden {C B M : Addr} {k k' : NK} {h w : Nat} {f : Nat → Nat → Bool} {wp wf : List Int} (y : Hy k k' h w wp wf) :
    D_hidden C B M [clothD C h w f, .nd k (wp.map D.int), .nd k' (wf.map D.int)] = .ok (.nd .tup (hid h w wp wf), []) := by
  obtain ⟨hk, hk', h1, h2, h3, h4, d⟩ := id y
  have ck := check_ok (C := C) (B := B) (M := M) (f := f) hk hk' h1 h2 h3 h4
  have k1 : k.isOwn = false := by rcases hk with rfl | rfl <;> rfl
  have k2 : k'.isOwn = false := by rcases hk' with rfl | rfl <;> rfl
  have k3 : k.fz = k := by rcases hk with rfl | rfl <;> rfl
  have k4 : k'.fz = k' := by rcases hk' with rfl | rfl <;> rfl
  have f1 := fz_ints' wp
  have f2 := fz_ints' wf
  have O1 := fun q => intsHas (q := q) wp
  have O2 := fun q => intsHas (q := q) wf
  have O := fun q => rowsHas (q := q) (h := h) (w := w) (f := f)
  have F := rowsFz (h := h) (w := w) (f := f)
  have w1 := d.w1
  have hh1 := d.h1
  have ixW : ∀ j, j < w → ixD (.nd k (wp.map D.int)) (.v (.int (j : Nat))) = some (.v (.int (at0 wp j))) := fun j hj => ix_ints hk (by omega)
  have ixV : ∀ i, i < h → ixD (.nd k' (wf.map D.int)) (.v (.int (i : Nat))) = some (.v (.int (at0 wf i))) := fun i hi => ix_ints hk' (by omega)
  have Wf : (D.nd k (wp.map D.int)).fz = D.nd k (wp.map D.int) := by simp [k3, f1]
  have Vf : (D.nd k' (wf.map D.int)).fz = D.nd k' (wf.map D.int) := by simp [k4, f2]
  have Wu : (D.nd k (wp.map D.int)).isUn = false := by rfl
  have Vu : (D.nd k' (wf.map D.int)).isUn = false := by rfl
  have Wo : (D.nd k (wp.map D.int)).hasOwn = false := by simp [k1, O1]
  have Vo : (D.nd k' (wf.map D.int)).hasOwn = false := by simp [k2, O2]
  generalize hW : D.nd k (wp.map D.int) = W at *
  generalize hV : D.nd k' (wf.map D.int) = V' at *
  have z2 : 2 ≤ sizeLine := by rw [sizeLine_eq]; decide
  have c1 : ∀ i (P : D), i < h → co_hidden_1 C B M [clothD C h w f, W, V', P, .v (.int i), .un] = .ok (.nd (.lst true) (hidR w wp wf i), [clothD C h w f, W, V', P, .v (.int i), .un]) := fun i P hi => by
    unfold co_hidden_1
    refine lc_rangeF (F := fun j => prD i j) (p := fun j => decide (at0 wp j = at0 wf i)) (n := w) (s1 := [clothD C h w f, W, V', P, .v (.int i), .un]) (rg1_nat (by simp [dFld, fldD, D.inst, fIx]) (by omega)) (by omega) rfl fun j hj => ⟨[clothD C h w f, W, V', P, .v (.int i), .v (.int j)], rfl, ?_⟩
    have hj := List.mem_range.mp hj
    have x1 := ixW j hj
    have x2 := ixV i hi
    by_cases e : at0 wp j = at0 wf i
    · refine .inl ⟨decide_eq_true e, [clothD C h w f, W, V', P, .v (.int i), .v (.int j)], [clothD C h w f, W, V', P, .v (.int i), .v (.int j)], ?_, ?_, rfl, rfl⟩
      · simp [Wu, Vu, x1, x2, e]
      · simp [ce_hidden_1, chkT, z2]
    · refine .inr ⟨decide_eq_false e, [clothD C h w f, W, V', P, .v (.int i), .v (.int j)], ?_, rfl⟩
      simp [Wu, Vu, x1, x2, e]
  obtain ⟨s', ef, a, rfl⟩ := for_range (g := gdN 4) (body := fb_hidden_1 C B M) (n := h) (s := [clothD C h w f, W, V', .nd (.lst true) [], .un, .un])
    (fun i s => ∃ a, s = [clothD C h w f, W, V', .nd (.lst true) (hid i w wp wf), a, .un]) ⟨.un, rfl⟩ (by
      rintro i s hi ⟨a, rfl⟩
      have e1 := c1 i (.nd (.lst true) (hid i w wp wf)) hi
      have sl : (hid i w wp wf).length + (hidR w wp wf i).length ≤ sizeLine := by
        have a1 := hid_len w wp wf i
        have a2 := hidR_len w wp wf i
        have a3 : i * w ≤ 60 * 60 := Nat.mul_le_mul (by omega) w1
        rw [sizeLine_eq]; omega
      have ho : D.hass NK.isOwn (hidR w wp wf i) = false := pairs_has rfl i _
      refine ⟨_, [clothD C h w f, W, V', .nd (.lst true) (hid (i + 1) w wp wf), .v (.int i), .un], rfl, .inl ?_, _, rfl⟩
      rw [hid_succ]
      generalize hid i w wp wf = PL at *
      generalize hidR w wp wf i = QL at *
      simp [fb_hidden_1, e1, dMeth, mExtend, sl, ho])
  have efo : fo_hidden_1 C B M [clothD C h w f, W, V', .nd (.lst true) [], .un, .un] = .nx [clothD C h w f, W, V', .nd (.lst true) (hid h w wp wf), a, .un] := by
    unfold fo_hidden_1
    rw [for_rg (rg1_nat (n := h) (s' := [clothD C h w f, W, V', .nd (.lst true) [], .un, .un]) (by simp [dFld, fldD, D.inst, fIx]) (by omega)), ef]
  have hp := hid_has (q := NK.isOwn) rfl w wp wf h
  generalize hid h w wp wf = PL at *
  simp [D_hidden, b_hidden, fnD, ck, Wf, Vf, Wu, Vu, Wo, Vo, O, F, efo, tupD, hp]
end Wk21

namespace Wk21
open PySem PySem.Spec PyProof.Rows L2 VS
theorem rev_row {w : Nat} {g : Nat → Bool} (hw : w ≤ 1000) : revA (.v (.str (mkRow w g))) = some (.v (.str (mkRow w fun j => g (w - 1 - j)))) := by
  unfold revA
  simp only
  rw [if_pos (by rw [mkRow_len, sizeLine_eq]; omega)]
  congr 3
  refine str_ext ?_
  show ((mkRow w g).cps.toList.reverse.toArray).toList = _
  show (Str.cs (mkRow w g)).reverse = _
  rw [mkRow_cs, mkRow_cs, gen_rev]
theorem row_items {w : Nat} {g : Nat → Bool} : (D.v (.str (mkRow w g))).items = some ((List.range w).map fun j => D.str (bit (g j))) := by
  show some ((Str.cs (mkRow w g)).map fun c => D.v (.str ⟨#[c]⟩)) = _
  rw [mkRow_cs, List.map_map]
  congr 1
  refine List.map_congr_left fun j _ => ?_
  cases hb : g j <;> simp [hb, bit]
theorem bits_has {q : NK → Bool} {w : Nat} {g : Nat → Bool} : D.hass q ((List.range w).map fun j => D.str (bit (g j))) = false := by
  have := has_strs q ((List.range w).map fun j => bit (g j))
  rwa [List.map_map] at this
theorem flip_bit (b : Bool) : ixD (.v (.str "10")) (.v (.int (if bit b = "1" then 1 else 0))) = some (.v (.str (bit (!b)))) := by
  rw [s1]
  cases b
  · exact ix10 (d := 0) (by decide) (by decide)
  · exact ix10 (d := 1) (by decide) (by decide)
abbrev tnF (w : Nat) (f : Nat → Nat → Bool) : Nat → Nat → Bool := fun i j => !f i (w - 1 - j)
theorem turned {h w : Nat} {f : Nat → Nat → Bool} (d : Dim h w) : D__law_turned [.nd (.lst false) (rowsD h w f)] = .ok (.nd (.lst true) (rowsD h w (tnF w f)), []) := by
  obtain ⟨h0, h1, w0, w1⟩ := d
  have c1 : ∀ i P u, co__law_turned_1 [.nd (.lst false) (rowsD h w f), P, .v (.str (mkRow w (f i))), u] = .ok (.nd (.lst true) ((List.range w).map fun j => D.str (bit (tnF w f i j))), [.nd (.lst false) (rowsD h w f), P, .v (.str (mkRow w (f i))), .un]) := fun i P u => by
    have rv := rev_row (w := w) (g := f i) (by omega)
    have it := row_items (w := w) (g := fun j => f i (w - 1 - j))
    unfold co__law_turned_1
    refine lc_it (l := List.range w) (enc := fun j => D.str (bit (f i (w - 1 - j)))) (F := fun j => D.str (bit (tnF w f i j))) (x := .v (.str (mkRow w fun j => f i (w - 1 - j)))) (s1 := [.nd (.lst false) (rowsD h w f), P, .v (.str (mkRow w (f i))), u]) (by simp [dIt, rv, it, -D.items]) (by rfl) bits_has (by simp; omega) rfl fun j mj => ⟨[.nd (.lst false) (rowsD h w f), P, .v (.str (mkRow w (f i))), .v (.str (bit (f i (w - 1 - j))))], [.nd (.lst false) (rowsD h w f), P, .v (.str (mkRow w (f i))), .v (.str (bit (f i (w - 1 - j))))], rfl, rfl, ?_, rfl, rfl⟩
    have := flip_bit (f i (w - 1 - j))
    simp [ce__law_turned_1, this]
  have O := fun q => rowsHas (q := q) (h := h) (w := w) (f := f)
  obtain ⟨s', e, a, b, rfl, _⟩ := forL_pre (g := gdN 2) (body := fb__law_turned_1) (enc := fun i => D.str (mkRow w (f i))) (fun pre s => ∃ a b, s = [.nd (.lst false) (rowsD h w f), .nd (.lst true) (rowsD pre.length w (tnF w f)), a, b] ∧ pre = List.range pre.length) (List.range h) [] [.nd (.lst false) (rowsD h w f), .nd (.lst true) [], .un, .un] ⟨.un, .un, rfl, rfl⟩ (by
    rintro pre i post s hp ⟨a, b, rfl, hr⟩
    have hl : pre.length < h := by
      have := congrArg List.length hp
      simp at this; omega
    have hi : i = pre.length := by
      have : (List.range h)[pre.length]? = some i := by
        rw [List.nil_append] at hp
        rw [hp, List.getElem?_append_right (Nat.le_refl _), Nat.sub_self]; rfl
      rw [List.getElem?_range hl] at this
      exact (Option.some.inj this).symm
    have e1 := c1 i (.nd (.lst true) (rowsD pre.length w (tnF w f))) b
    have j1 := join_range (o := true) (n := w) (f := tnF w f i) (by omega)
    have sl : (rowsD pre.length w (tnF w f)).length < sizeLine := by rw [rowsD_len, sizeLine_eq]; omega
    refine ⟨_, [.nd (.lst false) (rowsD h w f), .nd (.lst true) (rowsD (pre.length + 1) w (tnF w f)), .v (.str (mkRow w (f i))), .un], rfl, .inl ?_, _, _, by rw [List.length_append]; rfl, by rw [List.length_append, List.length_singleton, List.range_succ, ← hr, hi]⟩
    rw [rowsD_succ, ← hi]
    rw [← hi] at e1 sl
    generalize rowsD i w (tnF w f) = PL at *
    simp [fb__law_turned_1, e1, D.isStr, j1, dMeth, mAppend, sl])
  have ef : fo__law_turned_1 [.nd (.lst false) (rowsD h w f), .nd (.lst true) [], .un, .un] = .nx [.nd (.lst false) (rowsD h w f), .nd (.lst true) (rowsD h w (tnF w f)), a, b] := by
    unfold fo__law_turned_1
    rw [for_it (x := .nd (.lst false) (rowsD h w f)) (xs := (List.range h).map fun i => D.str (mkRow w (f i))) (s1 := [.nd (.lst false) (rowsD h w f), .nd (.lst true) [], .un, .un]) (by simp [dIt, D.items, rowsD_map]) (by simp [O]) (by rw [← rowsD_map]; exact O _), e]
    simp
  simp [D__law_turned, b__law_turned, chkT, ef]
end Wk21

namespace Wk21
open PySem PySem.Spec PyProof.Rows L2 VS
theorem dRow_succ (n : Nat) (g : Nat → Int) : dRow (n + 1) g = dRow n g ++ dig (g n) := by
  refine str_ext ?_
  rw [cs_append, dRow_cs, dRow_cs, List.range_succ, List.map_append]
  rfl
theorem dRow_zero (g : Nat → Int) : dRow 0 g = "" := by
  refine str_ext ?_
  rw [dRow_cs, sE]; rfl
theorem picture {k k' : NK} {h w : Nat} {f : Nat → Nat → Bool} {wp wf : List Int} (y : Hy k k' h w wp wf) :
    D__law_picture [.nd (.lst false) (rowsD h w f), .nd k (wp.map D.int), .nd k' (wf.map D.int)] = .ok (.nd (.lst true) (pic h w (faceF f wp wf)), []) := by
  obtain ⟨hk, hk', h1, h2, h3, h4, d⟩ := id y
  have w1 := d.w1
  have hh1 := d.h1
  have k1 : k.isOwn = false := by rcases hk with rfl | rfl <;> rfl
  have k2 : k'.isOwn = false := by rcases hk' with rfl | rfl <;> rfl
  have O1 := fun q => intsHas (q := q) wp
  have O2 := fun q => intsHas (q := q) wf
  have lenW : lenD (.nd k (wp.map D.int)) = some (.v (.int w)) := by
    rw [← h3]; rcases hk with rfl | rfl; exact len_intsT; exact len_intsL
  have lenR := len_rows (o := false) (h := h) (w := w) (f := f)
  have ixW : ∀ j, j < w → ixD (.nd k (wp.map D.int)) (.v (.int (j : Nat))) = some (.v (.int (at0 wp j))) := fun j hj => ix_ints hk (by omega)
  have ixV : ∀ i, i < h → ixD (.nd k' (wf.map D.int)) (.v (.int (i : Nat))) = some (.v (.int (at0 wf i))) := fun i hi => ix_ints hk' (by omega)
  have Wu : (D.nd k (wp.map D.int)).isUn = false := by rfl
  have Vu : (D.nd k' (wf.map D.int)).isUn = false := by rfl
  have Wo : (D.nd k (wp.map D.int)).hasOwn = false := by simp [k1, O1]
  have Vo : (D.nd k' (wf.map D.int)).hasOwn = false := by simp [k2, O2]
  generalize hW : D.nd k (wp.map D.int) = W at *
  generalize hV : D.nd k' (wf.map D.int) = V' at *
  have z2 : 2 ≤ sizeLine := by rw [sizeLine_eq]; decide
  have inner : ∀ i (P u6 : D), i < h → ∃ b, fo__law_picture_1 [.nd (.lst false) (rowsD h w f), W, V', P, .v (.int i), .v (.str ""), u6] = .nx [.nd (.lst false) (rowsD h w f), W, V', P, .v (.int i), .v (.str (dRow w (faceF f wp wf i))), b] := fun i P u6 hi => by
    obtain ⟨s', e, b, rfl⟩ := for_range (g := gdN 6) (body := fb__law_picture_1) (n := w) (s := [.nd (.lst false) (rowsD h w f), W, V', P, .v (.int i), .v (.str ""), u6])
      (fun j s => ∃ b, s = [.nd (.lst false) (rowsD h w f), W, V', P, .v (.int i), .v (.str (dRow j (faceF f wp wf i))), b]) ⟨u6, by rw [dRow_zero]⟩ (by
        rintro j s hj ⟨b, rfl⟩
        refine ⟨_, [.nd (.lst false) (rowsD h w f), W, V', P, .v (.int i), .v (.str (dRow (j + 1) (faceF f wp wf i))), .v (.int j)], rfl, .inl ?_, _, rfl⟩
        have g := rowsD_get (w := w) (f := f) hi
        have x1 : ixD (.nd (.lst false) (rowsD h w f)) (.v (.int i)) = some (.v (.str (mkRow w (f i)))) := by rw [VS.ix_lst (by omega)]; exact g
        have x2 := ix_row (w := w) (f := f i) (j := (j : Int)) (by omega) (by omega) (by omega)
        rw [Int.toNat_natCast] at x2
        have y1 := ixW j hj
        have y2 := ixV i hi
        have dg := ix_dig (face_col (f := f) y hi hj).1
        have sl : (dRow j (faceF f wp wf i)).length + (dig (faceF f wp wf i j)).length ≤ sizeLine := by rw [dRow_len, dig_len, sizeLine_eq]; omega
        have b := bit_eq1 (f i j)
        rw [dRow_succ]
        generalize dRow j (faceF f wp wf i) = R at *
        unfold faceF at dg sl ⊢
        cases hf : f i j with
        | true =>
          rw [hf] at b x2 dg sl
          have b2 : bit true = "1" := of_decide_eq_true b
          have q : ixD (.nd (.lst true) [.v (.int (at0 wf i)), .v (.int (at0 wp j))]) (.v (.int 1)) = some (.v (.int (at0 wp j))) := by rfl
          simp only [if_true] at dg sl
          simp [fb__law_picture_1, x1, x2, y1, y2, b2, chkT, z2, q, dg, sl, Wu, Vu, Wo, Vo]
        | false =>
          rw [hf] at b x2 dg sl
          have b2 : ¬ bit false = "1" := of_decide_eq_false b
          have q : ixD (.nd (.lst true) [.v (.int (at0 wf i)), .v (.int (at0 wp j))]) (.v (.int 0)) = some (.v (.int (at0 wf i))) := by rfl
          simp only [Bool.false_eq_true, if_false] at dg sl
          simp [fb__law_picture_1, x1, x2, y1, y2, b2, chkT, z2, q, dg, sl, Wu, Vu, Wo, Vo])
    refine ⟨b, ?_⟩
    unfold fo__law_picture_1
    rw [for_rg (rg1_nat (n := w) (s' := [.nd (.lst false) (rowsD h w f), W, V', P, .v (.int i), .v (.str ""), u6]) (by simp [lenW, Wu, Wo]) (by omega)), e]
  obtain ⟨s', ef, a, b, c, rfl⟩ := for_range (g := gdN 4) (body := fb__law_picture_2) (n := h) (s := [.nd (.lst false) (rowsD h w f), W, V', .nd (.lst true) [], .un, .un, .un])
    (fun i s => ∃ a b c, s = [.nd (.lst false) (rowsD h w f), W, V', .nd (.lst true) (pic i w (faceF f wp wf)), a, b, c]) ⟨.un, .un, .un, rfl⟩ (by
      rintro i s hi ⟨a, b, c, rfl⟩
      obtain ⟨b', e1⟩ := inner i (.nd (.lst true) (pic i w (faceF f wp wf))) c hi
      have sl : (pic i w (faceF f wp wf)).length < sizeLine := by rw [sizeLine_eq]; simp; omega
      have ps : pic (i + 1) w (faceF f wp wf) = pic i w (faceF f wp wf) ++ [.v (.str (dRow w (faceF f wp wf i)))] := by
        show (List.range (i + 1)).map _ = _
        rw [List.range_succ, List.map_append]; rfl
      refine ⟨_, [.nd (.lst false) (rowsD h w f), W, V', .nd (.lst true) (pic (i + 1) w (faceF f wp wf)), .v (.int i), .v (.str (dRow w (faceF f wp wf i))), b'], rfl, .inl ?_, _, _, _, rfl⟩
      rw [ps]
      generalize hL : pic i w (faceF f wp wf) = PL at *
      simp [fb__law_picture_2, e1, dMeth, mAppend, sl])
  have efo : fo__law_picture_2 [.nd (.lst false) (rowsD h w f), W, V', .nd (.lst true) [], .un, .un, .un] = .nx [.nd (.lst false) (rowsD h w f), W, V', .nd (.lst true) (pic h w (faceF f wp wf)), a, b, c] := by
    unfold fo__law_picture_2
    rw [for_rg (rg1_nat (n := h) (s' := [.nd (.lst false) (rowsD h w f), W, V', .nd (.lst true) [], .un, .un, .un]) (by simp [lenR]) (by omega)), ef]
  generalize hL : pic h w (faceF f wp wf) = PL at *
  simp [D__law_picture, b__law_picture, chkT, efo]
end Wk21

namespace Wk21
open PySem PySem.Spec PyProof.Rows L2 VS
theorem at_rev {ws : List Int} {j : Nat} (h : j < ws.length) : at0 ws.reverse j = at0 ws (ws.length - 1 - j) := by
  unfold at0
  rw [List.getD_eq_getElem?_getD, List.getD_eq_getElem?_getD, List.getElem?_reverse h]
theorem fit_rev {ws : List Int} (h : fitB ws = true) : fitB ws.reverse = true := by
  unfold fitB at h ⊢
  rw [List.length_reverse, List.all_reverse]; exact h
theorem behind_eq {h w : Nat} {f : Nat → Nat → Bool} {wp wf : List Int} (hl : wp.length = w) : pic h w (faceF (tnF w f) wp.reverse wf) = pic h w (bkF w f wp wf) := by
  refine List.map_congr_left fun i _ => ?_
  have : dRow w (faceF (tnF w f) wp.reverse wf i) = dRow w (bkF w f wp wf i) := by
    refine str_ext ?_
    rw [dRow_cs, dRow_cs]
    refine List.map_congr_left fun j mj => ?_
    have hj := List.mem_range.mp mj
    have e := at_rev (ws := wp) (j := j) (by omega)
    have : faceF (tnF w f) wp.reverse wf i j = backF f wp wf i (w - 1 - j) := by
      unfold faceF backF
      rw [e, hl]
      cases hf : f i (w - 1 - j) <;> simp [tnF, hf]
    rw [this]
  rw [this]
theorem Hy.turn {k k' : NK} {h w : Nat} {wp wf : List Int} (y : Hy k k' h w wp wf) : Hy (.lst false) k' h w wp.reverse wf := ⟨.inr rfl, y.k2, fit_rev y.f1, y.f2, by rw [List.length_reverse]; exact y.l1, y.l2, y.d⟩
theorem ix_pic {o : Bool} {h w i j : Nat} {p : Nat → Nat → Int} (hw : w ≤ 1000) (hi : i < h) (hj : j < w) : ixD (.nd (.lst o) (pic h w p)) (.v (.int i)) = some (.v (.str (dRow w (p i)))) ∧ ixD (.v (.str (dRow w (p i)))) (.v (.int j)) = some (.v (.str (dig (p i j)))) := by
  constructor
  · rw [VS.ix_lst (by omega), Int.toNat_natCast, List.getElem?_map, List.getElem?_range hi]; rfl
  · rw [ix_s (by rw [dRow_len]; omega)]
    have e : atI (dRow w (p i)).cps.toList (j : Int) = some (48 + (p i j).toNat) := by
      unfold atI
      show (ixN (Str.cs (dRow w (p i))).length (j : Int)).bind _ = _
      rw [dRow_cs, List.length_map, List.length_range, ixN_pos (by omega) (by omega), Int.toNat_natCast]
      show (Str.cs (dRow w (p i)))[j]? = _
      rw [dRow_cs, List.getElem?_map, List.getElem?_range hj]; rfl
    rw [e]; rfl
theorem dig_inj {a b : Int} (ha : colB a = true) (hb : colB b = true) : (dig a = dig b) = (a = b) := by
  unfold colB at ha hb
  have ha : 0 ≤ a ∧ a ≤ 5 := by simpa using ha
  have hb : 0 ≤ b ∧ b ≤ 5 := by simpa using hb
  refine propext ⟨fun e => ?_, fun e => by rw [e]⟩
  have : Str.cs (dig a) = Str.cs (dig b) := by rw [e]
  have : [48 + a.toNat] = [48 + b.toNat] := this
  simp at this
  omega
end Wk21

namespace Wk21
open PySem PySem.Spec PyProof.Rows L2 VS
def dueL (h w : Nat) (f : Nat → Nat → Bool) (wp wf : List Int) : List D := [.nd .tup (pic h w (faceF f wp wf)), .nd .tup (pic h w (bkF w f wp wf)), .nd .tup (hid h w wp wf)]
theorem pic_has {q : NK → Bool} {h w : Nat} {p : Nat → Nat → Int} : D.hass q (pic h w p) = false := by
  have := has_strs q ((List.range h).map fun i => dRow w (p i))
  rwa [List.map_map] at this
theorem due {h w : Nat} {f : Nat → Nat → Bool} {wp wf : List Int} (y : Hy (.lst false) (.lst false) h w wp wf) :
    D__law_due [.nd (.lst false) (rowsD h w f), .nd (.lst false) (wp.map D.int), .nd (.lst false) (wf.map D.int)] = .ok (.nd (.lst true) (dueL h w f wp wf), []) := by
  have p1 := picture (f := f) y
  have tn := turned (f := f) y.d
  have p2 := picture (f := tnF w f) y.turn
  rw [behind_eq y.l1] at p2
  have w1 := y.d.w1
  have hh1 := y.d.h1
  have O := fun q => rowsHas (q := q) (h := h) (w := w) (f := f)
  have F := rowsFz (h := h) (w := w) (f := f)
  have O2 := fun q => rowsHas (q := q) (h := h) (w := w) (f := tnF w f)
  have F2 := rowsFz (h := h) (w := w) (f := tnF w f)
  have O1 := fun q => intsHas (q := q) wp
  have O3 := fun q => intsHas (q := q) wf
  have O4 := fun q => intsHas (q := q) wp.reverse
  have f1 := fz_ints' wp
  have f2 := fz_ints' wf
  have f3 := fz_ints' wp.reverse
  have rv : revA (.nd (.lst false) (wp.map D.int)) = some (.nd (.lst true) (wp.reverse.map D.int)) := by
    unfold revA
    simp only [revD, O1, if_true]
    rw [List.map_reverse]
  have lenW := len_intsL (o := false) (ws := wp)
  have lenV := len_intsL (o := false) (ws := wf)
  rw [y.l1] at lenW
  rw [y.l2] at lenV
  have z3 : 3 ≤ sizeLine := by rw [sizeLine_eq]; decide
  have z2 : 2 ≤ sizeLine := by rw [sizeLine_eq]; decide
  have hF := fun q => pic_has (q := q) (h := h) (w := w) (p := faceF f wp wf)
  have hB := fun q => pic_has (q := q) (h := h) (w := w) (p := bkF w f wp wf)
  have hH := hid_has (q := NK.isOwn) rfl w wp wf h
  have ixF : ∀ i j, i < h → j < w → ixD (.nd (.lst true) (pic h w (faceF f wp wf))) (.v (.int (i : Nat))) = some (.v (.str (dRow w (faceF f wp wf i)))) ∧ ixD (.v (.str (dRow w (faceF f wp wf i)))) (.v (.int (j : Nat))) = some (.v (.str (dig (faceF f wp wf i j)))) := fun i j hi hj => ix_pic (by omega) hi hj
  have ixB : ∀ i j, i < h → j < w → ixD (.nd (.lst true) (pic h w (bkF w f wp wf))) (.v (.int (i : Nat))) = some (.v (.str (dRow w (bkF w f wp wf i)))) ∧ ixD (.v (.str (dRow w (bkF w f wp wf i)))) (.v (.int (j : Nat))) = some (.v (.str (dig (bkF w f wp wf i j)))) := fun i j hi hj => ix_pic (by omega) hi hj
  generalize hR : D.nd (.lst false) (rowsD h w f) = R at *
  generalize hW : D.nd (.lst false) (wp.map D.int) = W at *
  generalize hV : D.nd (.lst false) (wf.map D.int) = V' at *
  have Ru : R.isUn = false := by rw [← hR]; rfl
  have Wu : W.isUn = false := by rw [← hW]; rfl
  have Vu : V'.isUn = false := by rw [← hV]; rfl
  have Ro : R.hasOwn = false := by rw [← hR]; simp [O]
  have Wo : W.hasOwn = false := by rw [← hW]; simp [O1]
  have Vo : V'.hasOwn = false := by rw [← hV]; simp [O3]
  have Rf : R.fz = R := by rw [← hR]; simp [F]
  have Wf : W.fz = W := by rw [← hW]; simp [f1]
  have Vf : V'.fz = V' := by rw [← hV]; simp [f2]
  have c1 : ∀ i (P : D), i < h → co__law_due_1 [R, W, V', .nd (.lst true) (pic h w (faceF f wp wf)), .nd (.lst true) (pic h w (bkF w f wp wf)), P, .v (.int i), .un] = .ok (.nd (.lst true) (hidR w wp wf i), [R, W, V', .nd (.lst true) (pic h w (faceF f wp wf)), .nd (.lst true) (pic h w (bkF w f wp wf)), P, .v (.int i), .un]) := fun i P hi => by
    unfold co__law_due_1
    refine lc_rangeF (F := fun j => prD i j) (p := fun j => decide (at0 wp j = at0 wf i)) (n := w) (s1 := [R, W, V', .nd (.lst true) (pic h w (faceF f wp wf)), .nd (.lst true) (pic h w (bkF w f wp wf)), P, .v (.int i), .un]) (rg1_nat (by simp [lenW, Wu, Wo]) (by omega)) (by omega) rfl fun j hj => ⟨[R, W, V', .nd (.lst true) (pic h w (faceF f wp wf)), .nd (.lst true) (pic h w (bkF w f wp wf)), P, .v (.int i), .v (.int j)], rfl, ?_⟩
    have hj := List.mem_range.mp hj
    obtain ⟨x1, x2⟩ := ixF i j hi hj
    obtain ⟨x3, x4⟩ := ixB i (w - 1 - j) hi (by omega)
    have ej : ((w - 1 - j : Nat) : Int) = (w : Int) - 1 - j := by omega
    rw [ej] at x4
    have hbk : bkF w f wp wf i (w - 1 - j) = backF f wp wf i j := by
      show backF f wp wf i (w - 1 - (w - 1 - j)) = _
      rw [show w - 1 - (w - 1 - j) = j by omega]
    rw [hbk] at x4
    have dj := dig_inj (face_col (f := f) y hi hj).1 (face_col (f := f) y hi hj).2
    have fb : (faceF f wp wf i j = backF f wp wf i j) = (at0 wp j = at0 wf i) := by
      unfold faceF backF
      cases f i j
      · simp only [Bool.false_eq_true, if_false]; exact propext ⟨Eq.symm, Eq.symm⟩
      · rfl
    rw [fb] at dj
    generalize dig (faceF f wp wf i j) = d1 at *
    generalize dig (backF f wp wf i j) = d2 at *
    generalize dRow w (faceF f wp wf i) = r1 at *
    generalize dRow w (bkF w f wp wf i) = r2 at *
    generalize pic h w (faceF f wp wf) = PF at *
    generalize pic h w (bkF w f wp wf) = PB at *
    by_cases e : at0 wp j = at0 wf i
    · refine .inl ⟨decide_eq_true e, [R, W, V', .nd (.lst true) PF, .nd (.lst true) PB, P, .v (.int i), .v (.int j)], [R, W, V', .nd (.lst true) PF, .nd (.lst true) PB, P, .v (.int i), .v (.int j)], ?_, ?_, rfl, rfl⟩
      · simp [Wu, Vu, Wo, x1, x2, x3, x4, lenW, dj, e]
      · simp [ce__law_due_1, chkT, z2]
    · refine .inr ⟨decide_eq_false e, [R, W, V', .nd (.lst true) PF, .nd (.lst true) PB, P, .v (.int i), .v (.int j)], ?_, rfl⟩
      simp [Wu, Vu, Wo, x1, x2, x3, x4, lenW, dj, e]
  have hp : ∀ (PF PB : D) (i : Nat), i < h → True := fun _ _ _ _ => trivial
  generalize hPF : D.nd (.lst true) (pic h w (faceF f wp wf)) = PF at *
  generalize hPB : D.nd (.lst true) (pic h w (bkF w f wp wf)) = PB at *
  have PFu : PF.isUn = false := by rw [← hPF]; rfl
  have PBu : PB.isUn = false := by rw [← hPB]; rfl
  obtain ⟨s', ef, a, rfl⟩ := for_range (g := gdN 6) (body := fb__law_due_1) (n := h) (s := [R, W, V', PF, PB, .nd (.lst true) [], .un, .un])
    (fun i s => ∃ a, s = [R, W, V', PF, PB, .nd (.lst true) (hid i w wp wf), a, .un]) ⟨.un, rfl⟩ (by
      rintro i s hi ⟨a, rfl⟩
      have e1 := c1 i (.nd (.lst true) (hid i w wp wf)) hi
      have sl : (hid i w wp wf).length + (hidR w wp wf i).length ≤ sizeLine := by
        have a1 := hid_len w wp wf i
        have a2 := hidR_len w wp wf i
        have a3 : i * w ≤ 60 * 60 := Nat.mul_le_mul (by omega) w1
        rw [sizeLine_eq]; omega
      have ho : D.hass NK.isOwn (hidR w wp wf i) = false := pairs_has rfl i _
      refine ⟨_, [R, W, V', PF, PB, .nd (.lst true) (hid (i + 1) w wp wf), .v (.int i), .un], rfl, .inl ?_, _, rfl⟩
      rw [hid_succ]
      generalize hid i w wp wf = PL at *
      generalize hidR w wp wf i = QL at *
      simp [fb__law_due_1, e1, dMeth, mExtend, sl, ho])
  have efo : fo__law_due_1 [R, W, V', PF, PB, .nd (.lst true) [], .un, .un] = .nx [R, W, V', PF, PB, .nd (.lst true) (hid h w wp wf), a, .un] := by
    unfold fo__law_due_1
    rw [for_rg (rg1_nat (n := h) (s' := [R, W, V', PF, PB, .nd (.lst true) [], .un, .un]) (by simp [lenV, Vu, Vo]) (by omega)), ef]
  have tF : tupD PF = some (.nd .tup (pic h w (faceF f wp wf))) := by rw [← hPF]; simp [tupD, hF]
  have tB : tupD PB = some (.nd .tup (pic h w (bkF w f wp wf))) := by rw [← hPB]; simp [tupD, hB]
  have tH : tupD (.nd (.lst true) (hid h w wp wf)) = some (.nd .tup (hid h w wp wf)) := by simp [tupD, hH]
  unfold dueL
  generalize pic h w (faceF f wp wf) = L1 at *
  generalize pic h w (bkF w f wp wf) = L2 at *
  generalize hid h w wp wf = L3 at *
  simp [D__law_due, b__law_due, Rf, Wf, Vf, Ru, Wu, Vu, Ro, Wo, Vo, p1, tn, rv, p2, O2, F2, O4, f3, efo, PFu, PBu, tF, tB, tH, hF, hB, hH, chkT, z3, -List.map_reverse]
end Wk21

namespace Wk21
open PySem PySem.Spec PyProof.Rows L2 VS
theorem nn {b : Bool} : isNoneD b (.v .non) (.v .non) = some (!b) := by cases b <;> rfl
theorem ns {b : Bool} {z : Str} : isNoneD b (.v (.str z)) (.v .non) = some b := by cases b <;> rfl
section
variable {C : Addr}
theorem is_tb {xs : List D} : isiD (isaT C) [C] [.nd .tup xs, .v (.ty "bool")] = some (.v (.bl false)) := isi_b rfl (by decide +kernel)
theorem is_ti {xs : List D} : isiD (isaT C) [C] [.nd .tup xs, .v (.ty "int")] = some (.v (.bl false)) := isi_b rfl (by decide +kernel)
theorem is_ts {xs : List D} : isiD (isaT C) [C] [.nd .tup xs, .v (.ty "str")] = some (.v (.bl false)) := isi_b rfl (by decide +kernel)
theorem is_sb {z : Str} : isiD (isaT C) [C] [.v (.str z), .v (.ty "bool")] = some (.v (.bl false)) := isi_b rfl (by decide +kernel)
theorem is_si {z : Str} : isiD (isaT C) [C] [.v (.str z), .v (.ty "int")] = some (.v (.bl false)) := isi_b rfl (by decide +kernel)
theorem nt {b : Bool} {xs : List D} : isNoneD b (.nd .tup xs) (.v .non) = some b := by cases b <;> rfl
theorem ni {b : Bool} {i : Int} : isNoneD b (.v (.int i)) (.v .non) = some b := by cases b <;> rfl
theorem same_int {k : Nat} {i : Int} : D__law_same C (k + 1) [.v (.int i), .v (.int i)] = .ok (.v (.bl true), []) := by
  rw [D__law_same]
  simp [b__law_same, if__law_same_1, if__law_same_2, if__law_same_3, ni, isi_int, isi_intb]
theorem same_non {k : Nat} : D__law_same C (k + 1) [.v .non, .v .non] = .ok (.v (.bl true), []) := by
  rw [D__law_same]
  simp [b__law_same, if__law_same_1, nn]
theorem same_str {k : Nat} {z : Str} : D__law_same C (k + 1) [.v (.str z), .v (.str z)] = .ok (.v (.bl true), []) := by
  rw [D__law_same]
  simp [b__law_same, if__law_same_1, if__law_same_2, if__law_same_3, if__law_same_4, ns, isi_str, is_sb, is_si]
theorem same_tup {k : Nat} {xs : List D} (hl : xs.length ≤ 1000000) (hO : D.hass NK.isOwn xs = false) (hx : ∀ x ∈ xs, x.fz = x ∧ x.isUn = false ∧ x.hasOwn = false ∧ D__law_same C k [x, x] = .ok (.v (.bl true), [])) :
    D__law_same C (k + 1) [.nd .tup xs, .nd .tup xs] = .ok (.v (.bl true), []) := by
  have hlen : lenD (.nd .tup xs) = some (.v (.int xs.length)) := by simp [lenD]
  rw [D__law_same]
  obtain ⟨s', e, y, rfl⟩ := for_range (g := gdN 2) (body := fb__law_same_1 C (D__law_same C k)) (n := xs.length) (s := [.nd .tup xs, .nd .tup xs, .un])
    (fun i s => ∃ y, s = [.nd .tup xs, .nd .tup xs, y]) ⟨.un, rfl⟩ (by
      rintro i s hi ⟨y, rfl⟩
      refine ⟨_, [.nd .tup xs, .nd .tup xs, .v (.int i)], rfl, .inl ?_, _, rfl⟩
      have ix : ixD (.nd .tup xs) (.v (.int i)) = some xs[i] := by rw [VS.ix_tup (by omega), Int.toNat_natCast, List.getElem?_eq_getElem hi]
      obtain ⟨h1, h2, h3, h4⟩ := hx _ (List.getElem_mem hi)
      generalize xs[i] = x at *
      simp [fb__law_same_1, if__law_same_6, ix, h1, h2, h3, h4, hO])
  have ef : fo__law_same_1 C (D__law_same C k) [.nd .tup xs, .nd .tup xs, .un] = .nx [.nd .tup xs, .nd .tup xs, y] := by
    unfold fo__law_same_1
    rw [for_rg (rg1_nat (n := xs.length) (s' := [.nd .tup xs, .nd .tup xs, .un]) (by simp [hlen]) (by omega)), e]
  simp [b__law_same, if__law_same_1, if__law_same_2, if__law_same_3, if__law_same_4, if__law_same_5, nt, is_tb, is_ti, is_ts, isi_tup, hlen, ef]
end
theorem same_pic {C : Addr} {h w : Nat} {p : Nat → Nat → Int} (h1 : h ≤ 1000) : D__law_same C 3 [.nd .tup (pic h w p), .nd .tup (pic h w p)] = .ok (.v (.bl true), []) := by
  refine same_tup (by simp; omega) pic_has fun x m => ?_
  obtain ⟨i, _, rfl⟩ := List.mem_map.mp m
  exact ⟨rfl, rfl, rfl, same_str⟩
theorem hid_mem {h w : Nat} {wp wf : List Int} {x : D} (m : x ∈ hid h w wp wf) : ∃ i j, x = prD i j := by
  unfold hid at m
  rw [List.mem_flatten] at m
  obtain ⟨l, ml, mx⟩ := m
  obtain ⟨i, _, rfl⟩ := List.mem_map.mp ml
  obtain ⟨j, _, rfl⟩ := List.mem_map.mp mx
  exact ⟨i, j, rfl⟩
theorem same_hid {C : Addr} {h w : Nat} {wp wf : List Int} (hl : (hid h w wp wf).length ≤ 1000000) : D__law_same C 3 [.nd .tup (hid h w wp wf), .nd .tup (hid h w wp wf)] = .ok (.v (.bl true), []) := by
  refine same_tup hl (hid_has rfl _ _ _ _) fun x m => ?_
  obtain ⟨i, j, rfl⟩ := hid_mem m
  refine ⟨rfl, rfl, rfl, same_tup (by simp) rfl fun y my => ?_⟩
  rcases List.mem_cons.mp my with rfl | my
  · exact ⟨rfl, rfl, rfl, same_int⟩
  · rw [List.mem_singleton.mp my]; exact ⟨rfl, rfl, rfl, same_int⟩
end Wk21

namespace Wk21
open PySem PySem.Spec PyProof.Rows L2 VS
abbrev NeA (a : Ad) : Prop := Ne a.C_Cloth a.C_MillError a.C_BadColours a.C_TooLarge a.C_Mismatch
abbrev IX (a : Ad) : Isa := isxT a.C_BadColours a.C_TooLarge a.C_Mismatch
section
variable {a : Ad}
theorem xb1 (o : NeA a) : isxB (IX a) a.C_BadColours (.v (.ty "ValueError")) = some true := by simp [isxB, V.tk, isaD, isxT, o.ne_MillError_BadColours, o.ne_MillError_TooLarge, o.ne_MillError_Mismatch, o.ne_BadColours_MillError, o.ne_BadColours_TooLarge, o.ne_BadColours_Mismatch, o.ne_TooLarge_MillError, o.ne_TooLarge_BadColours, o.ne_TooLarge_Mismatch, o.ne_Mismatch_MillError, o.ne_Mismatch_BadColours, o.ne_Mismatch_TooLarge]
theorem xb2 (o : NeA a) : isxB (IX a) a.C_BadColours (.nd .tup [.v (.ref a.C_Mismatch), .v (.ref a.C_TooLarge)]) = some false := by simp [isxB, V.tk, D.tks, isaAny, isaD, isxT, o.ne_MillError_BadColours, o.ne_MillError_TooLarge, o.ne_MillError_Mismatch, o.ne_BadColours_MillError, o.ne_BadColours_TooLarge, o.ne_BadColours_Mismatch, o.ne_TooLarge_MillError, o.ne_TooLarge_BadColours, o.ne_TooLarge_Mismatch, o.ne_Mismatch_MillError, o.ne_Mismatch_BadColours, o.ne_Mismatch_TooLarge]
theorem xm1 (o : NeA a) : isxB (IX a) a.C_Mismatch (.v (.ty "ValueError")) = some true := by simp [isxB, V.tk, isaD, isxT, o.ne_MillError_BadColours, o.ne_MillError_TooLarge, o.ne_MillError_Mismatch, o.ne_BadColours_MillError, o.ne_BadColours_TooLarge, o.ne_BadColours_Mismatch, o.ne_TooLarge_MillError, o.ne_TooLarge_BadColours, o.ne_TooLarge_Mismatch, o.ne_Mismatch_MillError, o.ne_Mismatch_BadColours, o.ne_Mismatch_TooLarge]
theorem xm2 (o : NeA a) : isxB (IX a) a.C_Mismatch (.v (.ref a.C_TooLarge)) = some false := by simp [isxB, V.tk, isaD, isxT, o.ne_MillError_BadColours, o.ne_MillError_TooLarge, o.ne_MillError_Mismatch, o.ne_BadColours_MillError, o.ne_BadColours_TooLarge, o.ne_BadColours_Mismatch, o.ne_TooLarge_MillError, o.ne_TooLarge_BadColours, o.ne_TooLarge_Mismatch, o.ne_Mismatch_MillError, o.ne_Mismatch_BadColours, o.ne_Mismatch_TooLarge]
theorem eb (o : NeA a) : exLook (exT a.C_MillError a.C_BadColours a.C_Mismatch) a.C_BadColours a.C_BadColours = some true := by simp [exLook, exT, o.ne_MillError_BadColours, o.ne_MillError_TooLarge, o.ne_MillError_Mismatch, o.ne_BadColours_MillError, o.ne_BadColours_TooLarge, o.ne_BadColours_Mismatch, o.ne_TooLarge_MillError, o.ne_TooLarge_BadColours, o.ne_TooLarge_Mismatch, o.ne_Mismatch_MillError, o.ne_Mismatch_BadColours, o.ne_Mismatch_TooLarge]
theorem em1 (o : NeA a) : exLook (exT a.C_MillError a.C_BadColours a.C_Mismatch) a.C_Mismatch a.C_BadColours = some false := by simp [exLook, exT, o.ne_MillError_BadColours, o.ne_MillError_TooLarge, o.ne_MillError_Mismatch, o.ne_BadColours_MillError, o.ne_BadColours_TooLarge, o.ne_BadColours_Mismatch, o.ne_TooLarge_MillError, o.ne_TooLarge_BadColours, o.ne_TooLarge_Mismatch, o.ne_Mismatch_MillError, o.ne_Mismatch_BadColours, o.ne_Mismatch_TooLarge]
theorem em2 (o : NeA a) : exLook (exT a.C_MillError a.C_BadColours a.C_Mismatch) a.C_Mismatch a.C_Mismatch = some true := by simp [exLook, exT, o.ne_MillError_BadColours, o.ne_MillError_TooLarge, o.ne_MillError_Mismatch, o.ne_BadColours_MillError, o.ne_BadColours_TooLarge, o.ne_BadColours_Mismatch, o.ne_TooLarge_MillError, o.ne_TooLarge_BadColours, o.ne_TooLarge_Mismatch, o.ne_Mismatch_MillError, o.ne_Mismatch_BadColours, o.ne_Mismatch_TooLarge]
end
end Wk21

namespace Wk21
open PySem PySem.Spec PyProof.Rows L2 VS
structure Arg (x : D) : Prop where
  f : x.fz = x
  u : x.isUn = false
  o : x.hasOwn = false
section
variable {a : Ad}
theorem face_ok {cl W V' R : D} (p : Arg cl) (q : Arg W) (r : Arg V') (hr : R.hasOwn = false) (hu : R.isUn = false) (h : D_face a.C_Cloth a.C_BadColours a.C_Mismatch [cl, W, V'] = .ok (R, [])) : D__law_asked_face a.C_Cloth a.C_MillError a.C_BadColours a.C_TooLarge a.C_Mismatch [cl, W, V'] = .ok (.nd (.lst true) [.v (.str ""), R], []) := by
  obtain ⟨p1, p2, p3⟩ := p
  obtain ⟨q1, q2, q3⟩ := q
  obtain ⟨r1, r2, r3⟩ := r
  have z2 : 2 ≤ sizeLine := by rw [sizeLine_eq]; decide
  simp [D__law_asked_face, b__law_asked_face, tr__law_asked_face_1, sTry, tb__law_asked_face_1, h, p1, p2, p3, q1, q2, q3, r1, r2, r3, hr, hu, chkT, z2]
theorem face_bc {cl W V' : D} (o : NeA a) (p : Arg cl) (q : Arg W) (r : Arg V') (h : D_face a.C_Cloth a.C_BadColours a.C_Mismatch [cl, W, V'] = .ex (.ref a.C_BadColours) none []) : D__law_asked_face a.C_Cloth a.C_MillError a.C_BadColours a.C_TooLarge a.C_Mismatch [cl, W, V'] = .ok (.nd (.lst true) [.v (.str "BadColours"), .v .non], []) := by
  obtain ⟨p1, p2, p3⟩ := p
  obtain ⟨q1, q2, q3⟩ := q
  obtain ⟨r1, r2, r3⟩ := r
  have z2 : 2 ≤ sizeLine := by rw [sizeLine_eq]; decide
  have e1 := eb o
  have x1 := xb1 o
  have x2 := xb2 o
  simp [D__law_asked_face, b__law_asked_face, tr__law_asked_face_1, sTry, tb__law_asked_face_1, h, p1, p2, p3, q1, q2, q3, r1, r2, r3, chkT, z2, runHs, runH1, e1, hn__law_asked_face_3, isx_self, x1, x2, unO, wipeD, ix_two0, ix_two1]
theorem face_mm {cl W V' : D} (o : NeA a) (p : Arg cl) (q : Arg W) (r : Arg V') (h : D_face a.C_Cloth a.C_BadColours a.C_Mismatch [cl, W, V'] = .ex (.ref a.C_Mismatch) none []) : D__law_asked_face a.C_Cloth a.C_MillError a.C_BadColours a.C_TooLarge a.C_Mismatch [cl, W, V'] = .ok (.nd (.lst true) [.v (.str "Mismatch"), .v .non], []) := by
  obtain ⟨p1, p2, p3⟩ := p
  obtain ⟨q1, q2, q3⟩ := q
  obtain ⟨r1, r2, r3⟩ := r
  have z2 : 2 ≤ sizeLine := by rw [sizeLine_eq]; decide
  have e1 := em1 o
  have e2 := em2 o
  have x1 := xm1 o
  have x2 := xm2 o
  simp [D__law_asked_face, b__law_asked_face, tr__law_asked_face_1, sTry, tb__law_asked_face_1, h, p1, p2, p3, q1, q2, q3, r1, r2, r3, chkT, z2, runHs, runH1, e1, e2, hn__law_asked_face_2, isx_self, x1, x2, unO, wipeD, ix_two0, ix_two1]
theorem back_ok {cl W V' R : D} (p : Arg cl) (q : Arg W) (r : Arg V') (hr : R.hasOwn = false) (hu : R.isUn = false) (h : D_back a.C_Cloth a.C_BadColours a.C_Mismatch [cl, W, V'] = .ok (R, [])) : D__law_asked_back a.C_Cloth a.C_MillError a.C_BadColours a.C_TooLarge a.C_Mismatch [cl, W, V'] = .ok (.nd (.lst true) [.v (.str ""), R], []) := by
  obtain ⟨p1, p2, p3⟩ := p
  obtain ⟨q1, q2, q3⟩ := q
  obtain ⟨r1, r2, r3⟩ := r
  have z2 : 2 ≤ sizeLine := by rw [sizeLine_eq]; decide
  simp [D__law_asked_back, b__law_asked_back, tr__law_asked_back_1, sTry, tb__law_asked_back_1, h, p1, p2, p3, q1, q2, q3, r1, r2, r3, hr, hu, chkT, z2]
theorem back_bc {cl W V' : D} (o : NeA a) (p : Arg cl) (q : Arg W) (r : Arg V') (h : D_back a.C_Cloth a.C_BadColours a.C_Mismatch [cl, W, V'] = .ex (.ref a.C_BadColours) none []) : D__law_asked_back a.C_Cloth a.C_MillError a.C_BadColours a.C_TooLarge a.C_Mismatch [cl, W, V'] = .ok (.nd (.lst true) [.v (.str "BadColours"), .v .non], []) := by
  obtain ⟨p1, p2, p3⟩ := p
  obtain ⟨q1, q2, q3⟩ := q
  obtain ⟨r1, r2, r3⟩ := r
  have z2 : 2 ≤ sizeLine := by rw [sizeLine_eq]; decide
  have e1 := eb o
  have x1 := xb1 o
  have x2 := xb2 o
  simp [D__law_asked_back, b__law_asked_back, tr__law_asked_back_1, sTry, tb__law_asked_back_1, h, p1, p2, p3, q1, q2, q3, r1, r2, r3, chkT, z2, runHs, runH1, e1, hn__law_asked_back_3, isx_self, x1, x2, unO, wipeD, ix_two0, ix_two1]
theorem back_mm {cl W V' : D} (o : NeA a) (p : Arg cl) (q : Arg W) (r : Arg V') (h : D_back a.C_Cloth a.C_BadColours a.C_Mismatch [cl, W, V'] = .ex (.ref a.C_Mismatch) none []) : D__law_asked_back a.C_Cloth a.C_MillError a.C_BadColours a.C_TooLarge a.C_Mismatch [cl, W, V'] = .ok (.nd (.lst true) [.v (.str "Mismatch"), .v .non], []) := by
  obtain ⟨p1, p2, p3⟩ := p
  obtain ⟨q1, q2, q3⟩ := q
  obtain ⟨r1, r2, r3⟩ := r
  have z2 : 2 ≤ sizeLine := by rw [sizeLine_eq]; decide
  have e1 := em1 o
  have e2 := em2 o
  have x1 := xm1 o
  have x2 := xm2 o
  simp [D__law_asked_back, b__law_asked_back, tr__law_asked_back_1, sTry, tb__law_asked_back_1, h, p1, p2, p3, q1, q2, q3, r1, r2, r3, chkT, z2, runHs, runH1, e1, e2, hn__law_asked_back_2, isx_self, x1, x2, unO, wipeD, ix_two0, ix_two1]
theorem hidden_ok {cl W V' R : D} (p : Arg cl) (q : Arg W) (r : Arg V') (hr : R.hasOwn = false) (hu : R.isUn = false) (h : D_hidden a.C_Cloth a.C_BadColours a.C_Mismatch [cl, W, V'] = .ok (R, [])) : D__law_asked_hidden a.C_Cloth a.C_MillError a.C_BadColours a.C_TooLarge a.C_Mismatch [cl, W, V'] = .ok (.nd (.lst true) [.v (.str ""), R], []) := by
  obtain ⟨p1, p2, p3⟩ := p
  obtain ⟨q1, q2, q3⟩ := q
  obtain ⟨r1, r2, r3⟩ := r
  have z2 : 2 ≤ sizeLine := by rw [sizeLine_eq]; decide
  simp [D__law_asked_hidden, b__law_asked_hidden, tr__law_asked_hidden_1, sTry, tb__law_asked_hidden_1, h, p1, p2, p3, q1, q2, q3, r1, r2, r3, hr, hu, chkT, z2]
theorem hidden_bc {cl W V' : D} (o : NeA a) (p : Arg cl) (q : Arg W) (r : Arg V') (h : D_hidden a.C_Cloth a.C_BadColours a.C_Mismatch [cl, W, V'] = .ex (.ref a.C_BadColours) none []) : D__law_asked_hidden a.C_Cloth a.C_MillError a.C_BadColours a.C_TooLarge a.C_Mismatch [cl, W, V'] = .ok (.nd (.lst true) [.v (.str "BadColours"), .v .non], []) := by
  obtain ⟨p1, p2, p3⟩ := p
  obtain ⟨q1, q2, q3⟩ := q
  obtain ⟨r1, r2, r3⟩ := r
  have z2 : 2 ≤ sizeLine := by rw [sizeLine_eq]; decide
  have e1 := eb o
  have x1 := xb1 o
  have x2 := xb2 o
  simp [D__law_asked_hidden, b__law_asked_hidden, tr__law_asked_hidden_1, sTry, tb__law_asked_hidden_1, h, p1, p2, p3, q1, q2, q3, r1, r2, r3, chkT, z2, runHs, runH1, e1, hn__law_asked_hidden_3, isx_self, x1, x2, unO, wipeD, ix_two0, ix_two1]
theorem hidden_mm {cl W V' : D} (o : NeA a) (p : Arg cl) (q : Arg W) (r : Arg V') (h : D_hidden a.C_Cloth a.C_BadColours a.C_Mismatch [cl, W, V'] = .ex (.ref a.C_Mismatch) none []) : D__law_asked_hidden a.C_Cloth a.C_MillError a.C_BadColours a.C_TooLarge a.C_Mismatch [cl, W, V'] = .ok (.nd (.lst true) [.v (.str "Mismatch"), .v .non], []) := by
  obtain ⟨p1, p2, p3⟩ := p
  obtain ⟨q1, q2, q3⟩ := q
  obtain ⟨r1, r2, r3⟩ := r
  have z2 : 2 ≤ sizeLine := by rw [sizeLine_eq]; decide
  have e1 := em1 o
  have e2 := em2 o
  have x1 := xm1 o
  have x2 := xm2 o
  simp [D__law_asked_hidden, b__law_asked_hidden, tr__law_asked_hidden_1, sTry, tb__law_asked_hidden_1, h, p1, p2, p3, q1, q2, q3, r1, r2, r3, chkT, z2, runHs, runH1, e1, e2, hn__law_asked_hidden_2, isx_self, x1, x2, unO, wipeD, ix_two0, ix_two1]
end
end Wk21

namespace Wk21
open PySem PySem.Spec PyProof.Rows L2 VS
theorem check_bc {C B M : Addr} {k k' : NK} {h w : Nat} {f : Nat → Nat → Bool} {wp wf : List Int} (hk : k = .tup ∨ k = .lst false) (hk' : k' = .tup ∨ k' = .lst false) (h1 : fitB wp = false ∨ fitB wf = false) :
    D_check_colours C B M [clothD C h w f, .nd k (wp.map D.int), .nd k' (wf.map D.int)] = .ex (.ref B) none [] := by
  have c1 := colours_fit (C := C) (ws := wp) hk
  have c2 := colours_fit (C := C) (ws := wf) hk'
  have k1 : k.fz = k := by rcases hk with rfl | rfl <;> rfl
  have k2 : k'.fz = k' := by rcases hk' with rfl | rfl <;> rfl
  have k3 : k.isOwn = false := by rcases hk with rfl | rfl <;> rfl
  have k4 : k'.isOwn = false := by rcases hk' with rfl | rfl <;> rfl
  have f1 := fz_ints' wp
  have f2 := fz_ints' wf
  have O1 := fun q => intsHas (q := q) wp
  have O2 := fun q => intsHas (q := q) wf
  cases hb : fitB wp with
  | false =>
    rw [hb] at c1
    simp [D_check_colours, b_check_colours, if_check_colours_1, fnD, sRaise, c1, k1, k2, k3, k4, f1, f2, O1, O2]
  | true =>
    have h2 : fitB wf = false := by rcases h1 with q | q; rw [hb] at q; cases q; exact q
    rw [hb] at c1; rw [h2] at c2
    simp [D_check_colours, b_check_colours, if_check_colours_1, fnD, sRaise, c1, c2, k1, k2, k3, k4, f1, f2, O1, O2]
theorem check_mm {C B M : Addr} {k k' : NK} {h w : Nat} {f : Nat → Nat → Bool} {wp wf : List Int} (hk : k = .tup ∨ k = .lst false) (hk' : k' = .tup ∨ k' = .lst false) (h1 : fitB wp = true) (h2 : fitB wf = true) (h3 : wp.length ≠ w ∨ wf.length ≠ h) :
    D_check_colours C B M [clothD C h w f, .nd k (wp.map D.int), .nd k' (wf.map D.int)] = .ex (.ref M) none [] := by
  have c1 := colours_fit (C := C) (ws := wp) hk
  have c2 := colours_fit (C := C) (ws := wf) hk'
  have l1 : lenD (.nd k (wp.map D.int)) = some (.v (.int wp.length)) := by rcases hk with rfl | rfl; exact len_intsT; exact len_intsL
  have l2 : lenD (.nd k' (wf.map D.int)) = some (.v (.int wf.length)) := by rcases hk' with rfl | rfl; exact len_intsT; exact len_intsL
  have k1 : k.fz = k := by rcases hk with rfl | rfl <;> rfl
  have k2 : k'.fz = k' := by rcases hk' with rfl | rfl <;> rfl
  have k3 : k.isOwn = false := by rcases hk with rfl | rfl <;> rfl
  have k4 : k'.isOwn = false := by rcases hk' with rfl | rfl <;> rfl
  have f1 := fz_ints' wp
  have f2 := fz_ints' wf
  have O1 := fun q => intsHas (q := q) wp
  have O2 := fun q => intsHas (q := q) wf
  rw [h1] at c1; rw [h2] at c2
  by_cases e1 : wp.length = w
  · have e1i : (wp.length : Int) = w := by omega
    have e2i : ¬ (wf.length : Int) = h := by omega
    simp [D_check_colours, b_check_colours, if_check_colours_1, if_check_colours_2, fnD, sRaise, c1, c2, l1, l2, k1, k2, k3, k4, f1, f2, O1, O2, dFld, fldD, D.inst, fIx, e1i, e2i]
  · have e1i : ¬ (wp.length : Int) = w := by omega
    simp [D_check_colours, b_check_colours, if_check_colours_1, if_check_colours_2, fnD, sRaise, c1, c2, l1, l2, k1, k2, k3, k4, f1, f2, O1, O2, dFld, fldD, D.inst, fIx, e1i]
theorem arg_cloth {C : Addr} {h w : Nat} {f : Nat → Nat → Bool} : Arg (clothD C h w f) := ⟨by simp [rowsFz], rfl, by simp [rowsHas]⟩
theorem arg_ints {k : NK} {ws : List Int} (hk : k = .tup ∨ k = .lst false) : Arg (.nd k (ws.map D.int)) := by
  rcases hk with rfl | rfl <;> exact ⟨by simp [fz_ints'], rfl, by simp [intsHas]⟩
section
variable {C B M c : Addr} {cl W V' : D}
theorem face_ex (p : Arg cl) (q : Arg W) (r : Arg V') (h : D_check_colours C B M [cl, W, V'] = .ex (.ref c) none []) : D_face C B M [cl, W, V'] = .ex (.ref c) none [] := by
  obtain ⟨p1, p2, p3⟩ := p
  obtain ⟨q1, q2, q3⟩ := q
  obtain ⟨r1, r2, r3⟩ := r
  simp [D_face, b_face, fnD, h, p1, p2, p3, q1, q2, q3, r1, r2, r3]
theorem back_ex (p : Arg cl) (q : Arg W) (r : Arg V') (h : D_check_colours C B M [cl, W, V'] = .ex (.ref c) none []) : D_back C B M [cl, W, V'] = .ex (.ref c) none [] := by
  obtain ⟨p1, p2, p3⟩ := p
  obtain ⟨q1, q2, q3⟩ := q
  obtain ⟨r1, r2, r3⟩ := r
  simp [D_back, b_back, fnD, h, p1, p2, p3, q1, q2, q3, r1, r2, r3]
theorem hidden_ex (p : Arg cl) (q : Arg W) (r : Arg V') (h : D_check_colours C B M [cl, W, V'] = .ex (.ref c) none []) : D_hidden C B M [cl, W, V'] = .ex (.ref c) none [] := by
  obtain ⟨p1, p2, p3⟩ := p
  obtain ⟨q1, q2, q3⟩ := q
  obtain ⟨r1, r2, r3⟩ := r
  simp [D_hidden, b_hidden, fnD, h, p1, p2, p3, q1, q2, q3, r1, r2, r3]
end
end Wk21

namespace Wk21
open PySem PySem.Spec PyProof.Rows L2 VS
theorem other (b : Bool) : D_other [.v (.str (bit b))] = .ok (.v (.str (bit (!b))), []) := by
  cases b with
  | false =>
    have e2 : (bit false = "0") = True := by rw [s0]; simp
    simp [D_other, b_other, if_other_1, e2, s1]
  | true =>
    have e2 : (bit true = "0") = False := by rw [s0]; decide
    have e3 : Str.ofString "0" = bit false := s0
    simp [D_other, b_other, if_other_1, e2]
    exact e3
theorem turned_over {C : Addr} {h w : Nat} {f : Nat → Nat → Bool} (d : Dim h w) : D_turned_over C [clothD C h w f] = .ok (clothD C h w (tnF w f), []) := by
  obtain ⟨h0, h1, w0, w1⟩ := id d
  have c1 : ∀ i u, co_turned_over_1 C [clothD C h w f, .v (.str (mkRow w (f i))), u] = .ok (.nd (.lst true) ((List.range w).map fun j => D.str (bit (tnF w f i j))), [clothD C h w f, .v (.str (mkRow w (f i))), .un]) := fun i u => by
    have rv := rev_row (w := w) (g := f i) (by omega)
    have it := row_items (w := w) (g := fun j => f i (w - 1 - j))
    unfold co_turned_over_1
    refine lc_it (l := List.range w) (enc := fun j => D.str (bit (f i (w - 1 - j)))) (F := fun j => D.str (bit (tnF w f i j))) (x := .v (.str (mkRow w fun j => f i (w - 1 - j)))) (s1 := [clothD C h w f, .v (.str (mkRow w (f i))), u]) (by simp [dIt, rv, it]) (by rfl) bits_has (by simp; omega) rfl fun j mj => ⟨[clothD C h w f, .v (.str (mkRow w (f i))), .v (.str (bit (f i (w - 1 - j))))], [clothD C h w f, .v (.str (mkRow w (f i))), .v (.str (bit (f i (w - 1 - j))))], rfl, rfl, ?_, rfl, rfl⟩
    have := other (f i (w - 1 - j))
    simp [ce_turned_over_1, this]
  have O := rowsHas (q := NK.isOwn) (h := h) (w := w) (f := f)
  have c2 : co_turned_over_2 C [clothD C h w f, .un, .un] = .ok (.nd (.lst true) (rowsD h w (tnF w f)), [clothD C h w f, .un, .un]) := by
    unfold co_turned_over_2
    rw [rowsD_map h w (tnF w f)]
    refine lc_it (l := List.range h) (enc := fun i => D.str (mkRow w (f i))) (F := fun i => D.str (mkRow w (tnF w f i))) (x := .nd .tup (rowsD h w f)) (s1 := [clothD C h w f, .un, .un]) (by simp [dIt, D.items, dFld, fldD, D.inst, fIx, rowsD_map h w f]) (by simp [O]) (by rw [← rowsD_map]; exact O) (by simp; omega) rfl fun i mi => ⟨[clothD C h w f, .v (.str (mkRow w (f i))), .un], [clothD C h w f, .v (.str (mkRow w (f i))), .un], rfl, rfl, ?_, rfl, rfl⟩
    have e1 := c1 i .un
    have j1 := join_range (o := true) (n := w) (f := tnF w f i) (by omega)
    simp [ce_turned_over_2, e1, D.isStr, j1]
  have mk := makeO (C := C) (m := .tmp) (f := tnF w f) d c2
  simp [D_turned_over, b_turned_over, mk]
end Wk21

namespace Wk21
open PySem PySem.Spec PyProof.Rows L2 VS
/-- a list, or a tuple of the same -/
def lt (b : Bool) (ws : List Int) : D := if b = true then .nd .tup (ws.map D.int) else .nd (.lst true) (ws.map D.int)
theorem handed {wp wf : List Int} (t : Int) : ∃ b c, D__law_handed [.nd (.lst false) (wp.map D.int), .nd (.lst false) (wf.map D.int), .v (.int t)] = .ok (.nd (.lst true) [lt b wp, lt c wf], []) := by
  have O1 := fun q => intsHas (q := q) wp
  have O2 := fun q => intsHas (q := q) wf
  have z2 : 2 ≤ sizeLine := by rw [sizeLine_eq]; decide
  have q1 := oMod_s (i := t) (j := 2) (by decide)
  have d1 := oDiv_s (i := t) (j := 2) (by decide) (by decide)
  have q2 := oMod_s (i := t / 2) (j := 2) (by decide)
  have l1 : listD (.nd (.lst false) (wp.map D.int)) = some (.nd (.lst true) (wp.map D.int)) := by simp [listD, O1]
  have l2 : listD (.nd (.lst false) (wf.map D.int)) = some (.nd (.lst true) (wf.map D.int)) := by simp [listD, O2]
  have t1 : tupD (.nd (.lst false) (wp.map D.int)) = some (.nd .tup (wp.map D.int)) := by simp [tupD, O1]
  have t2 : tupD (.nd (.lst false) (wf.map D.int)) = some (.nd .tup (wf.map D.int)) := by simp [tupD, O2]
  have m1 : t % 2 = 0 ∨ t % 2 = 1 := by omega
  have m2 : t / 2 % 2 = 0 ∨ t / 2 % 2 = 1 := by omega
  refine ⟨decide (t % 2 = 1), decide (t / 2 % 2 = 1), ?_⟩
  unfold D__law_handed b__law_handed
  generalize oMod = OO at *
  generalize oDiv = OV at *
  generalize t / 2 = u at *
  rcases m1 with m1 | m1 <;> rcases m2 with m2 | m2 <;> rw [m1] at q1 <;> rw [m2] at q2 <;> simp [l1, l2, t1, t2, chkT, z2, q1, d1, q2, ix_two0, ix_two1, lt, m1, m2, O1, O2]
end Wk21

namespace Wk21
open PySem PySem.Spec PyProof.Rows L2 VS
theorem answers {a : Ad} {cl W V' : D} {fa fb fc : List D} (p : Arg cl) (q : Arg W) (r : Arg V') (t : Int)
    (ef : D__law_asked_face a.C_Cloth a.C_MillError a.C_BadColours a.C_TooLarge a.C_Mismatch [cl, W, V'] = .ok (.nd (.lst true) fa, [])) (eb : D__law_asked_back a.C_Cloth a.C_MillError a.C_BadColours a.C_TooLarge a.C_Mismatch [cl, W, V'] = .ok (.nd (.lst true) fb, [])) (eh : D__law_asked_hidden a.C_Cloth a.C_MillError a.C_BadColours a.C_TooLarge a.C_Mismatch [cl, W, V'] = .ok (.nd (.lst true) fc, [])) :
    D__law_answers a.C_Cloth a.C_MillError a.C_BadColours a.C_TooLarge a.C_Mismatch [cl, W, V', .v (.int t)] = .ok (.nd (.lst true) [.nd (.lst true) fa, .nd (.lst true) fb, .nd (.lst true) fc], []) := by
  obtain ⟨p1, p2, p3⟩ := p
  obtain ⟨q1, q2, q3⟩ := q
  obtain ⟨r1, r2, r3⟩ := r
  have z3 : 3 ≤ sizeLine := by rw [sizeLine_eq]; decide
  have step : ∀ (k : Nat) (X Y Z u : D), ∃ X' Y' Z', fb__law_answers_1 a.C_Cloth a.C_MillError a.C_BadColours a.C_TooLarge a.C_Mismatch [cl, W, V', .v (.int t), .nd (.lst true) [X, Y, Z], .v (.int k), u] = .nx [cl, W, V', .v (.int t), .nd (.lst true) [X', Y', Z'], .v (.int k), .v (.int (((k : Int) + t) % 3))] ∧
      ((((k : Int) + t) % 3 = 0 ∧ X' = .nd (.lst true) fa ∧ Y' = Y ∧ Z' = Z) ∨ (((k : Int) + t) % 3 = 1 ∧ X' = X ∧ Y' = .nd (.lst true) fb ∧ Z' = Z) ∨ (((k : Int) + t) % 3 = 2 ∧ X' = X ∧ Y' = Y ∧ Z' = .nd (.lst true) fc)) := fun k X Y Z u => by
    have m := oMod_s (i := (k : Int) + t) (j := 3) (by decide)
    have n0 : ixN 3 0 = some 0 := by decide
    have n1 : ixN 3 1 = some 1 := by decide
    have n2 : ixN 3 2 = some 2 := by decide
    have h3 : ((k : Int) + t) % 3 = 0 ∨ ((k : Int) + t) % 3 = 1 ∨ ((k : Int) + t) % 3 = 2 := by omega
    unfold fb__law_answers_1 if__law_answers_1 if__law_answers_2 if__law_answers_3
    generalize oMod = OO at *
    rcases h3 with h | h | h
    · rw [h] at m
      refine ⟨.nd (.lst true) fa, Y, Z, ?_, .inl ⟨h, rfl, rfl, rfl⟩⟩
      rw [h]
      simp [m, p1, p2, p3, q1, q2, q3, r1, r2, r3, ef, n0]
    · rw [h] at m
      refine ⟨X, .nd (.lst true) fb, Z, ?_, .inr (.inl ⟨h, rfl, rfl, rfl⟩)⟩
      rw [h]
      simp [m, p1, p2, p3, q1, q2, q3, r1, r2, r3, eb, n1]
    · rw [h] at m
      refine ⟨X, Y, .nd (.lst true) fc, ?_, .inr (.inr ⟨h, rfl, rfl, rfl⟩)⟩
      rw [h]
      simp [m, p1, p2, p3, q1, q2, q3, r1, r2, r3, eh, n2]
  obtain ⟨X1, Y1, Z1, s1, h1⟩ := step 0 (.v .non) (.v .non) (.v .non) .un
  obtain ⟨X2, Y2, Z2, s2, h2⟩ := step 1 X1 Y1 Z1 (.v (.int (((0 : Nat) + t) % 3)))
  obtain ⟨X3, Y3, Z3, s3, h3⟩ := step 2 X2 Y2 Z2 (.v (.int (((1 : Nat) + t) % 3)))
  have e3 : X3 = .nd (.lst true) fa ∧ Y3 = .nd (.lst true) fb ∧ Z3 = .nd (.lst true) fc := by
    rcases h1 with ⟨a1, b1, c1, d1⟩ | ⟨a1, b1, c1, d1⟩ | ⟨a1, b1, c1, d1⟩ <;> rcases h2 with ⟨a2, b2, c2, d2⟩ | ⟨a2, b2, c2, d2⟩ | ⟨a2, b2, c2, d2⟩ <;> rcases h3 with ⟨a3, b3, c3, d3⟩ | ⟨a3, b3, c3, d3⟩ | ⟨a3, b3, c3, d3⟩ <;> first | (exfalso; omega) | (subst b1 c1 d1 b2 c2 d2 b3 c3 d3; exact ⟨rfl, rfl, rfl⟩)
  obtain ⟨rfl, rfl, rfl⟩ := e3
  have ef2 : fo__law_answers_1 a.C_Cloth a.C_MillError a.C_BadColours a.C_TooLarge a.C_Mismatch [cl, W, V', .v (.int t), .nd (.lst true) [.v .non, .v .non, .v .non], .un, .un] = .nx [cl, W, V', .v (.int t), .nd (.lst true) [.nd (.lst true) fa, .nd (.lst true) fb, .nd (.lst true) fc], .v (.int 2), .v (.int (((2 : Nat) + t) % 3))] := by
    unfold fo__law_answers_1
    rw [for_rg (rg1_nat (n := 3) (s' := [cl, W, V', .v (.int t), .nd (.lst true) [.v .non, .v .non, .v .non], .un, .un]) (by simp) (by omega))]
    show forL _ _ [D.int ((0 : Nat) : Int), D.int ((1 : Nat) : Int), D.int ((2 : Nat) : Int)] _ = _
    simp only [forL, gdN, List.set_cons_succ, List.set_cons_zero]
    rw [show D.int ((0 : Nat) : Int) = D.v (.int ((0 : Nat) : Int)) from rfl, s1]
    simp only [List.set_cons_succ, List.set_cons_zero]
    rw [show D.int ((1 : Nat) : Int) = D.v (.int ((1 : Nat) : Int)) from rfl, s2]
    simp only [List.set_cons_succ, List.set_cons_zero]
    rw [show D.int ((2 : Nat) : Int) = D.v (.int ((2 : Nat) : Int)) from rfl, s3]
    rfl
  simp [D__law_answers, b__law_answers, chkT, z3, ef2]
end Wk21

namespace Wk21
open PySem PySem.Spec PyProof.Rows L2 VS
theorem rows_told {C : Addr} {h w : Nat} {f : Nat → Nat → Bool} : D__law_rows_told C [clothD C h w f] = .ok (.nd (.lst true) (rowsD h w f), []) := by
  have O := fun q => rowsHas (q := q) (h := h) (w := w) (f := f)
  obtain ⟨s', e, a, rfl, _⟩ := forL_inv (g := gdN 1) (body := fb__law_rows_told_1 C) (fun ys s => ∃ a, s = [clothD C h w f, a] ∧ ∀ y ∈ ys, ∃ z, y = .v (.str z)) (by
    rintro y r s ⟨a, rfl, h2⟩
    obtain ⟨z, rfl⟩ := h2 y List.mem_cons_self
    refine ⟨_, [clothD C h w f, .v (.str z)], rfl, .inl ?_, _, rfl, fun y m => h2 y (List.mem_cons_of_mem _ m)⟩
    simp [fb__law_rows_told_1, if__law_rows_told_2, isi_str]) (rowsD h w f) [clothD C h w f, .un] ⟨.un, rfl, fun y m => by
      rw [rowsD_map] at m
      obtain ⟨i, _, rfl⟩ := List.mem_map.mp m; exact ⟨_, rfl⟩⟩
  have ef : fo__law_rows_told_1 C [clothD C h w f, .un] = .nx [clothD C h w f, a] := by
    unfold fo__law_rows_told_1
    rw [for_it (x := .nd .tup (rowsD h w f)) (xs := rowsD h w f) (s1 := [clothD C h w f, .un]) (by simp [dIt, D.items, dFld, fldD, D.inst, fIx]) (by simp [O]) (O _), e]
  simp [D__law_rows_told, b__law_rows_told, if__law_rows_told_1, isi_own, isi_tup, dFld, fldD, D.inst, fIx, ef, listD, O]
end Wk21

namespace VS
open PySem PySem.Spec PyProof.Rows L2
/-! ### data that nobody changes: told by instances -/
class Fr (x : D) : Prop where
  f : D.fz x = x
  o : D.has NK.isOwn x = false
  u : D.isUn x = false
class Frs (xs : List D) : Prop where
  f : D.fzs xs = xs
  o : D.hass NK.isOwn xs = false
class Ns (x : D) : Prop where
  s : D.has NK.isShr x = false
class Nss (xs : List D) : Prop where
  s : D.hass NK.isShr xs = false
@[simp] theorem fr_f {x : D} [h : Fr x] : D.fz x = x := h.f
@[simp] theorem fr_o {x : D} [h : Fr x] : D.has NK.isOwn x = false := h.o
@[simp] theorem fr_u {x : D} [h : Fr x] : D.isUn x = false := h.u
@[simp] theorem frs_f {x : List D} [h : Frs x] : D.fzs x = x := h.f
@[simp] theorem frs_o {x : List D} [h : Frs x] : D.hass NK.isOwn x = false := h.o
@[simp] theorem ns_s {x : D} [h : Ns x] : D.has NK.isShr x = false := h.s
@[simp] theorem nss_s {x : List D} [h : Nss x] : D.hass NK.isShr x = false := h.s
instance fr_v (x : V) : Fr (.v x) := ⟨rfl, rfl, rfl⟩
instance ns_v (x : V) : Ns (.v x) := ⟨rfl⟩
instance frs_nil : Frs [] := ⟨rfl, rfl⟩
instance nss_nil : Nss [] := ⟨rfl⟩
instance frs_cons {x : D} {r : List D} [a : Fr x] [b : Frs r] : Frs (x :: r) := ⟨by rw [D.fzs, a.f, b.f], by rw [D.hass, a.o, b.o]; rfl⟩
instance nss_cons {x : D} {r : List D} [a : Ns x] [b : Nss r] : Nss (x :: r) := ⟨by rw [D.hass, a.s, b.s]; rfl⟩
theorem frs_of {xs : List D} (h : ∀ x ∈ xs, Fr x) : Frs xs := by
  induction xs with
  | nil => exact frs_nil
  | cons x r ih => exact @frs_cons x r (h x List.mem_cons_self) (ih fun y m => h y (List.mem_cons_of_mem _ m))
theorem nss_of {xs : List D} (h : ∀ x ∈ xs, Ns x) : Nss xs := by
  induction xs with
  | nil => exact nss_nil
  | cons x r ih => exact @nss_cons x r (h x List.mem_cons_self) (ih fun y m => h y (List.mem_cons_of_mem _ m))
theorem Frs.mem {xs : List D} (h : Frs xs) : ∀ x ∈ xs, D.fz x = x ∧ D.has NK.isOwn x = false := by
  intro x m
  obtain ⟨a, b⟩ := h
  induction xs with
  | nil => cases m
  | cons y r ih =>
    rw [D.fzs] at a; rw [D.hass, Bool.or_eq_false_iff] at b
    injection a with a1 a2
    rcases List.mem_cons.mp m with rfl | m
    · exact ⟨a1, b.1⟩
    · exact ih m a2 b.2
theorem Nss.mem {xs : List D} (h : Nss xs) : ∀ x ∈ xs, Ns x := by
  intro x m
  obtain ⟨b⟩ := h
  induction xs with
  | nil => cases m
  | cons y r ih =>
    rw [D.hass, Bool.or_eq_false_iff] at b
    rcases List.mem_cons.mp m with rfl | m
    · exact ⟨b.1⟩
    · exact ih m b.2
theorem frs_sub {xs ys : List D} (h : Frs xs) (s : ∀ y ∈ ys, y ∈ xs) : Frs ys := by
  induction ys with
  | nil => exact frs_nil
  | cons y r ih =>
    obtain ⟨a, b⟩ := h.mem y (s y List.mem_cons_self)
    obtain ⟨c, d⟩ := ih fun z m => s z (List.mem_cons_of_mem _ m)
    exact ⟨by rw [D.fzs, a, c], by rw [D.hass, b, d]; rfl⟩
instance frs_map {α : Type} {f : α → D} {l : List α} [h : ∀ a, Fr (f a)] : Frs (l.map f) := frs_of fun x m => by obtain ⟨a, _, rfl⟩ := List.mem_map.mp m; exact h a
instance nss_map {α : Type} {f : α → D} {l : List α} [h : ∀ a, Ns (f a)] : Nss (l.map f) := nss_of fun x m => by obtain ⟨a, _, rfl⟩ := List.mem_map.mp m; exact h a
theorem frs_app' {y : List D} (b : Frs y) : ∀ {x : List D}, Frs x → Frs (x ++ y)
  | [], _ => b
  | z :: r, a => by
    obtain ⟨p, q⟩ := a.mem z List.mem_cons_self
    obtain ⟨u, v⟩ := frs_app' b (frs_sub a (ys := r) fun y m => List.mem_cons_of_mem _ m)
    exact ⟨by rw [List.cons_append, D.fzs, p, u], by rw [List.cons_append, D.hass, q, v]; rfl⟩
instance frs_app {x y : List D} [a : Frs x] [b : Frs y] : Frs (x ++ y) := frs_app' b a
instance nss_app {x y : List D} [a : Nss x] [b : Nss y] : Nss (x ++ y) := nss_of fun z m => by
  rcases List.mem_append.mp m with m | m
  · exact a.mem z m
  · exact b.mem z m
instance frs_rows {h w : Nat} {f : Nat → Nat → Bool} : Frs (rowsD h w f) := by unfold rowsD; exact frs_map
instance nss_rows {h w : Nat} {f : Nat → Nat → Bool} : Nss (rowsD h w f) := by unfold rowsD; exact nss_map
instance frs_range {n : Nat} : Frs (rangeD n) := by unfold rangeD; exact frs_map
instance nss_range {n : Nat} : Nss (rangeD n) := by unfold rangeD; exact nss_map
instance frs_rev {x : List D} [a : Frs x] : Frs x.reverse := frs_sub a fun y m => List.mem_reverse.mp m
instance nss_rev {x : List D} [a : Nss x] : Nss x.reverse := nss_of fun y m => a.mem y (List.mem_reverse.mp m)
instance frs_take {x : List D} {n : Nat} [a : Frs x] : Frs (x.take n) := frs_sub a fun y m => List.mem_of_mem_take m
instance frs_drop {x : List D} {n : Nat} [a : Frs x] : Frs (x.drop n) := frs_sub a fun y m => List.mem_of_mem_drop m
instance frs_filter {x : List D} {p : D → Bool} [a : Frs x] : Frs (x.filter p) := frs_sub a fun y m => (List.mem_filter.mp m).1
instance frs_repl {x : List D} {n : Nat} [a : Frs x] : Frs (List.replicate n x).flatten := frs_sub a fun y m => by
  obtain ⟨l, ml, my⟩ := List.mem_flatten.mp m
  rw [(List.mem_replicate.mp ml).2] at my; exact my
instance fr_tup {xs : List D} [h : Frs xs] : Fr (.nd .tup xs) := ⟨by rw [D.fz, h.f]; rfl, by rw [D.has, h.o]; rfl, rfl⟩
instance fr_lst {xs : List D} [h : Frs xs] : Fr (.nd (.lst false) xs) := ⟨by rw [D.fz, h.f]; rfl, by rw [D.has, h.o]; rfl, rfl⟩
instance fr_scr {xs : List D} [h : Frs xs] : Fr (.nd .scr xs) := ⟨by rw [D.fz, h.f]; rfl, by rw [D.has, h.o]; rfl, rfl⟩
instance fr_ins {C : Addr} {fs : List Str} {xs : List D} [h : Frs xs] : Fr (.nd (.ins C fs) xs) := ⟨by rw [D.fz, h.f]; rfl, by rw [D.has, h.o]; rfl, rfl⟩
instance ns_tup {xs : List D} [h : Nss xs] : Ns (.nd .tup xs) := ⟨by rw [D.has, h.s]; rfl⟩
instance ns_lst {xs : List D} [h : Nss xs] : Ns (.nd (.lst true) xs) := ⟨by rw [D.has, h.s]; rfl⟩
instance ns_ins {C : Addr} {fs : List Str} {xs : List D} [h : Nss xs] : Ns (.nd (.ins C fs) xs) := ⟨by rw [D.has, h.s]; rfl⟩
instance ns_obj {C : Addr} {fs : List Str} {xs : List D} [h : Nss xs] : Ns (.nd (.obj true C fs) xs) := ⟨by rw [D.has, h.s]; rfl⟩
/-! ### the reckoning set -/
theorem le_sl {n : Nat} (h : n ≤ 16777216) : (n ≤ sizeLine) = True := by rw [sizeLine_eq]; exact eq_true h
theorem lt_sl {n : Nat} (h : n < 16777216) : (n < sizeLine) = True := by rw [sizeLine_eq]; exact eq_true h
theorem oMod_p {i j : Int} (h1 : 0 < j) : oMod (.v (.int i)) (.v (.int j)) = some (.v (.int (i % j))) := oMod_s h1
theorem oDiv_p {i j : Int} (h1 : 0 < j) (h2 : j < 1000000000000) : oDiv (.v (.int i)) (.v (.int j)) = some (.v (.int (i / j))) := oDiv_s h1 (by omega)
theorem oMul_p {i j : Int} (h1 : -1000000000000000000000000000000000000000000000000000000000000 ≤ i) (h2 : i ≤ 1000000000000000000000000000000000000000000000000000000000000) (h3 : -1000000000000000000000000000000000000000000000000000000000000 ≤ j) (h4 : j ≤ 1000000000000000000000000000000000000000000000000000000000000) : oMul (.v (.int i)) (.v (.int j)) = some (.v (.int (i * j))) := oMul_s (by omega) (by omega) (by omega) (by omega)
theorem oSub_p {i j : Int} : oSub (.v (.int i)) (.v (.int j)) = some (.v (.int (i - j))) := rfl
theorem oPow_p {i j : Int} (h0 : 0 ≤ j) (h1 : j ≤ 1000000) (h2 : -10000000000000000000 < i) (h3 : i < 10000000000000000000) : oPow (.v (.int i)) (.v (.int j)) = some (.v (.int (i ^ j.toNat))) := by
  show (if decide (0 ≤ j ∧ j ≤ 1000000 ∧ i.natAbs < 2 ^ 64) = true then _ else _) = _
  rw [if_pos (by simp only [decide_eq_true_eq]; omega)]
theorem oMulL {o : Bool} {xs : List D} {k : Int} (h1 : -1000000 ≤ k) (h2 : k ≤ 1000000) (h3 : xs.length * k.toNat ≤ 16777216) [h : Frs xs] : oMul (.nd (.lst o) xs) (.v (.int k)) = some (.nd (.lst true) (List.replicate k.toNat xs).flatten) := by
  show (if (decide (k.natAbs < 4000000000000000000 ∧ xs.length * k.toNat ≤ sizeLine) && !D.hass NK.isOwn xs) = true then _ else _) = _
  rw [h.o, if_pos (by rw [sizeLine_eq, Bool.and_eq_true, decide_eq_true_eq]; exact ⟨⟨by omega, h3⟩, rfl⟩)]
theorem ixL {o : Bool} {xs : List D} {p : Int} (h0 : 0 ≤ p) : ixD (.nd (.lst o) xs) (.v (.int p)) = xs[p.toNat]? := VS.ix_lst h0
theorem ixT {xs : List D} {p : Int} (h0 : 0 ≤ p) : ixD (.nd .tup xs) (.v (.int p)) = xs[p.toNat]? := VS.ix_tup h0
theorem lenL {o : Bool} {xs : List D} : lenD (.nd (.lst o) xs) = some (.v (.int xs.length)) := rfl
theorem lenT {xs : List D} : lenD (.nd .tup xs) = some (.v (.int xs.length)) := rfl
theorem lenS {z : Str} (h : z.length ≤ 16777216) : lenD (.v (.str z)) = some (.v (.int z.length)) := by
  show (if z.length ≤ sizeLine then _ else _) = _
  rw [if_pos (by rw [sizeLine_eq]; exact h)]
theorem listL {o : Bool} {xs : List D} [h : Frs xs] : listD (.nd (.lst o) xs) = some (.nd (.lst true) xs) := by unfold listD; simp
theorem listT {xs : List D} [h : Frs xs] : listD (.nd .tup xs) = some (.nd (.lst true) xs) := by unfold listD; simp
theorem tupL {o : Bool} {xs : List D} [h : Frs xs] : tupD (.nd (.lst o) xs) = some (.nd .tup xs) := by unfold tupD; simp
theorem tupT {xs : List D} [h : Frs xs] : tupD (.nd .tup xs) = some (.nd .tup xs) := by unfold tupD; simp
theorem revL {o : Bool} {xs : List D} [h : Frs xs] : revA (.nd (.lst o) xs) = some (.nd (.lst true) xs.reverse) := by
  unfold revA revD; simp
theorem mApp {xs : List D} {y : D} (h : xs.length < 16777216) : mAppend xs [y] = some (xs ++ [y], .v .non) := by
  show (if xs.length < sizeLine then _ else _) = _; rw [if_pos (by rw [sizeLine_eq]; exact h)]
theorem mExt {xs zs : List D} {o : Bool} (h : xs.length + zs.length ≤ 16777216) : mExtend xs [.nd (.lst o) zs] = some (xs ++ zs, .v .non) := by
  show (if xs.length + zs.length ≤ sizeLine then _ else _) = _; rw [if_pos (by rw [sizeLine_eq]; exact h)]
theorem gR {α : Type} {n i : Nat} {F : Nat → α} (h : i < n) : ((List.range n).map F)[i]? = some (F i) := gen_get h
theorem setN {i : Nat} {x : D} {s : List D} : gdN i x s = some (s.set i x) := rfl
theorem fldI {C : Addr} {Cs : List Addr} {fs : List Str} {xs : List D} {f : Str} : fldD Cs f (.nd (.ins C fs) xs) = if Cs.contains C = true then (match fIx f fs with | some i => xs[i]? | none => none) else none := rfl
theorem fldO {C : Addr} {Cs : List Addr} {fs : List Str} {xs : List D} {f : Str} {o : Bool} : fldD Cs f (.nd (.obj o C fs) xs) = if Cs.contains C = true then (match fIx f fs with | some i => xs[i]? | none => none) else none := rfl
theorem eqS {a b : Str} : eqD (.v (.str a)) (.v (.str b)) = some (decide (a = b)) := eqD_str
/-! loops over a range -/
theorem rgE {d : EA} {s s' : List D} {n : Nat} (h : d s = .ok ([.v (.int (n : Int))], s')) (hn : n ≤ 1000000) : dRg1 d s = .ok ((.v .non, rangeD n), s') := by
  have := rg1_ok h (by omega) (by omega)
  rwa [Int.toNat_natCast] at this
theorem forN {d : EA} {i : Nat} {mb : List Nat} {body : S} {s s1 : List D} {n : Nat} (I : Nat → List D → Prop) (hd : d s = .ok ([.v (.int (n : Int))], s1)) (hn : n ≤ 1000000) (h0 : I 0 s1)
    (step : ∀ k t, k < n → I k t → ∃ t2, (body (t.set i (.v (.int (k : Int)))) = .nx t2 ∨ body (t.set i (.v (.int (k : Int)))) = .ct t2) ∧ I (k + 1) t2) : ∃ t, sFor .tmp mb (dRg1 d) (gdN i) body s = .nx t ∧ I n t := by
  rw [for_rg (rgE hd hn)]
  exact for_range I h0 fun k t hk h => by
    obtain ⟨t2, e, h2⟩ := step k t hk h
    exact ⟨_, t2, rfl, e, h2⟩
/-- a loop over a range that looks for the first number with P -/
theorem forNF {d : EA} {i : Nat} {mb : List Nat} {body : S} {s s1 : List D} {n : Nat} (P : Nat → Bool) (r : Nat → D) (J : List D → Prop) (hd : d s = .ok ([.v (.int (n : Int))], s1)) (hn : n ≤ 1000000) (h0 : J s1)
    (step : ∀ k t, k < n → J t → (P k = true ∧ ∃ t2, body (t.set i (.v (.int (k : Int)))) = .rt (r k) t2) ∨ (P k = false ∧ ∃ t2, (body (t.set i (.v (.int (k : Int)))) = .nx t2) ∧ J t2)) :
    (∃ k t, k < n ∧ P k = true ∧ (∀ j, j < k → P j = false) ∧ sFor .tmp mb (dRg1 d) (gdN i) body s = .rt (r k) t) ∨ ((∀ k, k < n → P k = false) ∧ ∃ t, sFor .tmp mb (dRg1 d) (gdN i) body s = .nx t ∧ J t) := by
  rw [for_rg (rgE hd hn), rangeD_map]
  rcases forL_find (g := gdN i) (body := body) (enc := fun (k : Nat) => D.int (k : Int)) P r J (fun _ _ => True) (List.range n) s1 h0 (fun k m t hJ => by
    refine ⟨_, rfl, ?_⟩
    rcases step k t (List.mem_range.mp m) hJ with ⟨a, t2, b⟩ | ⟨a, t2, b, c⟩
    · exact .inl ⟨a, t2, b, trivial⟩
    · exact .inr ⟨a, t2, b, c⟩) with ⟨pre, k, post, t, e, hp, hk, ef, _⟩ | ⟨ha, t, ef, hJ⟩
  · have hl : k = pre.length ∧ k < n := by
      have h1 : (List.range n)[pre.length]? = some k := by rw [e, List.getElem?_append_right (Nat.le_refl _), Nat.sub_self]; rfl
      have hlt : pre.length < n := by
        have := congrArg List.length e
        rw [List.length_range, List.length_append, List.length_cons] at this; omega
      rw [List.getElem?_range hlt] at h1
      injection h1 with h1; omega
    refine .inl ⟨k, t, hl.2, hk, fun j hj => ?_, ef⟩
    refine hp j ?_
    have h2 : (List.range n)[j]? = some j := List.getElem?_range (by omega)
    rw [e, List.getElem?_append_left (by omega)] at h2
    exact List.mem_of_getElem? h2
  · exact .inr ⟨fun k hk => ha k (List.mem_range.mpr hk), t, ef, hJ⟩
/-- a comprehension over a range -/
theorem lcN {d : EA} {v : Nat} {mb : List Nat} {m : Md} {e : E} {s s1 s2 : List D} {n : Nat} (F : Nat → D) (hd : d s = .ok ([.v (.int (n : Int))], s1)) (hn : n ≤ 1000000) (hs : s1.set v .un = s2)
    (he : ∀ k, k < n → ∃ t2, e (s2.set v (.v (.int (k : Int)))) = .ok (F k, t2) ∧ (m.isTmp || !(F k).hasOwn) = true ∧ t2.set v .un = s2) : dLc .tmp mb [v] (dRg1 d) (gdN v) bYes m e s = .ok (.nd (.lst true) ((List.range n).map F), s2) :=
  lc_range (rgE hd hn) hn hs fun k hk => by
    obtain ⟨t2, a, b, c⟩ := he k hk
    exact ⟨_, t2, rfl, rfl, a, b, c⟩
/-- a comprehension over the items of a sequence -/
theorem lcI {α : Type} {d : E} {v : Nat} {m0 : Md} {mb : List Nat} {m : Md} {e : E} {s s1 s2 : List D} {x : D} {l : List α} {enc : α → D} (F : α → D) (hd : d s = .ok (x, s1)) (hx : x.items = some (l.map enc)) (hc : (clr m0 mb || !x.hasOwn) = true) (ho : D.hass NK.isOwn (l.map enc) = false) (hl : l.length ≤ 10000) (hs : s1.set v .un = s2)
    (he : ∀ a ∈ l, ∃ t2, e (s2.set v (enc a)) = .ok (F a, t2) ∧ (m.isTmp || !(F a).hasOwn) = true ∧ t2.set v .un = s2) : dLc m0 mb [v] (dIt d) (gdN v) bYes m e s = .ok (.nd (.lst true) (l.map F), s2) :=
  lc_it (x := x) (l := l) (enc := enc) (by unfold dIt; rw [hd]; show (match x.items with | some xs => _ | none => _) = _; rw [hx]) hc ho hl hs fun a ma => by
    obtain ⟨t2, p, q, r⟩ := he a ma
    exact ⟨_, t2, rfl, rfl, p, q, r⟩
theorem valOk_n {is : List Nat} : valOk is [] [] = true := rfl
theorem valFree_n : valFree [] [] = true := rfl
theorem valOk_i {is : List Nat} {i : Nat} {ks : List AK} {xs : List (Option D)} : valOk is (.io i :: ks) (none :: xs) = valOk is ks xs := rfl
theorem valFree_i {i : Nat} {ks : List AK} {xs : List (Option D)} : valFree (.io i :: ks) (none :: xs) = valFree ks xs := rfl
theorem putD_n {os s : List D} : putD' [] os s = s := by cases os <;> rfl
theorem putD_0 {ks : List AK} {s : List D} : putD' ks [] s = s := by
  induction ks with
  | nil => rfl
  | cons k r ih => cases k <;> first | exact ih | rfl
/-! loops over small ranges are unrolled -/
def rgGo (g : Gd) (body : S) : List D × List D → O
  | ([.v (.int j)], s) => if j.natAbs < 4000000000000000000 then forL g body (rangeD j.toNat) s else .no
  | _ => .no
theorem sForRg {d : EA} {g : Gd} {mb : List Nat} {body : S} {s : List D} : sFor .tmp mb (dRg1 d) g body s = match d s with
    | .ok q => rgGo g body q
    | .ex c fs s => .ex c fs s
    | .no => .no := by
  unfold sFor dRg1
  cases d s with
  | no => rfl
  | ex c fs s => rfl
  | ok q =>
    obtain ⟨xs, s'⟩ := q
    rcases xs with _ | ⟨x, _ | ⟨y, r⟩⟩
    · rfl
    · cases x with
      | un => rfl
      | nd k xs => rfl
      | v x =>
        cases x with
        | int j =>
          by_cases hb : j.natAbs < 4000000000000000000
          · have e : ((List.range j.toNat).map fun (i : Nat) => D.int (0 + i)) = rangeD j.toNat := by unfold rangeD; simp
            simp only [R.bind, if_pos hb, rgGo]
            rw [e]
            simp [rangeD_has]
          · simp only [R.bind, if_neg hb, rgGo]
        | _ => rfl
    · cases x with
      | v x => cases x <;> rfl
      | _ => rfl
theorem rgGo_s {g : Gd} {body : S} {j : Int} {s : List D} (h0 : -1000000 ≤ j) (h1 : j ≤ 1000000) : rgGo g body ([.v (.int j)], s) = forL g body (rangeD j.toNat) s := by
  show (if j.natAbs < 4000000000000000000 then _ else _) = _; rw [if_pos (by omega)]
theorem forL_n {g : Gd} {body : S} {s : List D} : forL g body [] s = .nx s := by rw [forL]
theorem forL_c {i : Nat} {body : S} {s : List D} {x : D} {r : List D} : forL (gdN i) body (x :: r) s = match body (s.set i x) with
      | .nx s2 => forL (gdN i) body r s2
      | .ct s2 => forL (gdN i) body r s2
      | .bk s2 => .nx s2
      | .rt x s2 => .rt x s2
      | .ex c fs s2 => .ex c fs s2
      | .no => .no := by rw [forL]; rfl
theorem rg_0 : rangeD 0 = [] := rfl
theorem rg_1 : rangeD 1 = [.v (.int 0)] := rfl
theorem rg_2 : rangeD 2 = [.v (.int 0), .v (.int 1)] := rfl
theorem rg_3 : rangeD 3 = [.v (.int 0), .v (.int 1), .v (.int 2)] := rfl
theorem rg_4 : rangeD 4 = [.v (.int 0), .v (.int 1), .v (.int 2), .v (.int 3)] := rfl

end VS

namespace Wk21
open PySem PySem.Spec PyProof.Rows L2 VS
def kd (b : Bool) : NK := if b = true then .tup else .lst false
theorem kd_k (b : Bool) : kd b = .tup ∨ kd b = .lst false := by cases b <;> simp [kd]
theorem lt_fz (b : Bool) (ws : List Int) : (lt b ws).fz = .nd (kd b) (ws.map D.int) := by cases b <;> simp [lt, kd]
theorem lt_un (b : Bool) (ws : List Int) : (lt b ws).isUn = false := by cases b <;> rfl
theorem lt_shr (b : Bool) (ws : List Int) : (lt b ws).has NK.isShr = false := by cases b <;> simp [lt]
theorem lt_list (b : Bool) (ws : List Int) : listD (lt b ws) = some (.nd (.lst true) (ws.map D.int)) := by cases b <;> simp [lt, listL, listT]
instance kd_fr (b : Bool) (ws : List Int) : Fr (.nd (kd b) (ws.map D.int)) := by
  cases b
  · show Fr (.nd (.lst false) _); infer_instance
  · show Fr (.nd .tup _); infer_instance
instance hid_fr (h w : Nat) (wp wf : List Int) : Frs (hid h w wp wf) := frs_of fun x m => by
  obtain ⟨i, j, rfl⟩ := hid_mem m; infer_instance
instance hid_ns (h w : Nat) (wp wf : List Int) : Nss (hid h w wp wf) := nss_of fun x m => by
  obtain ⟨i, j, rfl⟩ := hid_mem m; infer_instance
theorem eq_rows {a b : Bool} {h w : Nat} {f : Nat → Nat → Bool} : eqD (.nd (.lst a) (rowsD h w f)) (.nd (.lst b) (rowsD h w f)) = some true := by rw [eqD_rows]; simp
theorem ne_intsL {a b : Bool} {l : List Int} : neD (.nd (.lst a) (l.map D.int)) (.nd (.lst b) (l.map D.int)) = some false := by unfold neD; rw [eqD_ints]; simp
theorem answered {a : Ad} (o : NeA a) {h w : Nat} {f : Nat → Nat → Bool} {wp wf : List Int} (y : Hy (.lst false) (.lst false) h w wp wf) (t : Int) :
    D__law_answered a.C_Cloth a.C_MillError a.C_BadColours a.C_TooLarge a.C_Mismatch [clothD a.C_Cloth h w f, .nd (.lst false) (rowsD h w f), .nd (.lst false) (wp.map D.int), .nd (.lst false) (wf.map D.int), .v (.int t)] = .ok (.v (.bl true), []) := by
  have dd := due (f := f) y
  obtain ⟨b, c, hd⟩ := handed (wp := wp) (wf := wf) t
  have y2 : Hy (kd b) (kd c) h w wp wf := ⟨kd_k b, kd_k c, y.f1, y.f2, y.l1, y.l2, y.d⟩
  have Ac := arg_cloth (C := a.C_Cloth) (h := h) (w := w) (f := f)
  have A1 := arg_ints (ws := wp) (kd_k b)
  have A2 := arg_ints (ws := wf) (kd_k c)
  have an := answers (a := a) Ac A1 A2 t (face_ok Ac A1 A2 (by simp) rfl (face y2)) (back_ok Ac A1 A2 (by simp) rfl (back y2)) (hidden_ok Ac A1 A2 (by simp) rfl (hidden y2))
  have rt := rows_told (C := a.C_Cloth) (h := h) (w := w) (f := f)
  have h1 := y.d.h1
  have w1 := y.d.w1
  have hl := hid_len w wp wf h
  have hm : h * w ≤ 60 * 60 := Nat.mul_le_mul h1 w1
  have s1 := same_pic (C := a.C_Cloth) (h := h) (w := w) (p := faceF f wp wf) (by omega)
  have s2 := same_pic (C := a.C_Cloth) (h := h) (w := w) (p := bkF w f wp wf) (by omega)
  have s3 := same_hid (C := a.C_Cloth) (h := h) (w := w) (wp := wp) (wf := wf) (by omega)
  unfold dueL at dd
  simp (disch := (first | assumption | omega | (simp only [List.length_map, List.length_range, List.length_append, List.length_reverse, List.length_cons, List.length_nil, rowsD_len, rangeD_len, mkRow_len, bit_len] <;> omega) | fail)) [-u_oInt_1, -u_oInt_2, -u_oInt0_1, List.getElem?_cons_zero, List.getElem?_cons_succ, le_sl, lt_sl, oMod_p, oDiv_p, oMul_p, oSub_p, oPow_p, ixL, ixT, lenL, lenT, lenS, listL, listT, tupL, tupT, revL, mApp, mExt, gR, setN, fldI, fldO, fIx, chkT, dChn, valOk_n, valFree_n, valOk_i, valFree_i, putD_n, putD_0, sForRg, rgGo_s, forL_n, forL_c, rg_0, rg_1, rg_2, rg_3, rg_4, D__law_answered, b__law_answered, fo__law_answered_1, fb__law_answered_1, if__law_answered_1, if__law_answered_2, dd, hd, an, rt, lt_fz, lt_un, lt_list, lt_shr, s1, s2, s3, eq_rows, ne_intsL]
end Wk21

namespace Wk21
open PySem PySem.Spec PyProof.Rows L2 VS
def five (wp : List Int) : List Int := wp.map fun c => 5 - c
theorem fit_five {wp : List Int} (h : fitB wp = true) : fitB (five wp) = true := by
  unfold fitB five at *
  rw [Bool.and_eq_true] at h ⊢
  refine ⟨by simpa using h.1, List.all_eq_true.mpr fun x m => ?_⟩
  obtain ⟨c, mc, rfl⟩ := List.mem_map.mp m
  have := List.all_eq_true.mp h.2 c mc
  unfold colB at *
  have : 0 ≤ c ∧ c ≤ 5 := by simpa using this
  simp; omega
theorem Hy.five {k k' : NK} {h w : Nat} {wp wf : List Int} (y : Hy k k' h w wp wf) : Hy (.lst false) k' h w (five wp) wf := ⟨.inr rfl, y.k2, fit_five y.f1, y.f2, by unfold Wk21.five; rw [List.length_map]; exact y.l1, y.l2, y.d⟩
theorem shows {a : Ad} (o : NeA a) {h w : Nat} {f : Nat → Nat → Bool} {wp wf : List Int} (y : Hy (.lst false) (.lst false) h w wp wf) (t : Int) :
    D__law_shows a.C_Cloth a.C_MillError a.C_BadColours a.C_TooLarge a.C_Mismatch [.nd (.lst false) (rowsD h w f), .nd (.lst false) (wp.map D.int), .nd (.lst false) (wf.map D.int), .v (.int t)] = .ok (.v (.bl true), []) := by
  have mk := makeO (C := a.C_Cloth) (m := .tmp) (f := f) (de := dOp (u1 listD) (dAcons (.vw [0]) [] (dn 0) dAnil)) (s := [.nd (.lst false) (rowsD h w f), .nd (.lst false) (wp.map D.int), .nd (.lst false) (wf.map D.int), .v (.int t), .un, .un, .un, .un]) (s' := [.nd (.lst false) (rowsD h w f), .nd (.lst false) (wp.map D.int), .nd (.lst false) (wf.map D.int), .v (.int t), .un, .un, .un, .un]) y.d (by simp (disch := (first | assumption | omega | (simp only [List.length_map, List.length_range, List.length_append, List.length_reverse, List.length_cons, List.length_nil, rowsD_len, rangeD_len, mkRow_len, bit_len] <;> omega) | fail)) [-u_oInt_1, -u_oInt_2, -u_oInt0_1, List.getElem?_cons_zero, List.getElem?_cons_succ, le_sl, lt_sl, oMod_p, oDiv_p, oMul_p, oSub_p, oPow_p, ixL, ixT, lenL, lenT, lenS, listL, listT, tupL, tupT, revL, mApp, mExt, gR, setN, fldI, fldO, fIx, chkT, dChn, valOk_n, valFree_n, valOk_i, valFree_i, putD_n, putD_0, sForRg, rgGo_s, forL_n, forL_c, rg_0, rg_1, rg_2, rg_3, rg_4])
  have an1 := answered (f := f) o y t
  have an2 := answered (f := f) o y.five (t + 1)
  have tn := turned (f := f) y.d
  have p2 := picture (f := tnF w f) y.turn
  rw [behind_eq y.l1] at p2
  have to := turned_over (C := a.C_Cloth) (f := f) y.d
  have y3 : Hy .tup (.lst false) h w wp.reverse wf := ⟨.inl rfl, .inr rfl, fit_rev y.f1, y.f2, by rw [List.length_reverse]; exact y.l1, y.l2, y.d⟩
  have af := face_ok (a := a) (arg_cloth (h := h) (w := w) (f := tnF w f)) (arg_ints (ws := wp.reverse) (.inl rfl)) (arg_ints (ws := wf) (.inr rfl)) (R := .nd .tup (pic h w (bkF w f wp wf))) (by simp) rfl (by rw [face y3, behind_eq y.l1])
  have h1 := y.d.h1
  have w1 := y.d.w1
  have s2 := same_pic (C := a.C_Cloth) (h := h) (w := w) (p := bkF w f wp wf) (by omega)
  have l1 := y.l1
  have l2 := y.l2
  have co : ∀ c : D, co__law_shows_1 a.C_Cloth a.C_MillError a.C_BadColours a.C_TooLarge a.C_Mismatch [.nd (.lst false) (rowsD h w f), .nd (.lst false) (wp.map D.int), .nd (.lst false) (wf.map D.int), .v (.int t), c, .un, .un, .un] = .ok (.nd (.lst true) ((five wp).map D.int), [.nd (.lst false) (rowsD h w f), .nd (.lst false) (wp.map D.int), .nd (.lst false) (wf.map D.int), .v (.int t), c, .un, .un, .un]) := fun c => by
    unfold co__law_shows_1
    rw [show (five wp).map D.int = wp.map fun c => D.int (5 - c) by unfold five; rw [List.map_map]; rfl]
    refine lcI (l := wp) (enc := D.int) (fun c => D.int (5 - c)) (x := .nd (.lst false) (wp.map D.int)) (s1 := [.nd (.lst false) (rowsD h w f), .nd (.lst false) (wp.map D.int), .nd (.lst false) (wf.map D.int), .v (.int t), c, .un, .un, .un]) (by simp (disch := (first | assumption | omega | (simp only [List.length_map, List.length_range, List.length_append, List.length_reverse, List.length_cons, List.length_nil, rowsD_len, rangeD_len, mkRow_len, bit_len] <;> omega) | fail)) [-u_oInt_1, -u_oInt_2, -u_oInt0_1, List.getElem?_cons_zero, List.getElem?_cons_succ, le_sl, lt_sl, oMod_p, oDiv_p, oMul_p, oSub_p, oPow_p, ixL, ixT, lenL, lenT, lenS, listL, listT, tupL, tupT, revL, mApp, mExt, gR, setN, fldI, fldO, fIx, chkT, dChn, valOk_n, valFree_n, valOk_i, valFree_i, putD_n, putD_0, sForRg, rgGo_s, forL_n, forL_c, rg_0, rg_1, rg_2, rg_3, rg_4]) rfl rfl (by simp) (by omega) rfl fun i mi => ⟨[.nd (.lst false) (rowsD h w f), .nd (.lst false) (wp.map D.int), .nd (.lst false) (wf.map D.int), .v (.int t), c, .un, .un, .v (.int i)], ?_, rfl, rfl⟩
    simp (disch := (first | assumption | omega | (simp only [List.length_map, List.length_range, List.length_append, List.length_reverse, List.length_cons, List.length_nil, rowsD_len, rangeD_len, mkRow_len, bit_len] <;> omega) | fail)) [-u_oInt_1, -u_oInt_2, -u_oInt0_1, List.getElem?_cons_zero, List.getElem?_cons_succ, le_sl, lt_sl, oMod_p, oDiv_p, oMul_p, oSub_p, oPow_p, ixL, ixT, lenL, lenT, lenS, listL, listT, tupL, tupT, revL, mApp, mExt, gR, setN, fldI, fldO, fIx, chkT, dChn, valOk_n, valFree_n, valOk_i, valFree_i, putD_n, putD_0, sForRg, rgGo_s, forL_n, forL_c, rg_0, rg_1, rg_2, rg_3, rg_4, ce__law_shows_1]
  generalize five wp = W5 at *
  have rv : (wp.map D.int).reverse = wp.reverse.map D.int := by rw [List.map_reverse]
  generalize wp.reverse = WR at *
  by_cases hh : (w : Int) * h ≤ 600
  · simp (disch := (first | assumption | omega | (simp only [List.length_map, List.length_range, List.length_append, List.length_reverse, List.length_cons, List.length_nil, rowsD_len, rangeD_len, mkRow_len, bit_len] <;> omega) | fail)) [-u_oInt_1, -u_oInt_2, -u_oInt0_1, List.getElem?_cons_zero, List.getElem?_cons_succ, le_sl, lt_sl, oMod_p, oDiv_p, oMul_p, oSub_p, oPow_p, ixL, ixT, lenL, lenT, lenS, listL, listT, tupL, tupT, revL, mApp, mExt, gR, setN, fldI, fldO, fIx, chkT, dChn, valOk_n, valFree_n, valOk_i, valFree_i, putD_n, putD_0, sForRg, rgGo_s, forL_n, forL_c, rg_0, rg_1, rg_2, rg_3, rg_4, D__law_shows, b__law_shows, if__law_shows_1, if__law_shows_2, if__law_shows_3, mk, an1, an2, tn, p2, to, af, s2, l1, l2, co, hh, rv]
  · simp (disch := (first | assumption | omega | (simp only [List.length_map, List.length_range, List.length_append, List.length_reverse, List.length_cons, List.length_nil, rowsD_len, rangeD_len, mkRow_len, bit_len] <;> omega) | fail)) [-u_oInt_1, -u_oInt_2, -u_oInt0_1, List.getElem?_cons_zero, List.getElem?_cons_succ, le_sl, lt_sl, oMod_p, oDiv_p, oMul_p, oSub_p, oPow_p, ixL, ixT, lenL, lenT, lenS, listL, listT, tupL, tupT, revL, mApp, mExt, gR, setN, fldI, fldO, fIx, chkT, dChn, valOk_n, valFree_n, valOk_i, valFree_i, putD_n, putD_0, sForRg, rgGo_s, forL_n, forL_c, rg_0, rg_1, rg_2, rg_3, rg_4, D__law_shows, b__law_shows, if__law_shows_1, if__law_shows_2, if__law_shows_3, mk, an1, an2, tn, p2, to, af, s2, l1, l2, co, hh, rv]
end Wk21

namespace Wk21
open PySem PySem.Spec PyProof.Rows L2 VS
theorem range_drop {n k : Nat} {y : D} {r : List D} (h : y :: r = (rangeD n).drop k) : k < n ∧ y = .v (.int k) ∧ r = (rangeD n).drop (k + 1) := by
  have hl : k < (rangeD n).length := by
    have := congrArg List.length h
    rw [List.length_cons, List.length_drop] at this
    omega
  rw [List.drop_eq_getElem_cons hl] at h
  injection h with q1 q2
  rw [rangeD_len] at hl
  exact ⟨hl, by rw [q1]; simp [rangeD], q2⟩
theorem range_end {n k : Nat} (hk : k ≤ n) (h : [] = (rangeD n).drop k) : k = n := by
  have := congrArg List.length h
  rw [List.length_nil, List.length_drop, rangeD_len] at this
  omega
end Wk21

namespace Wk21
open PySem PySem.Spec PyProof.Rows L2 VS
/-! ### colours drawn, spoilt -/
theorem colours {N : Nat} {L : List D} {c : Nat} {sp : Int} (hN : N + 100 < BIG) (hx : St N (stN L)) (hc : c ≤ 60) (h0 : 1 ≤ sp) (h1 : sp ≤ 6) :
    ∃ (ws : List Int) (L' : List D), D__law_colours [stN L, .v (.int c), .v (.int sp)] = .ok (.nd (.lst true) (ws.map D.int), [stN L']) ∧ ws.length = c ∧ (∀ x ∈ ws, colB x = true) ∧ St (N + c) (stN L') ∧ D.hass NK.isShr L' = false := by
  have key := lcL_inv (vs := [3]) (g := gdN 3) (c := bYes) (m := .tmp) (e := ce__law_colours_1) (fun r s acc => ∃ (k : Nat) (L1 : List D) (ws : List Int), r = (rangeD c).drop k ∧ k ≤ c ∧ s = [stN L1, .v (.int c), .v (.int sp), .un] ∧ acc = ws.map D.int ∧ ws.length = k ∧ (∀ x ∈ ws, colB x = true) ∧ St (N + k) (stN L1) ∧ D.hass NK.isShr L1 = false) (by
    rintro x r s acc ⟨k, L1, ws, hr, hk, rfl, rfl, hl, hw, hs, hh⟩
    obtain ⟨h2, rfl, hr2⟩ := range_drop hr
    obtain ⟨d, L2, e, d0, d1, hs2, hh2⟩ := drawL (by omega) hs (n := sp) (by omega) (by omega)
    refine ⟨_, rfl, .inl ⟨_, rfl, (.v (.int d), [stN L2, .v (.int c), .v (.int sp), .v (.int k)]), ?_, rfl, k + 1, L2, ws ++ [d], hr2, by omega, rfl, by simp, by simp [hl], ?_, hs2, hh2⟩⟩
    · simp (disch := (first | assumption | omega | (simp only [List.length_map, List.length_range, List.length_append, List.length_reverse, List.length_cons, List.length_nil, rowsD_len, rangeD_len, mkRow_len, bit_len] <;> omega) | fail)) [-u_oInt_1, -u_oInt_2, -u_oInt0_1, List.getElem?_cons_zero, List.getElem?_cons_succ, le_sl, lt_sl, oMod_p, oDiv_p, oMul_p, oSub_p, oPow_p, ixL, ixT, lenL, lenT, lenS, listL, listT, tupL, tupT, revL, mApp, mExt, gR, setN, fldI, fldO, fIx, chkT, dChn, valOk_n, valFree_n, valOk_i, valFree_i, putD_n, putD_0, sForRg, rgGo_s, forL_n, forL_c, rg_0, rg_1, rg_2, rg_3, rg_4, ce__law_colours_1, e, hh2]
    · intro x m
      rcases List.mem_append.mp m with m | m
      · exact hw x m
      · rw [List.mem_singleton.mp m]; simp [colB]; omega) (rangeD c) [stN L, .v (.int c), .v (.int sp), .un] [] ⟨0, L, [], rfl, by omega, rfl, rfl, rfl, (fun _ m => nomatch m), hx, by have := hx.shr; simpa using this⟩
  obtain ⟨⟨xs, s⟩, e, k, L1, ws, hr, hk, hs, ha, hl, hw, hst, hh⟩ := key
  have hk2 := range_end hk hr
  simp only at hs ha
  subst hs
  rw [List.nil_append] at ha
  subst ha
  refine ⟨ws, L1, ?_, by omega, hw, by rw [← hk2]; exact hst, hh⟩
  have co : co__law_colours_1 [stN L, .v (.int c), .v (.int sp), .un] = .ok (.nd (.lst true) (ws.map D.int), [stN L1, .v (.int c), .v (.int sp), .un]) := by
    unfold co__law_colours_1
    rw [lc_rg (s1 := [stN L, .v (.int c), .v (.int sp), .un]) (rgE (n := c) (by simp (disch := (first | assumption | omega | (simp only [List.length_map, List.length_range, List.length_append, List.length_reverse, List.length_cons, List.length_nil, rowsD_len, rangeD_len, mkRow_len, bit_len] <;> omega) | fail)) [-u_oInt_1, -u_oInt_2, -u_oInt0_1, List.getElem?_cons_zero, List.getElem?_cons_succ, le_sl, lt_sl, oMod_p, oDiv_p, oMul_p, oSub_p, oPow_p, ixL, ixT, lenL, lenT, lenS, listL, listT, tupL, tupT, revL, mApp, mExt, gR, setN, fldI, fldO, fIx, chkT, dChn, valOk_n, valFree_n, valOk_i, valFree_i, putD_n, putD_0, sForRg, rgGo_s, forL_n, forL_c, rg_0, rg_1, rg_2, rg_3, rg_4]) (by omega)) (by omega)]
    show (lcL _ _ _ _ _ _ [stN L, .v (.int c), .v (.int sp), .un]).bind _ = _
    rw [e]; rfl
  simp (disch := (first | assumption | omega | (simp only [List.length_map, List.length_range, List.length_append, List.length_reverse, List.length_cons, List.length_nil, rowsD_len, rangeD_len, mkRow_len, bit_len] <;> omega) | fail)) [-u_oInt_1, -u_oInt_2, -u_oInt0_1, List.getElem?_cons_zero, List.getElem?_cons_succ, le_sl, lt_sl, oMod_p, oDiv_p, oMul_p, oSub_p, oPow_p, ixL, ixT, lenL, lenT, lenS, listL, listT, tupL, tupT, revL, mApp, mExt, gR, setN, fldI, fldO, fIx, chkT, dChn, valOk_n, valFree_n, valOk_i, valFree_i, putD_n, putD_0, sForRg, rgGo_s, forL_n, forL_c, rg_0, rg_1, rg_2, rg_3, rg_4, D__law_colours, b__law_colours, co]
theorem fit_of {ws : List Int} (h : ∀ x ∈ ws, colB x = true) (h0 : 1 ≤ ws.length) (h1 : ws.length ≤ 60) : fitB ws = true := by
  unfold fitB
  rw [Bool.and_eq_true, Bool.and_eq_true]
  exact ⟨⟨decide_eq_true (by omega), decide_eq_true (by omega)⟩, List.all_eq_true.mpr h⟩
end Wk21

namespace Wk21
open PySem PySem.Spec PyProof.Rows L2 VS
theorem rep_ints' {o : Bool} {ws : List Int} {k : Nat} (h : ws.length ≤ 60) (hk : k ≤ 1000) : oMul (.nd (.lst o) (ws.map D.int)) (.v (.int (k : Int))) = some (.nd (.lst true) ((List.replicate k ws).flatten.map D.int)) ∧ (List.replicate k ws).flatten.length = k * ws.length := by
  constructor
  · have e : (ws.map D.int).length * (k : Int).toNat ≤ 16777216 := by
      rw [List.length_map, Int.toNat_natCast]
      exact Nat.le_trans (Nat.mul_le_mul h hk) (by decide)
    rw [oMulL (by omega) (by omega) e, Int.toNat_natCast]
    congr 2
    induction k with
    | zero => rfl
    | succ n ih =>
      rw [List.replicate_succ, List.flatten_cons, List.replicate_succ, List.flatten_cons, List.map_append, ih (by omega) ?_]
      exact Nat.le_trans (Nat.mul_le_mul_left _ (by omega)) e
  · simp
theorem sl_ints' {o : Bool} {cs : List Int} {lo hi : Option Int} : slD (.nd (.lst o) (cs.map D.int)) lo hi = some (.nd (.lst true) ((cutL cs lo hi).map D.int)) := by
  unfold slD cutL
  simp
theorem cut_le {cs : List Int} {lo hi : Option Int} : (cutL cs lo hi).length ≤ cs.length := by
  unfold cutL
  rw [List.length_take, List.length_drop]; omega
theorem spoilt {N : Nat} {L : List D} {ws : List Int} (hN : N + 10 < BIG) (hx : St N (stN L)) (h0 : 1 ≤ ws.length) (h1 : ws.length ≤ 60) :
    ∃ (ws' : List Int) (L' : List D), D__law_spoilt [stN L, .nd (.lst false) (ws.map D.int)] = .ok (.nd (.lst true) (ws'.map D.int), [stN L']) ∧ ws'.length ≤ 10000 ∧ St (N + 5) (stN L') ∧ D.hass NK.isShr L' = false := by
  obtain ⟨d, L1, e1, d0, d1, s1, q1⟩ := drawL (by omega) hx (n := 8) (by omega) (by omega)
  obtain ⟨a2, L2, e2, a0, a1, s2, q2⟩ := drawL (by omega) s1 (n := ws.length) (by omega) (by omega)
  obtain ⟨m3, L3, e3, m0, m1, s3, q3⟩ := drawL (by omega) s2 (n := 1000000000) (by omega) (by omega)
  obtain ⟨k4, L4, e4, k0, k1, s4, q4⟩ := drawL (by omega) s3 (n := 7) (by omega) (by omega)
  obtain ⟨r5, L5, e5, r0, r1, s5, q5⟩ := drawL (by omega) s1 (n := 60) (by omega) (by omega)
  obtain ⟨r6, L6, e6, t0, t1, s6, q6⟩ := drawL (by omega) s1 (n := 6) (by omega) (by omega)
  have p : ∃ z, ixD (.nd (.lst true) [.v (.int 6), .v (.int (-1)), .v (.int (-6)), .v (.int (6 + m3)), .v (.int (-1 - m3)), .v (.int 100000000000000000000000000000000000000000000000000000000000), .v (.int (-100000000000000000000000000000000000000000000000000000000000))]) (.v (.int k4)) = some (.v (.int z)) := by
    have : k4 = 0 ∨ k4 = 1 ∨ k4 = 2 ∨ k4 = 3 ∨ k4 = 4 ∨ k4 = 5 ∨ k4 = 6 := by omega
    rcases this with rfl | rfl | rfl | rfl | rfl | rfl | rfl <;> exact ⟨_, rfl⟩
  obtain ⟨z, p⟩ := p
  obtain ⟨m120, l120⟩ := rep_ints' (o := true) (ws := ws) (k := 120) h1 (by omega)
  obtain ⟨m60, l60⟩ := rep_ints' (o := true) (ws := ws) (k := 60) h1 (by omega)
  have m120 : oMul (.nd (.lst true) (ws.map D.int)) (.v (.int 120)) = _ := m120
  have m60 : oMul (.nd (.lst true) (ws.map D.int)) (.v (.int 60)) = _ := m60
  have ixa : ixN ws.length a2 = some a2.toNat := ixN_pos a0 a1
  have sint : ∀ n v, (ws.map D.int).set n (.v (.int v)) = (ws.set n v).map D.int := fun n v => by rw [List.map_set]
  generalize (List.replicate 120 ws).flatten = R1 at *
  generalize (List.replicate 60 ws).flatten = R2 at *
  have hd : d = 0 ∨ d = 1 ∨ d = 2 ∨ d = 3 ∨ d = 4 ∨ d = 5 ∨ d = 6 ∨ d = 7 := by omega
  rcases hd with rfl | rfl | rfl | rfl | rfl | rfl | rfl | rfl
  · refine ⟨ws.set a2.toNat z, L4, ?_, by simp; omega, s4.le (by omega), q4⟩
    simp (disch := (first | assumption | omega | (simp only [List.length_map, List.length_range, List.length_append, List.length_reverse, List.length_cons, List.length_nil, rowsD_len, rangeD_len, mkRow_len, bit_len] <;> omega) | fail)) [-u_oInt_1, -u_oInt_2, -u_oInt0_1, List.getElem?_cons_zero, List.getElem?_cons_succ, le_sl, lt_sl, oMod_p, oDiv_p, oMul_p, oSub_p, oPow_p, ixL, ixT, lenL, lenT, lenS, listL, listT, tupL, tupT, revL, mApp, mExt, gR, setN, fldI, fldO, fIx, chkT, dChn, valOk_n, valFree_n, valOk_i, valFree_i, putD_n, putD_0, sForRg, rgGo_s, forL_n, forL_c, rg_0, rg_1, rg_2, rg_3, rg_4, D__law_spoilt, b__law_spoilt, if__law_spoilt_1, if__law_spoilt_2, if__law_spoilt_3, if__law_spoilt_4, if__law_spoilt_5, if__law_spoilt_6, e1, e2, e3, e4, q1, q2, q3, q4, p, ixa, oNeg, -List.map_set, sint]
  · refine ⟨[], L1, ?_, by simp, s1.le (by omega), q1⟩
    simp (disch := (first | assumption | omega | (simp only [List.length_map, List.length_range, List.length_append, List.length_reverse, List.length_cons, List.length_nil, rowsD_len, rangeD_len, mkRow_len, bit_len] <;> omega) | fail)) [-u_oInt_1, -u_oInt_2, -u_oInt0_1, List.getElem?_cons_zero, List.getElem?_cons_succ, le_sl, lt_sl, oMod_p, oDiv_p, oMul_p, oSub_p, oPow_p, ixL, ixT, lenL, lenT, lenS, listL, listT, tupL, tupT, revL, mApp, mExt, gR, setN, fldI, fldO, fIx, chkT, dChn, valOk_n, valFree_n, valOk_i, valFree_i, putD_n, putD_0, sForRg, rgGo_s, forL_n, forL_c, rg_0, rg_1, rg_2, rg_3, rg_4, D__law_spoilt, b__law_spoilt, if__law_spoilt_1, if__law_spoilt_2, if__law_spoilt_3, if__law_spoilt_4, if__law_spoilt_5, if__law_spoilt_6, e1, q1]
  · have := cut_le (cs := R1) (lo := none) (hi := some (61 + r5))
    refine ⟨cutL R1 none (some (61 + r5)), L5, ?_, by omega, s5.le (by omega), q5⟩
    simp (disch := (first | assumption | omega | (simp only [List.length_map, List.length_range, List.length_append, List.length_reverse, List.length_cons, List.length_nil, rowsD_len, rangeD_len, mkRow_len, bit_len] <;> omega) | fail)) [-u_oInt_1, -u_oInt_2, -u_oInt0_1, List.getElem?_cons_zero, List.getElem?_cons_succ, le_sl, lt_sl, oMod_p, oDiv_p, oMul_p, oSub_p, oPow_p, ixL, ixT, lenL, lenT, lenS, listL, listT, tupL, tupT, revL, mApp, mExt, gR, setN, fldI, fldO, fIx, chkT, dChn, valOk_n, valFree_n, valOk_i, valFree_i, putD_n, putD_0, sForRg, rgGo_s, forL_n, forL_c, rg_0, rg_1, rg_2, rg_3, rg_4, D__law_spoilt, b__law_spoilt, if__law_spoilt_1, if__law_spoilt_2, if__law_spoilt_3, if__law_spoilt_4, if__law_spoilt_5, if__law_spoilt_6, e1, q1, e5, q5, m120, sl_ints', fS01]
  · have := cut_le (cs := R2) (lo := none) (hi := some 60)
    refine ⟨cutL R2 none (some 60), L1, ?_, by omega, s1.le (by omega), q1⟩
    simp (disch := (first | assumption | omega | (simp only [List.length_map, List.length_range, List.length_append, List.length_reverse, List.length_cons, List.length_nil, rowsD_len, rangeD_len, mkRow_len, bit_len] <;> omega) | fail)) [-u_oInt_1, -u_oInt_2, -u_oInt0_1, List.getElem?_cons_zero, List.getElem?_cons_succ, le_sl, lt_sl, oMod_p, oDiv_p, oMul_p, oSub_p, oPow_p, ixL, ixT, lenL, lenT, lenS, listL, listT, tupL, tupT, revL, mApp, mExt, gR, setN, fldI, fldO, fIx, chkT, dChn, valOk_n, valFree_n, valOk_i, valFree_i, putD_n, putD_0, sForRg, rgGo_s, forL_n, forL_c, rg_0, rg_1, rg_2, rg_3, rg_4, D__law_spoilt, b__law_spoilt, if__law_spoilt_1, if__law_spoilt_2, if__law_spoilt_3, if__law_spoilt_4, if__law_spoilt_5, if__law_spoilt_6, e1, q1, m60, sl_ints', fS01]
  · refine ⟨ws ++ [r6], L6, ?_, by simp; omega, s6.le (by omega), q6⟩
    simp (disch := (first | assumption | omega | (simp only [List.length_map, List.length_range, List.length_append, List.length_reverse, List.length_cons, List.length_nil, rowsD_len, rangeD_len, mkRow_len, bit_len] <;> omega) | fail)) [-u_oInt_1, -u_oInt_2, -u_oInt0_1, List.getElem?_cons_zero, List.getElem?_cons_succ, le_sl, lt_sl, oMod_p, oDiv_p, oMul_p, oSub_p, oPow_p, ixL, ixT, lenL, lenT, lenS, listL, listT, tupL, tupT, revL, mApp, mExt, gR, setN, fldI, fldO, fIx, chkT, dChn, valOk_n, valFree_n, valOk_i, valFree_i, putD_n, putD_0, sForRg, rgGo_s, forL_n, forL_c, rg_0, rg_1, rg_2, rg_3, rg_4, D__law_spoilt, b__law_spoilt, if__law_spoilt_1, if__law_spoilt_2, if__law_spoilt_3, if__law_spoilt_4, if__law_spoilt_5, if__law_spoilt_6, e1, q1, e6, q6]
  · have := cut_le (cs := ws) (lo := some 1) (hi := none)
    refine ⟨cutL ws (some 1) none, L1, ?_, by omega, s1.le (by omega), q1⟩
    simp (disch := (first | assumption | omega | (simp only [List.length_map, List.length_range, List.length_append, List.length_reverse, List.length_cons, List.length_nil, rowsD_len, rangeD_len, mkRow_len, bit_len] <;> omega) | fail)) [-u_oInt_1, -u_oInt_2, -u_oInt0_1, List.getElem?_cons_zero, List.getElem?_cons_succ, le_sl, lt_sl, oMod_p, oDiv_p, oMul_p, oSub_p, oPow_p, ixL, ixT, lenL, lenT, lenS, listL, listT, tupL, tupT, revL, mApp, mExt, gR, setN, fldI, fldO, fIx, chkT, dChn, valOk_n, valFree_n, valOk_i, valFree_i, putD_n, putD_0, sForRg, rgGo_s, forL_n, forL_c, rg_0, rg_1, rg_2, rg_3, rg_4, D__law_spoilt, b__law_spoilt, if__law_spoilt_1, if__law_spoilt_2, if__law_spoilt_3, if__law_spoilt_4, if__law_spoilt_5, if__law_spoilt_6, e1, q1, sl_ints', fS10]
  · refine ⟨ws, L1, ?_, by omega, s1.le (by omega), q1⟩
    simp (disch := (first | assumption | omega | (simp only [List.length_map, List.length_range, List.length_append, List.length_reverse, List.length_cons, List.length_nil, rowsD_len, rangeD_len, mkRow_len, bit_len] <;> omega) | fail)) [-u_oInt_1, -u_oInt_2, -u_oInt0_1, List.getElem?_cons_zero, List.getElem?_cons_succ, le_sl, lt_sl, oMod_p, oDiv_p, oMul_p, oSub_p, oPow_p, ixL, ixT, lenL, lenT, lenS, listL, listT, tupL, tupT, revL, mApp, mExt, gR, setN, fldI, fldO, fIx, chkT, dChn, valOk_n, valFree_n, valOk_i, valFree_i, putD_n, putD_0, sForRg, rgGo_s, forL_n, forL_c, rg_0, rg_1, rg_2, rg_3, rg_4, D__law_spoilt, b__law_spoilt, if__law_spoilt_1, if__law_spoilt_2, if__law_spoilt_3, if__law_spoilt_4, if__law_spoilt_5, if__law_spoilt_6, e1, q1]
  · refine ⟨ws, L1, ?_, by omega, s1.le (by omega), q1⟩
    simp (disch := (first | assumption | omega | (simp only [List.length_map, List.length_range, List.length_append, List.length_reverse, List.length_cons, List.length_nil, rowsD_len, rangeD_len, mkRow_len, bit_len] <;> omega) | fail)) [-u_oInt_1, -u_oInt_2, -u_oInt0_1, List.getElem?_cons_zero, List.getElem?_cons_succ, le_sl, lt_sl, oMod_p, oDiv_p, oMul_p, oSub_p, oPow_p, ixL, ixT, lenL, lenT, lenS, listL, listT, tupL, tupT, revL, mApp, mExt, gR, setN, fldI, fldO, fIx, chkT, dChn, valOk_n, valFree_n, valOk_i, valFree_i, putD_n, putD_0, sForRg, rgGo_s, forL_n, forL_c, rg_0, rg_1, rg_2, rg_3, rg_4, D__law_spoilt, b__law_spoilt, if__law_spoilt_1, if__law_spoilt_2, if__law_spoilt_3, if__law_spoilt_4, if__law_spoilt_5, if__law_spoilt_6, e1, q1]
end Wk21

namespace Wk21
open PySem PySem.Spec PyProof.Rows L2 VS
/-! ### the word that is due -/
theorem wd_co {ws : List Int} {x y z u : D} (hl : ws.length ≤ 10000) : co__law_word_due_1 [x, y, z, u, .nd (.lst false) (ws.map D.int), .un] = .ok (.nd (.lst true) ((ws.filter fun c => !colB c).map fun _ => D.int 1), [x, y, z, u, .nd (.lst false) (ws.map D.int), .un]) := by
  have key := lcL_filter (vs := [5]) (g := gdN 5) (c := dTnot (dChn leD leD (dc (.int 0)) (dn 5) (dc (.int 5)))) (m := .tmp) (e := ce__law_word_due_1) (s := [x, y, z, u, .nd (.lst false) (ws.map D.int), .un]) (enc := D.int) (F := fun _ => D.int 1) (p := fun c => !colB c) ws (by
    intro c _
    refine ⟨[x, y, z, u, .nd (.lst false) (ws.map D.int), .v (.int c)], rfl, ?_⟩
    unfold colB
    by_cases h0 : 0 ≤ c
    · by_cases h5 : c ≤ 5
      · refine .inr ⟨by simp [h0, h5], [x, y, z, u, .nd (.lst false) (ws.map D.int), .v (.int c)], ?_, rfl⟩
        simp (disch := (first | assumption | omega | (simp only [List.length_map, List.length_range, List.length_append, List.length_reverse, List.length_cons, List.length_nil, rowsD_len, rangeD_len, mkRow_len, bit_len] <;> omega) | fail)) [-u_oInt_1, -u_oInt_2, -u_oInt0_1, List.getElem?_cons_zero, List.getElem?_cons_succ, le_sl, lt_sl, oMod_p, oDiv_p, oMul_p, oSub_p, oPow_p, ixL, ixT, lenL, lenT, lenS, listL, listT, tupL, tupT, revL, mApp, mExt, gR, setN, fldI, fldO, fIx, chkT, dChn, valOk_n, valFree_n, valOk_i, valFree_i, putD_n, putD_0, sForRg, rgGo_s, forL_n, forL_c, rg_0, rg_1, rg_2, rg_3, rg_4, h0, h5]
      · refine .inl ⟨by simp [h0, h5], [x, y, z, u, .nd (.lst false) (ws.map D.int), .v (.int c)], [x, y, z, u, .nd (.lst false) (ws.map D.int), .v (.int c)], ?_, rfl, rfl, rfl⟩
        simp (disch := (first | assumption | omega | (simp only [List.length_map, List.length_range, List.length_append, List.length_reverse, List.length_cons, List.length_nil, rowsD_len, rangeD_len, mkRow_len, bit_len] <;> omega) | fail)) [-u_oInt_1, -u_oInt_2, -u_oInt0_1, List.getElem?_cons_zero, List.getElem?_cons_succ, le_sl, lt_sl, oMod_p, oDiv_p, oMul_p, oSub_p, oPow_p, ixL, ixT, lenL, lenT, lenS, listL, listT, tupL, tupT, revL, mApp, mExt, gR, setN, fldI, fldO, fIx, chkT, dChn, valOk_n, valFree_n, valOk_i, valFree_i, putD_n, putD_0, sForRg, rgGo_s, forL_n, forL_c, rg_0, rg_1, rg_2, rg_3, rg_4, h0, h5]
    · refine .inl ⟨by simp [h0], [x, y, z, u, .nd (.lst false) (ws.map D.int), .v (.int c)], [x, y, z, u, .nd (.lst false) (ws.map D.int), .v (.int c)], ?_, rfl, rfl, rfl⟩
      simp (disch := (first | assumption | omega | (simp only [List.length_map, List.length_range, List.length_append, List.length_reverse, List.length_cons, List.length_nil, rowsD_len, rangeD_len, mkRow_len, bit_len] <;> omega) | fail)) [-u_oInt_1, -u_oInt_2, -u_oInt0_1, List.getElem?_cons_zero, List.getElem?_cons_succ, le_sl, lt_sl, oMod_p, oDiv_p, oMul_p, oSub_p, oPow_p, ixL, ixT, lenL, lenT, lenS, listL, listT, tupL, tupT, revL, mApp, mExt, gR, setN, fldI, fldO, fIx, chkT, dChn, valOk_n, valFree_n, valOk_i, valFree_i, putD_n, putD_0, sForRg, rgGo_s, forL_n, forL_c, rg_0, rg_1, rg_2, rg_3, rg_4, h0])
  have hz : ws.length ≤ sizeLine := by rw [sizeLine_eq]; omega
  unfold co__law_word_due_1 dLc dIt
  simp (disch := (first | assumption | omega | (simp only [List.length_map, List.length_range, List.length_append, List.length_reverse, List.length_cons, List.length_nil, rowsD_len, rangeD_len, mkRow_len, bit_len] <;> omega) | fail)) [-u_oInt_1, -u_oInt_2, -u_oInt0_1, List.getElem?_cons_zero, List.getElem?_cons_succ, le_sl, lt_sl, oMod_p, oDiv_p, oMul_p, oSub_p, oPow_p, ixL, ixT, lenL, lenT, lenS, listL, listT, tupL, tupT, revL, mApp, mExt, gR, setN, fldI, fldO, fIx, chkT, dChn, valOk_n, valFree_n, valOk_i, valFree_i, putD_n, putD_0, sForRg, rgGo_s, forL_n, forL_c, rg_0, rg_1, rg_2, rg_3, rg_4, D.items, key, hz]
theorem wd_body {ws : List Int} {x y z u v : D} (hl : ws.length ≤ 10000) :
    (fitB ws = true → fb__law_word_due_1 [x, y, z, u, .nd (.lst false) (ws.map D.int), .un] = .nx [x, y, z, u, .nd (.lst false) (ws.map D.int), .un]) ∧
    (fitB ws = false → fb__law_word_due_1 [x, y, z, u, .nd (.lst false) (ws.map D.int), .un] = .rt (.v (.str "BadColours")) [x, y, z, u, .nd (.lst false) (ws.map D.int), .un]) := by
  have co := wd_co (x := x) (y := y) (z := z) (u := u) hl
  have hf : fitB ws = (((decide ((1 : Int) ≤ ws.length) && decide ((ws.length : Int) ≤ 60))) && decide (((ws.filter fun c => !colB c).length : Int) = 0)) := by
    unfold fitB
    congr 1
    cases h : ws.all colB with
    | true =>
      have : (ws.filter fun c => !colB c) = [] := List.filter_eq_nil_iff.mpr fun c m => by simp [List.all_eq_true.mp h c m]
      rw [this]; rfl
    | false =>
      obtain ⟨c, m, hc⟩ := List.all_eq_false.mp h
      have : c ∈ ws.filter fun c => !colB c := List.mem_filter.mpr ⟨m, by simp [hc]⟩
      have := List.length_pos_of_mem this
      symm; rw [decide_eq_false_iff_not]; omega
  rw [hf]
  generalize (ws.filter fun c => !colB c) = FL at *
  have fl : (0 : Int) ≤ FL.length := by omega
  by_cases h1 : (1 : Int) ≤ ws.length
  · by_cases h2 : (ws.length : Int) ≤ 60
    · by_cases h3 : FL = []
      · subst h3
        constructor
        · intro _
          simp (disch := (first | assumption | omega | (simp only [List.length_map, List.length_range, List.length_append, List.length_reverse, List.length_cons, List.length_nil, rowsD_len, rangeD_len, mkRow_len, bit_len] <;> omega) | fail)) [-u_oInt_1, -u_oInt_2, -u_oInt0_1, List.getElem?_cons_zero, List.getElem?_cons_succ, le_sl, lt_sl, oMod_p, oDiv_p, oMul_p, oSub_p, oPow_p, ixL, ixT, lenL, lenT, lenS, listL, listT, tupL, tupT, revL, mApp, mExt, gR, setN, fldI, fldO, fIx, chkT, dChn, valOk_n, valFree_n, valOk_i, valFree_i, putD_n, putD_0, sForRg, rgGo_s, forL_n, forL_c, rg_0, rg_1, rg_2, rg_3, rg_4, fb__law_word_due_1, if__law_word_due_1, co, h1, h2]
        · intro h; simp [h1, h2] at h
      · constructor
        · intro h; simp [h1, h2, h3] at h
        · intro _
          have h5 := List.length_pos_iff.mpr h3
          have h4 : (0 : Int) < FL.length := by omega
          simp (disch := (first | assumption | omega | (simp only [List.length_map, List.length_range, List.length_append, List.length_reverse, List.length_cons, List.length_nil, rowsD_len, rangeD_len, mkRow_len, bit_len] <;> omega) | fail)) [-u_oInt_1, -u_oInt_2, -u_oInt0_1, List.getElem?_cons_zero, List.getElem?_cons_succ, le_sl, lt_sl, oMod_p, oDiv_p, oMul_p, oSub_p, oPow_p, ixL, ixT, lenL, lenT, lenS, listL, listT, tupL, tupT, revL, mApp, mExt, gR, setN, fldI, fldO, fIx, chkT, dChn, valOk_n, valFree_n, valOk_i, valFree_i, putD_n, putD_0, sForRg, rgGo_s, forL_n, forL_c, rg_0, rg_1, rg_2, rg_3, rg_4, fb__law_word_due_1, if__law_word_due_1, co, h1, h2, h3]
    · constructor
      · intro h; simp [h1, h2] at h
      · intro _
        simp (disch := (first | assumption | omega | (simp only [List.length_map, List.length_range, List.length_append, List.length_reverse, List.length_cons, List.length_nil, rowsD_len, rangeD_len, mkRow_len, bit_len] <;> omega) | fail)) [-u_oInt_1, -u_oInt_2, -u_oInt0_1, List.getElem?_cons_zero, List.getElem?_cons_succ, le_sl, lt_sl, oMod_p, oDiv_p, oMul_p, oSub_p, oPow_p, ixL, ixT, lenL, lenT, lenS, listL, listT, tupL, tupT, revL, mApp, mExt, gR, setN, fldI, fldO, fIx, chkT, dChn, valOk_n, valFree_n, valOk_i, valFree_i, putD_n, putD_0, sForRg, rgGo_s, forL_n, forL_c, rg_0, rg_1, rg_2, rg_3, rg_4, fb__law_word_due_1, if__law_word_due_1, co, h1, h2]
  · constructor
    · intro h; simp [h1] at h
    · intro _
      simp (disch := (first | assumption | omega | (simp only [List.length_map, List.length_range, List.length_append, List.length_reverse, List.length_cons, List.length_nil, rowsD_len, rangeD_len, mkRow_len, bit_len] <;> omega) | fail)) [-u_oInt_1, -u_oInt_2, -u_oInt0_1, List.getElem?_cons_zero, List.getElem?_cons_succ, le_sl, lt_sl, oMod_p, oDiv_p, oMul_p, oSub_p, oPow_p, ixL, ixT, lenL, lenT, lenS, listL, listT, tupL, tupT, revL, mApp, mExt, gR, setN, fldI, fldO, fIx, chkT, dChn, valOk_n, valFree_n, valOk_i, valFree_i, putD_n, putD_0, sForRg, rgGo_s, forL_n, forL_c, rg_0, rg_1, rg_2, rg_3, rg_4, fb__law_word_due_1, if__law_word_due_1, co, h1]
def wordD (h w : Nat) (wp wf : List Int) : Str := if (fitB wp && fitB wf) = true then (if wp.length = w ∧ wf.length = h then "" else "Mismatch") else "BadColours"
theorem word_due {h w : Nat} {wp wf : List Int} (h1 : wp.length ≤ 10000) (h2 : wf.length ≤ 10000) :
    D__law_word_due [.v (.int h), .v (.int w), .nd (.lst false) (wp.map D.int), .nd (.lst false) (wf.map D.int)] = .ok (.v (.str (wordD h w wp wf)), []) := by
  obtain ⟨p1, p2⟩ := wd_body (x := .v (.int h)) (y := .v (.int w)) (z := .nd (.lst false) (wp.map D.int)) (u := .nd (.lst false) (wf.map D.int)) (v := .un) h1
  obtain ⟨q1, q2⟩ := wd_body (x := .v (.int h)) (y := .v (.int w)) (z := .nd (.lst false) (wp.map D.int)) (u := .nd (.lst false) (wf.map D.int)) (v := .un) h2
  unfold wordD
  cases e1 : fitB wp with
  | false => simp (disch := (first | assumption | omega | (simp only [List.length_map, List.length_range, List.length_append, List.length_reverse, List.length_cons, List.length_nil, rowsD_len, rangeD_len, mkRow_len, bit_len] <;> omega) | fail)) [-u_oInt_1, -u_oInt_2, -u_oInt0_1, List.getElem?_cons_zero, List.getElem?_cons_succ, le_sl, lt_sl, oMod_p, oDiv_p, oMul_p, oSub_p, oPow_p, ixL, ixT, lenL, lenT, lenS, listL, listT, tupL, tupT, revL, mApp, mExt, gR, setN, fldI, fldO, fIx, chkT, dChn, valOk_n, valFree_n, valOk_i, valFree_i, putD_n, putD_0, sForRg, rgGo_s, forL_n, forL_c, rg_0, rg_1, rg_2, rg_3, rg_4, D__law_word_due, b__law_word_due, fo__law_word_due_1, sFor, dIt, D.items, p2 e1]
  | true =>
    cases e2 : fitB wf with
    | false => simp (disch := (first | assumption | omega | (simp only [List.length_map, List.length_range, List.length_append, List.length_reverse, List.length_cons, List.length_nil, rowsD_len, rangeD_len, mkRow_len, bit_len] <;> omega) | fail)) [-u_oInt_1, -u_oInt_2, -u_oInt0_1, List.getElem?_cons_zero, List.getElem?_cons_succ, le_sl, lt_sl, oMod_p, oDiv_p, oMul_p, oSub_p, oPow_p, ixL, ixT, lenL, lenT, lenS, listL, listT, tupL, tupT, revL, mApp, mExt, gR, setN, fldI, fldO, fIx, chkT, dChn, valOk_n, valFree_n, valOk_i, valFree_i, putD_n, putD_0, sForRg, rgGo_s, forL_n, forL_c, rg_0, rg_1, rg_2, rg_3, rg_4, D__law_word_due, b__law_word_due, fo__law_word_due_1, sFor, dIt, D.items, p1 e1, q2 e2]
    | true =>
      by_cases l1 : (wp.length : Int) = w
      · have l1' : wp.length = w := by omega
        by_cases l2 : (wf.length : Int) = h
        · have l2' : wf.length = h := by omega
          simp (disch := (first | assumption | omega | (simp only [List.length_map, List.length_range, List.length_append, List.length_reverse, List.length_cons, List.length_nil, rowsD_len, rangeD_len, mkRow_len, bit_len] <;> omega) | fail)) [-u_oInt_1, -u_oInt_2, -u_oInt0_1, List.getElem?_cons_zero, List.getElem?_cons_succ, le_sl, lt_sl, oMod_p, oDiv_p, oMul_p, oSub_p, oPow_p, ixL, ixT, lenL, lenT, lenS, listL, listT, tupL, tupT, revL, mApp, mExt, gR, setN, fldI, fldO, fIx, chkT, dChn, valOk_n, valFree_n, valOk_i, valFree_i, putD_n, putD_0, sForRg, rgGo_s, forL_n, forL_c, rg_0, rg_1, rg_2, rg_3, rg_4, D__law_word_due, b__law_word_due, fo__law_word_due_1, if__law_word_due_2, sFor, dIt, D.items, p1 e1, q1 e2, l1, l2, l1', l2']
        · have l2' : ¬ wf.length = h := by omega
          simp (disch := (first | assumption | omega | (simp only [List.length_map, List.length_range, List.length_append, List.length_reverse, List.length_cons, List.length_nil, rowsD_len, rangeD_len, mkRow_len, bit_len] <;> omega) | fail)) [-u_oInt_1, -u_oInt_2, -u_oInt0_1, List.getElem?_cons_zero, List.getElem?_cons_succ, le_sl, lt_sl, oMod_p, oDiv_p, oMul_p, oSub_p, oPow_p, ixL, ixT, lenL, lenT, lenS, listL, listT, tupL, tupT, revL, mApp, mExt, gR, setN, fldI, fldO, fIx, chkT, dChn, valOk_n, valFree_n, valOk_i, valFree_i, putD_n, putD_0, sForRg, rgGo_s, forL_n, forL_c, rg_0, rg_1, rg_2, rg_3, rg_4, D__law_word_due, b__law_word_due, fo__law_word_due_1, if__law_word_due_2, sFor, dIt, D.items, p1 e1, q1 e2, l1, l2, l1', l2']
      · have l1' : ¬ wp.length = w := by omega
        simp (disch := (first | assumption | omega | (simp only [List.length_map, List.length_range, List.length_append, List.length_reverse, List.length_cons, List.length_nil, rowsD_len, rangeD_len, mkRow_len, bit_len] <;> omega) | fail)) [-u_oInt_1, -u_oInt_2, -u_oInt0_1, List.getElem?_cons_zero, List.getElem?_cons_succ, le_sl, lt_sl, oMod_p, oDiv_p, oMul_p, oSub_p, oPow_p, ixL, ixT, lenL, lenT, lenS, listL, listT, tupL, tupT, revL, mApp, mExt, gR, setN, fldI, fldO, fIx, chkT, dChn, valOk_n, valFree_n, valOk_i, valFree_i, putD_n, putD_0, sForRg, rgGo_s, forL_n, forL_c, rg_0, rg_1, rg_2, rg_3, rg_4, D__law_word_due, b__law_word_due, fo__law_word_due_1, if__law_word_due_2, sFor, dIt, D.items, p1 e1, q1 e2, l1, l1']
end Wk21

namespace Wk21
open PySem PySem.Spec PyProof.Rows L2 VS
theorem refused {a : Ad} (o : NeA a) {h w : Nat} {f : Nat → Nat → Bool} {wp0 wf0 wp wf : List Int} (y0 : Hy (.lst false) (.lst false) h w wp0 wf0) (h1 : wp.length ≤ 10000) (h2 : wf.length ≤ 10000) (t : Int) :
    D__law_refused a.C_Cloth a.C_MillError a.C_BadColours a.C_TooLarge a.C_Mismatch [.nd (.lst false) (rowsD h w f), .nd (.lst false) (wp.map D.int), .nd (.lst false) (wf.map D.int), .nd (.lst false) [.nd (.lst false) (wp0.map D.int), .nd (.lst false) (wf0.map D.int)], .v (.int t)] = .ok (.v (.bl true), []) := by
  have wd := word_due (h := h) (w := w) h1 h2
  have g0 := rowsD_get (w := w) (f := f) y0.d.h0
  have w1 := y0.d.w1
  have lr := len_row (w := w) (f := f 0) (by omega)
  have mk := make (C := a.C_Cloth) (k := .tup) (m := .tmp) (f := f) (de := dOp (u1 tupD) (dAcons (.vw [0]) [] (dn 0) dAnil)) (s := [.nd (.lst false) (rowsD h w f), .nd (.lst false) (wp.map D.int), .nd (.lst false) (wf.map D.int), .nd (.lst false) [.nd (.lst false) (wp0.map D.int), .nd (.lst false) (wf0.map D.int)], .v (.int t), .v (.str (wordD h w wp wf)), .un, .un, .un, .un]) (s' := [.nd (.lst false) (rowsD h w f), .nd (.lst false) (wp.map D.int), .nd (.lst false) (wf.map D.int), .nd (.lst false) [.nd (.lst false) (wp0.map D.int), .nd (.lst false) (wf0.map D.int)], .v (.int t), .v (.str (wordD h w wp wf)), .un, .un, .un, .un]) (.inl rfl) y0.d (by simp (disch := (first | assumption | omega | (simp only [List.length_map, List.length_range, List.length_append, List.length_reverse, List.length_cons, List.length_nil, rowsD_len, rangeD_len, mkRow_len, bit_len] <;> omega) | fail)) [-u_oInt_1, -u_oInt_2, -u_oInt0_1, List.getElem?_cons_zero, List.getElem?_cons_succ, le_sl, lt_sl, oMod_p, oDiv_p, oMul_p, oSub_p, oPow_p, ixL, ixT, lenL, lenT, lenS, listL, listT, tupL, tupT, revL, mApp, mExt, gR, setN, fldI, fldO, fIx, chkT, dChn, valOk_n, valFree_n, valOk_i, valFree_i, putD_n, putD_0, sForRg, rgGo_s, forL_n, forL_c, rg_0, rg_1, rg_2, rg_3, rg_4])
  have an := answered (f := f) o y0 (t + 1)
  obtain ⟨b, c, hd⟩ := handed (wp := wp) (wf := wf) t
  have Ac := arg_cloth (C := a.C_Cloth) (h := h) (w := w) (f := f)
  have A1 := arg_ints (ws := wp) (kd_k b)
  have A2 := arg_ints (ws := wf) (kd_k c)
  unfold wordD at wd mk
  by_cases e1 : fitB wp = true ∧ fitB wf = true
  · obtain ⟨f1, f2⟩ := e1
    by_cases e2 : wp.length = w ∧ wf.length = h
    · have sh := shows (f := f) o ⟨.inr rfl, .inr rfl, f1, f2, e2.1, e2.2, y0.d⟩ t
      simp only [f1, f2, e2, Bool.and_self, if_true, and_self] at wd
      simp (disch := (first | assumption | omega | (simp only [List.length_map, List.length_range, List.length_append, List.length_reverse, List.length_cons, List.length_nil, rowsD_len, rangeD_len, mkRow_len, bit_len] <;> omega) | fail)) [-u_oInt_1, -u_oInt_2, -u_oInt0_1, List.getElem?_cons_zero, List.getElem?_cons_succ, le_sl, lt_sl, oMod_p, oDiv_p, oMul_p, oSub_p, oPow_p, ixL, ixT, lenL, lenT, lenS, listL, listT, tupL, tupT, revL, mApp, mExt, gR, setN, fldI, fldO, fIx, chkT, dChn, valOk_n, valFree_n, valOk_i, valFree_i, putD_n, putD_0, sForRg, rgGo_s, forL_n, forL_c, rg_0, rg_1, rg_2, rg_3, rg_4, D__law_refused, b__law_refused, if__law_refused_1, g0, lr, wd, sh]
    · have ck := check_mm (C := a.C_Cloth) (B := a.C_BadColours) (M := a.C_Mismatch) (f := f) (kd_k b) (kd_k c) f1 f2 (h := h) (w := w) (by omega)
      have as := answers (a := a) Ac A1 A2 t (face_mm o Ac A1 A2 (face_ex Ac A1 A2 ck)) (back_mm o Ac A1 A2 (back_ex Ac A1 A2 ck)) (hidden_mm o Ac A1 A2 (hidden_ex Ac A1 A2 ck))
      simp only [f1, f2, e2, Bool.and_self, if_true, if_false] at wd mk
      have ne : ("Mismatch" : Str) ≠ "" := by decide +kernel
      simp (disch := (first | assumption | omega | (simp only [List.length_map, List.length_range, List.length_append, List.length_reverse, List.length_cons, List.length_nil, rowsD_len, rangeD_len, mkRow_len, bit_len] <;> omega) | fail)) [-u_oInt_1, -u_oInt_2, -u_oInt0_1, List.getElem?_cons_zero, List.getElem?_cons_succ, le_sl, lt_sl, oMod_p, oDiv_p, oMul_p, oSub_p, oPow_p, ixL, ixT, lenL, lenT, lenS, listL, listT, tupL, tupT, revL, mApp, mExt, gR, setN, fldI, fldO, fIx, chkT, dChn, valOk_n, valFree_n, valOk_i, valFree_i, putD_n, putD_0, sForRg, rgGo_s, forL_n, forL_c, rg_0, rg_1, rg_2, rg_3, rg_4, D__law_refused, b__law_refused, if__law_refused_1, if__law_refused_2, if__law_refused_3, fo__law_refused_1, fb__law_refused_1, g0, lr, wd, mk, hd, as, an, lt_fz, lt_un, lt_list, lt_shr, ne_intsL, ne]
  · have hb : fitB wp = false ∨ fitB wf = false := by
      cases p : fitB wp <;> cases q : fitB wf <;> simp [p, q] at e1 ⊢
    have hb2 : (fitB wp && fitB wf) = false := by rcases hb with q | q <;> simp [q]
    have ck := check_bc (C := a.C_Cloth) (B := a.C_BadColours) (M := a.C_Mismatch) (f := f) (kd_k b) (kd_k c) hb (h := h) (w := w)
    have as := answers (a := a) Ac A1 A2 t (face_bc o Ac A1 A2 (face_ex Ac A1 A2 ck)) (back_bc o Ac A1 A2 (back_ex Ac A1 A2 ck)) (hidden_bc o Ac A1 A2 (hidden_ex Ac A1 A2 ck))
    simp only [hb2, Bool.false_eq_true, if_false] at wd mk
    have ne : ("BadColours" : Str) ≠ "" := by decide +kernel
    simp (disch := (first | assumption | omega | (simp only [List.length_map, List.length_range, List.length_append, List.length_reverse, List.length_cons, List.length_nil, rowsD_len, rangeD_len, mkRow_len, bit_len] <;> omega) | fail)) [-u_oInt_1, -u_oInt_2, -u_oInt0_1, List.getElem?_cons_zero, List.getElem?_cons_succ, le_sl, lt_sl, oMod_p, oDiv_p, oMul_p, oSub_p, oPow_p, ixL, ixT, lenL, lenT, lenS, listL, listT, tupL, tupT, revL, mApp, mExt, gR, setN, fldI, fldO, fIx, chkT, dChn, valOk_n, valFree_n, valOk_i, valFree_i, putD_n, putD_0, sForRg, rgGo_s, forL_n, forL_c, rg_0, rg_1, rg_2, rg_3, rg_4, D__law_refused, b__law_refused, if__law_refused_1, if__law_refused_2, if__law_refused_3, fo__law_refused_1, fb__law_refused_1, g0, lr, wd, mk, hd, as, an, lt_fz, lt_un, lt_list, lt_shr, ne_intsL, ne]
end Wk21

namespace Wk21
open PySem PySem.Spec PyProof.Rows L2 VS
theorem exF {h w i j : Nat} {f : Nat → Nat → Bool} (d : Dim h w) (hi : i < h) (hj : j < w) : ∃ f', D__law_exchange [.nd (.lst false) (rowsD h w f), .v (.int i), .v (.int j)] = .ok (.nd (.lst true) (rowsD h w f'), []) := by
  obtain ⟨rows, e, hl, hz⟩ := exchange (rows := mk h w f) (h := h) (w := w) (mk_len h w f) (fun z m => mk_mem m) hi hj (by have := d.h1; omega) (by have := d.w1; omega)
  obtain ⟨f', e2⟩ := rowsD_eq hz
  refine ⟨f', ?_⟩
  rw [hl] at e2
  rw [← e2]; exact e
theorem frows {N : Nat} {L : List D} {h w : Nat} (d : Dim h w) (hN : N + 1000000 < BIG) (hx : St N (stN L)) :
    ∃ f L', D__law_free_rows [stN L, .v (.int h), .v (.int w)] = .ok (.nd (.lst true) (rowsD h w f), [stN L']) ∧ St (N + 1000000) (stN L') ∧ D.hass NK.isShr L' = false := by
  have h1 := d.h1
  have w1 := d.w1
  obtain ⟨rows, x', e, hl, hz, hs⟩ := free_rows (h := h) (w := w) (by omega) (by omega) (by omega) (by omega) hN hx
  obtain ⟨L', rfl, hL⟩ := hs.nd
  have hl2 : rows.length = h := by omega
  obtain ⟨f', e2⟩ := rowsD_eq (rows := rows) (w := w) (fun z m => ⟨by have := (hz z m).1; omega, (hz z m).2⟩)
  rw [hl2] at e2
  exact ⟨f', L', by rw [e, e2], hs, hL⟩
structure Cols (n : Nat) (ws : List Int) : Prop where
  l : ws.length = n
  c : ∀ x ∈ ws, colB x = true
theorem Cols.set {n : Nat} {ws : List Int} (h : Cols n ws) {i : Nat} {v : Int} (h0 : 0 ≤ v) (h1 : v < 6) : Cols n (ws.set i v) := ⟨by simp [h.l], fun x m => by
  rcases List.mem_or_eq_of_mem_set m with m | rfl
  · exact h.c x m
  · simp [colB]; omega⟩
theorem Cols.hy {h w : Nat} {wp wf : List Int} (d : Dim h w) (a : Cols w wp) (b : Cols h wf) : Hy (.lst false) (.lst false) h w wp wf := ⟨.inr rfl, .inr rfl, fit_of a.c (by rw [a.l]; exact d.w0) (by rw [a.l]; exact d.w1), fit_of b.c (by rw [b.l]; exact d.h0) (by rw [b.l]; exact d.h1), a.l, b.l, d⟩
abbrev CA (a : Ad) (X : Addr → Addr → Addr → Addr → Addr → S) : S := X a.C_Cloth a.C_MillError a.C_BadColours a.C_TooLarge a.C_Mismatch
theorem edit {a : Ad} (o : NeA a) {N : Nat} {L : List D} {h w : Nat} {f : Nat → Nat → Bool} {wp wf : List Int} (hN : N + 10 < BIG) (hx : St N (stN L)) (d : Dim h w) (A : Cols w wp) (B : Cols h wf) (x0 x4 x5 x6 x7 x8 x14 x15 x16 x17 x18 x19 : D) (t : Int) (k : Nat) :
    ∃ (L' : List D) (f' : Nat → Nat → Bool) (wp' wf' : List Int) (y17 y18 y19 : D), CA a fb_law_1 [x0, stN L, .v (.int h), .v (.int w), x4, x5, x6, x7, x8, .v (.int t), .nd (.lst true) (rowsD h w f), .nd (.lst true) (wp.map D.int), .nd (.lst true) (wf.map D.int), .v (.int k), x14, x15, x16, x17, x18, x19] =
      .nx [x0, stN L', .v (.int h), .v (.int w), x4, x5, x6, x7, x8, .v (.int t), .nd (.lst true) (rowsD h w f'), .nd (.lst true) (wp'.map D.int), .nd (.lst true) (wf'.map D.int), .v (.int k), x14, x15, x16, y17, y18, y19] ∧ St (N + 4) (stN L') ∧ Cols w wp' ∧ Cols h wf' := by
  have h0 := d.h0
  have h1 := d.h1
  have w0 := d.w0
  have w1 := d.w1
  have sh := shows (f := f) o (A.hy d B) (t + k)
  obtain ⟨i, L1, e1, i0, i1, s1, q1⟩ := drawL (by omega) hx (n := h) (by omega) (by omega)
  obtain ⟨j, L2, e2, j0, j1, s2, q2⟩ := drawL (by omega) s1 (n := w) (by omega) (by omega)
  obtain ⟨kd', L3, e3, k0, k1, s3, q3⟩ := drawL (by omega) s2 (n := 4) (by omega) (by omega)
  obtain ⟨c, L4, e4, c0, c1, s4, q4⟩ := drawL (by omega) s3 (n := 6) (by omega) (by omega)
  have hc : kd' = 0 ∨ kd' = 1 ∨ 1 < kd' := by omega
  obtain ⟨i, rfl⟩ := Int.eq_ofNat_of_zero_le i0
  obtain ⟨j, rfl⟩ := Int.eq_ofNat_of_zero_le j0
  have ni : ixN wf.length (i : Int) = some i := by rw [ixN_pos (by omega) (by rw [B.l]; exact i1)]; rfl
  have nj : ixN wp.length (j : Int) = some j := by rw [ixN_pos (by omega) (by rw [A.l]; exact j1)]; rfl
  rcases hc with rfl | rfl | hc
  · refine ⟨L4, f, wp.set j c, wf, .v (.int i), .v (.int j), .v (.int 0), ?_, s4, A.set c0 c1, B⟩
    simp (disch := (first | assumption | omega | (simp only [List.length_map, List.length_range, List.length_append, List.length_reverse, List.length_cons, List.length_nil, rowsD_len, rangeD_len, mkRow_len, bit_len] <;> omega) | fail)) [-u_oInt_1, -u_oInt_2, -u_oInt0_1, List.getElem?_cons_zero, List.getElem?_cons_succ, le_sl, lt_sl, oMod_p, oDiv_p, oMul_p, oSub_p, oPow_p, ixL, ixT, lenL, lenT, lenS, listL, listT, tupL, tupT, revL, mApp, mExt, gR, setN, fldI, fldO, fIx, chkT, dChn, valOk_n, valFree_n, valOk_i, valFree_i, putD_n, putD_0, sForRg, rgGo_s, forL_n, forL_c, rg_0, rg_1, rg_2, rg_3, rg_4, fb_law_1, if_law_2, if_law_3, if_law_4, if_law_5, sh, e1, q1, e2, q2, e3, q3, e4, q4, nj]
  · refine ⟨L4, f, wp, wf.set i c, .v (.int i), .v (.int j), .v (.int 1), ?_, s4, A, B.set c0 c1⟩
    simp (disch := (first | assumption | omega | (simp only [List.length_map, List.length_range, List.length_append, List.length_reverse, List.length_cons, List.length_nil, rowsD_len, rangeD_len, mkRow_len, bit_len] <;> omega) | fail)) [-u_oInt_1, -u_oInt_2, -u_oInt0_1, List.getElem?_cons_zero, List.getElem?_cons_succ, le_sl, lt_sl, oMod_p, oDiv_p, oMul_p, oSub_p, oPow_p, ixL, ixT, lenL, lenT, lenS, listL, listT, tupL, tupT, revL, mApp, mExt, gR, setN, fldI, fldO, fIx, chkT, dChn, valOk_n, valFree_n, valOk_i, valFree_i, putD_n, putD_0, sForRg, rgGo_s, forL_n, forL_c, rg_0, rg_1, rg_2, rg_3, rg_4, fb_law_1, if_law_2, if_law_3, if_law_4, if_law_5, sh, e1, q1, e2, q2, e3, q3, e4, q4, ni]
  · obtain ⟨f', ex⟩ := exF (f := f) d (i := i) (j := j) (by omega) (by omega)
    have n0 : ¬ kd' = 0 := by omega
    have n1 : ¬ kd' = 1 := by omega
    refine ⟨L3, f', wp, wf, .v (.int i), .v (.int j), .v (.int kd'), ?_, s3.le (by omega), A, B⟩
    simp (disch := (first | assumption | omega | (simp only [List.length_map, List.length_range, List.length_append, List.length_reverse, List.length_cons, List.length_nil, rowsD_len, rangeD_len, mkRow_len, bit_len] <;> omega) | fail)) [-u_oInt_1, -u_oInt_2, -u_oInt0_1, List.getElem?_cons_zero, List.getElem?_cons_succ, le_sl, lt_sl, oMod_p, oDiv_p, oMul_p, oSub_p, oPow_p, ixL, ixT, lenL, lenT, lenS, listL, listT, tupL, tupT, revL, mApp, mExt, gR, setN, fldI, fldO, fIx, chkT, dChn, valOk_n, valFree_n, valOk_i, valFree_i, putD_n, putD_0, sForRg, rgGo_s, forL_n, forL_c, rg_0, rg_1, rg_2, rg_3, rg_4, fb_law_1, if_law_2, if_law_3, if_law_4, if_law_5, sh, e1, q1, e2, q2, e3, q3, ex, n0, n1, hc]
end Wk21

namespace Wk21
open PySem PySem.Spec PyProof.Rows L2 VS
theorem law_true (a : Ad) (ns : List Int) (o : NeA a) (hl : ns.length ≤ 63) : ∃ os, D_law a.C_Cloth a.C_MillError a.C_BadColours a.C_TooLarge a.C_Mismatch [.nd .scr (ns.map D.int)] = .ok (.v (.bl true), os) := by
  have bg : BIG = 1000000000000 := rfl
  obtain ⟨L0, e0, s0, q0⟩ := start hl
  obtain ⟨h, L1, e1, h0, h1, s1, q1⟩ := sideR (most := 60) (by omega) s0 (by omega) (by omega)
  obtain ⟨w, L2, e2, w0, w1, s2, q2⟩ := sideR (most := 60) (by omega) s1 (by omega) (by omega)
  have d : Dim h w := ⟨h0, h1, w0, w1⟩
  obtain ⟨f, L3, e3, s3, q3⟩ := frows d (by omega) s2
  obtain ⟨sp, L4, e4, p0, p1, s4, q4⟩ := drawL (by omega) s3 (n := 6) (by omega) (by omega)
  obtain ⟨wp, L5, e5, l5, c5, s5, q5⟩ := colours (c := w) (sp := 1 + sp) (by omega) s4 (by omega) (by omega) (by omega)
  obtain ⟨wf, L6, e6, l6, c6, s6, q6⟩ := colours (c := h) (sp := 1 + sp) (by omega) s5 (by omega) (by omega) (by omega)
  obtain ⟨cn, L7, e7, n0, n1, s7, q7⟩ := drawL (by omega) s6 (n := 5) (by omega) (by omega)
  obtain ⟨t, L8, e8, t0, t1, s8, q8⟩ := drawL (by omega) s7 (n := 12) (by omega) (by omega)
  have A : Cols w wp := ⟨l5, c5⟩
  have B : Cols h wf := ⟨l6, c6⟩
  have key : ∀ c : Nat, c ≤ 6 → ∀ x8 : D, ∃ t', sFor .tmp [13, 1, 17, 1, 18, 1, 19, 1, 11, 1, 12, 10] (dRg1 (dAcons (.vw [8]) [] (dn 8) dAnil)) (gdN 13) (CA a fb_law_1) [.nd .scr (ns.map D.int), stN L8, .v (.int h), .v (.int w), .nd (.lst true) (rowsD h w f), .v (.int (1 + sp)), .nd (.lst true) (wp.map D.int), .nd (.lst true) (wf.map D.int), .v (.int c), .v (.int t), .nd (.lst true) (rowsD h w f), .nd (.lst true) (wp.map D.int), .nd (.lst true) (wf.map D.int), .un, .un, .un, .un, .un, .un, .un] = .nx t' ∧
      ∃ (L' : List D) (f' : Nat → Nat → Bool) (wp' wf' : List Int) (y13 y17 y18 y19 : D), t' = [.nd .scr (ns.map D.int), stN L', .v (.int h), .v (.int w), .nd (.lst true) (rowsD h w f), .v (.int (1 + sp)), .nd (.lst true) (wp.map D.int), .nd (.lst true) (wf.map D.int), .v (.int c), .v (.int t), .nd (.lst true) (rowsD h w f'), .nd (.lst true) (wp'.map D.int), .nd (.lst true) (wf'.map D.int), y13, .un, .un, .un, y17, y18, y19] ∧ St (N := 3000000) (stN L') ∧ Cols w wp' ∧ Cols h wf' := fun c hc x8 => by
    refine (forN (n := c) (fun k s => ∃ (L' : List D) (f' : Nat → Nat → Bool) (wp' wf' : List Int) (y13 y17 y18 y19 : D), s = [.nd .scr (ns.map D.int), stN L', .v (.int h), .v (.int w), .nd (.lst true) (rowsD h w f), .v (.int (1 + sp)), .nd (.lst true) (wp.map D.int), .nd (.lst true) (wf.map D.int), .v (.int c), .v (.int t), .nd (.lst true) (rowsD h w f'), .nd (.lst true) (wp'.map D.int), .nd (.lst true) (wf'.map D.int), y13, .un, .un, .un, y17, y18, y19] ∧ St (2000000 + 4 * k) (stN L') ∧ Cols w wp' ∧ Cols h wf') (s1 := [.nd .scr (ns.map D.int), stN L8, .v (.int h), .v (.int w), .nd (.lst true) (rowsD h w f), .v (.int (1 + sp)), .nd (.lst true) (wp.map D.int), .nd (.lst true) (wf.map D.int), .v (.int c), .v (.int t), .nd (.lst true) (rowsD h w f), .nd (.lst true) (wp.map D.int), .nd (.lst true) (wf.map D.int), .un, .un, .un, .un, .un, .un, .un]) (by simp (disch := (first | assumption | omega | (simp only [List.length_map, List.length_range, List.length_append, List.length_reverse, List.length_cons, List.length_nil, rowsD_len, rangeD_len, mkRow_len, bit_len] <;> omega) | fail)) [-u_oInt_1, -u_oInt_2, -u_oInt0_1, List.getElem?_cons_zero, List.getElem?_cons_succ, le_sl, lt_sl, oMod_p, oDiv_p, oMul_p, oSub_p, oPow_p, ixL, ixT, lenL, lenT, lenS, listL, listT, tupL, tupT, revL, mApp, mExt, gR, setN, fldI, fldO, fIx, chkT, dChn, valOk_n, valFree_n, valOk_i, valFree_i, putD_n, putD_0, sForRg, rgGo_s, forL_n, forL_c, rg_0, rg_1, rg_2, rg_3, rg_4]) (by omega) ⟨L8, f, wp, wf, .un, .un, .un, .un, rfl, s8.le (by omega), A, B⟩ ?_).imp fun t' ht => ⟨ht.1, ?_⟩
    · rintro k s hk ⟨L', f', wp', wf', y13, y17, y18, y19, rfl, hs, A', B'⟩
      obtain ⟨L2', f2, wp2, wf2, z17, z18, z19, e, hs2, A2, B2⟩ := edit o (f := f') (by omega) hs d A' B' (.nd .scr (ns.map D.int)) (.nd (.lst true) (rowsD h w f)) (.v (.int (1 + sp))) (.nd (.lst true) (wp.map D.int)) (.nd (.lst true) (wf.map D.int)) (.v (.int c)) .un .un .un y17 y18 y19 t k
      exact ⟨_, .inl e, L2', f2, wp2, wf2, _, z17, z18, z19, rfl, hs2.le (by omega), A2, B2⟩
    · obtain ⟨L', f', wp', wf', y13, y17, y18, y19, rfl, hs, A', B'⟩ := ht.2
      exact ⟨L', f', wp', wf', y13, y17, y18, y19, rfl, hs.le (by omega), A', B'⟩
  have hm : ((h : Int) * w > 150) ∨ ¬ ((h : Int) * w > 150) := by omega
  have bm : (h : Int) * w ≤ 3600 := by
    have : h * w ≤ 60 * 60 := Nat.mul_le_mul h1 w1
    have e : ((h * w : Nat) : Int) = (h : Int) * w := by simp
    omega
  have sh0 := shows (f := f) o (A.hy d B) (t + 3)
  obtain ⟨cn, rfl⟩ := Int.eq_ofNat_of_zero_le n0
  obtain ⟨cc, hcc, hc6⟩ : ∃ cc : Nat, (if 150 < (h : Int) * w then (1 : Int) else 2 + cn) = cc ∧ cc ≤ 6 := by
    by_cases hh : 150 < (h : Int) * w
    · exact ⟨1, by rw [if_pos hh]; rfl, by omega⟩
    · exact ⟨2 + cn, by rw [if_neg hh]; simp, by omega⟩
  obtain ⟨t', ek, L9, f', wp', wf', y13, y17, y18, y19, rfl, s9, A', B'⟩ := key cc hc6 .un
  have y := A'.hy d B'
  have sh1 := shows (f := f') o y t
  obtain ⟨bw, L10, e10, b10, s10, q10⟩ := spoilt (ws := wp') (by omega) s9 (by rw [A'.l]; omega) (by rw [A'.l]; omega)
  obtain ⟨bf, L11, e11, b11, s11, q11⟩ := spoilt (ws := wf') (by omega) s10 (by rw [B'.l]; omega) (by rw [B'.l]; omega)
  have lw : wp'.length ≤ 10000 := by rw [A'.l]; omega
  have lf : wf'.length ≤ 10000 := by rw [B'.l]; omega
  have r1 := refused (f := f') o y b10 b11 t
  have r2 := refused (f := f') o y b10 lf (t + 1)
  have r3 := refused (f := f') o y lw b11 (t + 2)
  have ei : CA a if_law_1 [.nd .scr (ns.map D.int), stN L7, .v (.int h), .v (.int w), .nd (.lst true) (rowsD h w f), .v (.int (1 + sp)), .nd (.lst true) (wp.map D.int), .nd (.lst true) (wf.map D.int), .v (.int (2 + cn)), .un, .un, .un, .un, .un, .un, .un, .un, .un, .un, .un] = .nx [.nd .scr (ns.map D.int), stN L7, .v (.int h), .v (.int w), .nd (.lst true) (rowsD h w f), .v (.int (1 + sp)), .nd (.lst true) (wp.map D.int), .nd (.lst true) (wf.map D.int), .v (.int cc), .un, .un, .un, .un, .un, .un, .un, .un, .un, .un, .un] := by
    by_cases hh : 150 < (h : Int) * w
    · rw [if_pos hh] at hcc
      rw [← hcc]
      simp (disch := (first | assumption | omega | (simp only [List.length_map, List.length_range, List.length_append, List.length_reverse, List.length_cons, List.length_nil, rowsD_len, rangeD_len, mkRow_len, bit_len] <;> omega) | fail)) [-u_oInt_1, -u_oInt_2, -u_oInt0_1, List.getElem?_cons_zero, List.getElem?_cons_succ, le_sl, lt_sl, oMod_p, oDiv_p, oMul_p, oSub_p, oPow_p, ixL, ixT, lenL, lenT, lenS, listL, listT, tupL, tupT, revL, mApp, mExt, gR, setN, fldI, fldO, fIx, chkT, dChn, valOk_n, valFree_n, valOk_i, valFree_i, putD_n, putD_0, sForRg, rgGo_s, forL_n, forL_c, rg_0, rg_1, rg_2, rg_3, rg_4, if_law_1, hh]
    · rw [if_neg hh] at hcc
      rw [← hcc]
      simp (disch := (first | assumption | omega | (simp only [List.length_map, List.length_range, List.length_append, List.length_reverse, List.length_cons, List.length_nil, rowsD_len, rangeD_len, mkRow_len, bit_len] <;> omega) | fail)) [-u_oInt_1, -u_oInt_2, -u_oInt0_1, List.getElem?_cons_zero, List.getElem?_cons_succ, le_sl, lt_sl, oMod_p, oDiv_p, oMul_p, oSub_p, oPow_p, ixL, ixT, lenL, lenT, lenS, listL, listT, tupL, tupT, revL, mApp, mExt, gR, setN, fldI, fldO, fIx, chkT, dChn, valOk_n, valFree_n, valOk_i, valFree_i, putD_n, putD_0, sForRg, rgGo_s, forL_n, forL_c, rg_0, rg_1, rg_2, rg_3, rg_4, if_law_1, hh]
  refine ⟨[], ?_⟩
  simp (disch := (first | assumption | omega | (simp only [List.length_map, List.length_range, List.length_append, List.length_reverse, List.length_cons, List.length_nil, rowsD_len, rangeD_len, mkRow_len, bit_len] <;> omega) | fail)) [-u_oInt_1, -u_oInt_2, -u_oInt0_1, List.getElem?_cons_zero, List.getElem?_cons_succ, le_sl, lt_sl, oMod_p, oDiv_p, oMul_p, oSub_p, oPow_p, ixL, ixT, lenL, lenT, lenS, listL, listT, tupL, tupT, revL, mApp, mExt, gR, setN, fldI, fldO, fIx, chkT, dChn, valOk_n, valFree_n, valOk_i, valFree_i, putD_n, putD_0, sForRg, rgGo_s, forL_n, forL_c, rg_0, rg_1, rg_2, rg_3, rg_4, D_law, b_law, fo_law_1, if_law_6, if_law_7, if_law_8, if_law_9, e0, q0, e1, q1, e2, q2, e3, q3, e4, q4, e5, q5, e6, q6, e7, q7, e8, q8, ei, ek, sh0, sh1, e10, q10, e11, q11, r1, r2, r3, dfz, -sForRg]
end Wk21

open PySem PySem.W PyProof.Rows
set_option maxRecDepth 100000 in
set_option maxHeartbeats 0 in
theorem PySem.Challenge.cw_clothstead_k21_whole_faces_and_hidden_holds : PySem.Challenge.rw_clothstead_k21_whole_faces_and_hidden.Holds := by
  w_on; o_law; k_head; (case hw => w_witness2)
  k_fill
  refine VS.law_walkA (okc := fun a : Wk21.Ad => Wk21.Ne a.C_Cloth a.C_MillError a.C_BadColours a.C_TooLarge a.C_Mismatch) (l := PySem.Challenge.rw_clothstead_k21_whole_faces_and_hidden) (kk := 10) (DL := fun a : Wk21.Ad => Wk21.D_law a.C_Cloth a.C_MillError a.C_BadColours a.C_TooLarge a.C_Mismatch) rfl rfl ⟨rfl, by decide, by decide⟩ (fun w h Y => PySem.W.kIn_of Y) ?D ?F
  case D => exact fun C ns o h => Wk21.law_true C ns o h
  case F =>
    intro w mg fa h KX G hmg
    refine' Wk21.all_mk KX G hmg ?l_in_range ?c_in_range ?k_in_range ?l_colours_fit ?c_colours_fit ?k_colours_fit ?l_rows_fit ?c_rows_fit ?k_rows_fit ?l_Cloth___init__ ?c_Cloth___init__ ?k_Cloth___init__ ?l_other ?c_other ?k_other ?l_turned_over ?c_turned_over ?k_turned_over ?l_check_colours ?c_check_colours ?k_check_colours ?l_crossing_colours ?c_crossing_colours ?k_crossing_colours ?l_face ?c_face ?k_face ?l_back ?c_back ?k_back ?l_hidden ?c_hidden ?k_hidden ?l__law_start ?c__law_start ?k__law_start ?l__law_draw ?c__law_draw ?k__law_draw ?l__law_side ?c__law_side ?k__law_side ?l__law_same ?c__law_same ?k__law_same ?l__law_free_rows ?c__law_free_rows ?k__law_free_rows ?l__law_exchange ?c__law_exchange ?k__law_exchange ?l__law_turned ?c__law_turned ?k__law_turned ?l__law_rows_told ?c__law_rows_told ?k__law_rows_told ?l__law_picture ?c__law_picture ?k__law_picture ?l__law_colours ?c__law_colours ?k__law_colours ?l__law_due ?c__law_due ?k__law_due ?l__law_asked_face ?c__law_asked_face ?k__law_asked_face ?l__law_asked_back ?c__law_asked_back ?k__law_asked_back ?l__law_asked_hidden ?c__law_asked_hidden ?k__law_asked_hidden ?l__law_handed ?c__law_handed ?k__law_handed ?l__law_answers ?c__law_answers ?k__law_answers ?l__law_answered ?c__law_answered ?k__law_answered ?l__law_shows ?c__law_shows ?k__law_shows ?l__law_spoilt ?c__law_spoilt ?k__law_spoilt ?l__law_word_due ?c__law_word_due ?k__law_word_due ?l__law_refused ?c__law_refused ?k__law_refused ?l_law ?c_law ?k_law ?m_isinstance ?m_list ?m_tuple ?g_in_range ?m_len ?g_rows_fit ?c_SIGNS_ ?g_Cloth ?rd_Cloth ?ga_Cloth ?k_Cloth_MOST_ ?pg_Cloth ?hd_Cloth ?po_Cloth ?sa_Cloth ?na_Cloth_rows ?na_Cloth_picks ?na_Cloth_ends ?m_str ?m_sum ?i_Cloth___init__ ?mk1_Cloth ?mk2_Cloth ?mk3_Cloth ?g_other ?g_colours_fit ?g_BadColours ?xi_BadColours ?xk_BadColours ?xb_BadColours ?xt_BadColours ?g_Mismatch ?xi_Mismatch ?xk_Mismatch ?xb_Mismatch ?xt_Mismatch ?g_check_colours ?m_range ?g_crossing_colours ?c_DIGITS_ ?m_int ?m_abs ?g__law_draw ?m_min ?m_bool ?g__law_same ?g__law_picture ?g__law_turned ?g_face ?g_MillError ?xb_MillError ?xt_MillError ?m_ValueError ?g_TooLarge ?g_back ?g_hidden ?g__law_asked_face ?g__law_asked_back ?g__law_asked_hidden ?g__law_due ?g__law_handed ?g__law_answers ?g__law_rows_told ?g__law_answered ?g_turned_over ?g__law_word_due ?g__law_shows ?g__law_start ?g__law_side ?g__law_free_rows ?g__law_colours ?g__law_exchange ?g__law_spoilt ?g__law_refused ?icl_Cloth ?tyc_Cloth ?is_0 ?is_1 ?is_2 ?is_3 ?is_4 ?is_5 ?in1_Cloth ?in2_Cloth ?in3 ?in4 ?nm_Cloth ?nm_MillError ?nm_BadColours ?nm_TooLarge ?nm_Mismatch ?xm_BadColours_Mismatch ?icl_Mismatch ?tyc_Mismatch ?xm_BadColours_TooLarge ?icl_TooLarge ?tyc_TooLarge ?xm_BadColours_ValueError ?xm_Mismatch_TooLarge ?xm_Mismatch_ValueError ?xm_BadColours_MillError ?hdx_MillError ?xg1_BadColours ?xg2_BadColours ?xg3_BadColours ?xg4_BadColours ?hdx_BadColours ?xm_BadColours_BadColours ?hdx_Mismatch ?xm_Mismatch_MillError ?xg1_Mismatch ?xg2_Mismatch ?xg3_Mismatch ?xg4_Mismatch ?xm_Mismatch_BadColours ?xm_Mismatch_Mismatch ?glaw
    (case g_in_range => k_is)
    (case g_rows_fit => k_is)
    (case g_Cloth => k_is)
    (case g_other => k_is)
    (case g_colours_fit => k_is)
    (case g_BadColours => k_is)
    (case g_Mismatch => k_is)
    (case g_check_colours => k_is)
    (case g_crossing_colours => k_is)
    (case g__law_draw => k_is)
    (case g__law_same => k_is)
    (case g__law_picture => k_is)
    (case g__law_turned => k_is)
    (case g_face => k_is)
    (case g_MillError => k_is)
    (case g_TooLarge => k_is)
    (case g_back => k_is)
    (case g_hidden => k_is)
    (case g__law_asked_face => k_is)
    (case g__law_asked_back => k_is)
    (case g__law_asked_hidden => k_is)
    (case g__law_due => k_is)
    (case g__law_handed => k_is)
    (case g__law_answers => k_is)
    (case g__law_rows_told => k_is)
    (case g__law_answered => k_is)
    (case g_turned_over => k_is)
    (case g__law_word_due => k_is)
    (case g__law_shows => k_is)
    (case g__law_start => k_is)
    (case g__law_side => k_is)
    (case g__law_free_rows => k_is)
    (case g__law_colours => k_is)
    (case g__law_exchange => k_is)
    (case g__law_spoilt => k_is)
    (case g__law_refused => k_is)
    (case glaw => k_is)
    (case mk2_Cloth => k_is)
    (case l_in_range => k_is)
    (case l_colours_fit => k_is)
    (case l_rows_fit => k_is)
    (case l_Cloth___init__ => k_is)
    (case l_other => k_is)
    (case l_turned_over => k_is)
    (case l_check_colours => k_is)
    (case l_crossing_colours => k_is)
    (case l_face => k_is)
    (case l_back => k_is)
    (case l_hidden => k_is)
    (case l__law_start => k_is)
    (case l__law_draw => k_is)
    (case l__law_side => k_is)
    (case l__law_same => k_is)
    (case l__law_free_rows => k_is)
    (case l__law_exchange => k_is)
    (case l__law_turned => k_is)
    (case l__law_rows_told => k_is)
    (case l__law_picture => k_is)
    (case l__law_colours => k_is)
    (case l__law_due => k_is)
    (case l__law_asked_face => k_is)
    (case l__law_asked_back => k_is)
    (case l__law_asked_hidden => k_is)
    (case l__law_handed => k_is)
    (case l__law_answers => k_is)
    (case l__law_answered => k_is)
    (case l__law_shows => k_is)
    (case l__law_spoilt => k_is)
    (case l__law_word_due => k_is)
    (case l__law_refused => k_is)
    (case l_law => k_is)
    (case nm_Cloth => k_is)
    (case nm_MillError => k_is)
    (case nm_BadColours => k_is)
    (case nm_TooLarge => k_is)
    (case nm_Mismatch => k_is)
    (case c_in_range => k_is)
    (case k_in_range => k_is)
    (case c_colours_fit => k_is)
    (case k_colours_fit => k_is)
    (case c_rows_fit => k_is)
    (case k_rows_fit => k_is)
    (case c_Cloth___init__ => k_is)
    (case k_Cloth___init__ => k_is)
    (case c_other => k_is)
    (case k_other => k_is)
    (case c_turned_over => k_is)
    (case k_turned_over => k_is)
    (case c_check_colours => k_is)
    (case k_check_colours => k_is)
    (case c_crossing_colours => k_is)
    (case k_crossing_colours => k_is)
    (case c_face => k_is)
    (case k_face => k_is)
    (case c_back => k_is)
    (case k_back => k_is)
    (case c_hidden => k_is)
    (case k_hidden => k_is)
    (case c__law_start => k_is)
    (case k__law_start => k_is)
    (case c__law_draw => k_is)
    (case k__law_draw => k_is)
    (case c__law_side => k_is)
    (case k__law_side => k_is)
    (case c__law_same => k_is)
    (case k__law_same => k_is)
    (case c__law_free_rows => k_is)
    (case k__law_free_rows => k_is)
    (case c__law_exchange => k_is)
    (case k__law_exchange => k_is)
    (case c__law_turned => k_is)
    (case k__law_turned => k_is)
    (case c__law_rows_told => k_is)
    (case k__law_rows_told => k_is)
    (case c__law_picture => k_is)
    (case k__law_picture => k_is)
    (case c__law_colours => k_is)
    (case k__law_colours => k_is)
    (case c__law_due => k_is)
    (case k__law_due => k_is)
    (case c__law_asked_face => k_is)
    (case k__law_asked_face => k_is)
    (case c__law_asked_back => k_is)
    (case k__law_asked_back => k_is)
    (case c__law_asked_hidden => k_is)
    (case k__law_asked_hidden => k_is)
    (case c__law_handed => k_is)
    (case k__law_handed => k_is)
    (case c__law_answers => k_is)
    (case k__law_answers => k_is)
    (case c__law_answered => k_is)
    (case k__law_answered => k_is)
    (case c__law_shows => k_is)
    (case k__law_shows => k_is)
    (case c__law_spoilt => k_is)
    (case k__law_spoilt => k_is)
    (case c__law_word_due => k_is)
    (case k__law_word_due => k_is)
    (case c__law_refused => k_is)
    (case k__law_refused => k_is)
    (case c_law => k_is)
    (case k_law => k_is)
    (case m_isinstance => k_is)
    (case m_list => k_is)
    (case m_tuple => k_is)
    (case m_len => k_is)
    (case c_SIGNS_ => k_is)
    (case rd_Cloth => k_is)
    (case ga_Cloth => k_is)
    (case k_Cloth_MOST_ => k_is)
    (case pg_Cloth => k_is)
    (case hd_Cloth => k_is)
    (case po_Cloth => k_is)
    (case sa_Cloth => k_is)
    (case na_Cloth_rows => k_is)
    (case na_Cloth_picks => k_is)
    (case na_Cloth_ends => k_is)
    (case m_str => k_is)
    (case m_sum => k_is)
    (case i_Cloth___init__ => k_is)
    (case mk1_Cloth => k_is)
    (case mk3_Cloth => k_is)
    (case xi_BadColours => k_exc)
    (case xk_BadColours => k_is)
    (case xb_BadColours => k_is)
    (case xt_BadColours => k_is)
    (case xi_Mismatch => k_exc)
    (case xk_Mismatch => k_is)
    (case xb_Mismatch => k_is)
    (case xt_Mismatch => k_is)
    (case m_range => k_is)
    (case c_DIGITS_ => k_is)
    (case m_int => k_is)
    (case m_abs => k_is)
    (case m_min => k_is)
    (case m_bool => k_is)
    (case xb_MillError => k_is)
    (case xt_MillError => k_is)
    (case m_ValueError => k_is)
    (case icl_Cloth => k_is)
    (case tyc_Cloth => k_is)
    (case is_0 => k_is)
    (case is_1 => k_is)
    (case is_2 => k_is)
    (case is_3 => k_is)
    (case is_4 => k_is)
    (case is_5 => k_is)
    (case in1_Cloth => k_is)
    (case in2_Cloth => k_is)
    (case in3 => k_is)
    (case in4 => k_is)
    (case xm_BadColours_Mismatch => k_is)
    (case icl_Mismatch => k_is)
    (case tyc_Mismatch => k_is)
    (case xm_BadColours_TooLarge => k_is)
    (case icl_TooLarge => k_is)
    (case tyc_TooLarge => k_is)
    (case xm_BadColours_ValueError => k_is)
    (case xm_Mismatch_TooLarge => k_is)
    (case xm_Mismatch_ValueError => k_is)
    (case xm_BadColours_MillError => k_is)
    (case hdx_MillError => k_is)
    (case xg1_BadColours => k_is)
    (case xg2_BadColours => k_is)
    (case xg3_BadColours => k_is)
    (case xg4_BadColours => k_is)
    (case hdx_BadColours => k_is)
    (case xm_BadColours_BadColours => k_is)
    (case hdx_Mismatch => k_is)
    (case xm_Mismatch_MillError => k_is)
    (case xg1_Mismatch => k_is)
    (case xg2_Mismatch => k_is)
    (case xg3_Mismatch => k_is)
    (case xg4_Mismatch => k_is)
    (case xm_Mismatch_BadColours => k_is)
    (case xm_Mismatch_Mismatch => k_is)
